import PyProof.Rows.All
import Wide.All
import OpenK.AllK
import Wide.FinOn
import PySem.Challenge.RW_trundleyard_k80_three_way_merges
import HandS.ForMost
import HandS.ForExc
import HandS.DictComp
import HandS.More
import HandS.Wide
import HandS.Deep
import HandS.TupAny
import HandS.IsInst
import HandS.Small
import HandS.Flow
import HandS.Style
import HandS.ExcInit
import HandS.ExcField
import HandS.Ends
import HandS.TryMany
import HandS.DeepEq
import HandS.SortInts
import HandS.TupLe
set_option Elab.async false
set_option linter.all false
set_option maxRecDepth 100000
set_option maxHeartbeats 4000000
namespace VL
open PySem PySem.Spec PyProof.Rows L2

/-! ## plain data -/
inductive D where
  | non | bl (b : Bool) | int (i : Int) | str (x : Str)
  | lst (xs : List D) | tup (xs : List D) | dic (kvs : List (Key × D)) | dtt (kvs : List (List Key × D))
  | ins (C : Str) (fs : List (Str × D)) | sset (xs : List Key)
deriving Inhabited

def D.flat : D → Bool
  | .non => true | .bl _ => true | .int _ => true | .str _ => true | _ => false
abbrev Own := Addr → Prop
/-- a written tuple -/
def WrT (K : PySem.W.Frag) (a : Addr) (xs : List V) : Prop :=
  ∃ (o : Obj) (its : Array Value) (n : Nat), K.lookup a = some o ∧ o.cls = .type "tuple" ∧ o.data = .seq its n ∧ its.size ≤ sizeLine ∧ Vals xs its.toList
def RL (_ : PySem.W.Frag) (S : Own) (H : Hp) (a : Addr) (xs : List V) : Prop := ¬ S a ∧ Rd H a (.lst xs)
/-- the script: a list, or a written one -/
def RS (K : PySem.W.Frag) (S : Own) (H : Hp) (a : Addr) (xs : List V) : Prop := (¬ S a ∧ Rd H a (.lst xs)) ∨
  ∃ (o : Obj) (its : Array Value) (n : Nat), K.lookup a = some o ∧ o.cls = .type "list" ∧ o.dict = none ∧ o.data = .seq its n ∧ its.size ≤ sizeLine ∧ Vals xs its.toList
def RT (K : PySem.W.Frag) (S : Own) (H : Hp) (a : Addr) (xs : List V) : Prop := (¬ S a ∧ Rd H a (.tup xs)) ∨ WrT K a xs

section
variable (K : PySem.W.Frag) (S : Own) (H : Hp)
mutual
/-- v is the datum d, its objects none of S -/
inductive Rep : V → D → Prop
  | non : Rep .non .non
  | bl (b : Bool) : Rep (.bl b) (.bl b)
  | int (i : Int) : Rep (.int i) (.int i)
  | str (x : Str) : Rep (.str x) (.str x)
  | lst {a : Addr} {vs : List V} {ds : List D} : RL K S H a vs → Reps vs ds → Rep (.ref a) (.lst ds)
  | tup {a : Addr} {vs : List V} {ds : List D} : RT K S H a vs → Reps vs ds → Rep (.ref a) (.tup ds)
  | dic {a : Addr} {vs : List (Key × V)} {ds : List (Key × D)} : ¬ S a → Rd H a (.dK vs) → RepKs vs ds → Rep (.ref a) (.dic ds)
  | scr {a : Addr} {ns : List Int} {ks : List Key} : ks = ns.map Sum.inl → RS K S H a (ns.map V.int) → Rep (.ref a) (.sset ks)
inductive Reps : List V → List D → Prop
  | nil : Reps [] []
  | cons {v : V} {vs : List V} {d : D} {ds : List D} : Rep v d → Reps vs ds → Reps (v :: vs) (d :: ds)
inductive RepKs : List (Key × V) → List (Key × D) → Prop
  | nil : RepKs [] []
  | cons {k : Key} {v : V} {vs : List (Key × V)} {d : D} {ds : List (Key × D)} : Rep v d → RepKs vs ds → RepKs ((k, v) :: vs) ((k, d) :: ds)
end
mutual
/-- v is d, its upper n layers owned, at the addresses fp -/
inductive Al : Nat → V → D → List Addr → Prop
  | zero {v : V} {d : D} : Rep K S H v d → Al 0 v d []
  | fl {n : Nat} {v : V} {d : D} : d.flat = true → Rep K S H v d → Al (n + 1) v d []
  | tup {n : Nat} {a : Addr} {v : V} {vs : List V} {d : D} {ds : List D} {fp : List Addr} : ¬ S a → Rd H a (.tup (v :: vs)) → Al n v d fp → Reps K S H vs ds → Al (n + 1) (.ref a) (.tup (d :: ds)) fp
  | lst {n : Nat} {a : Addr} {vs : List V} {ds : List D} {fp : List Addr} : S a → H a = some (.lst vs) → Als n vs ds fp → Al (n + 1) (.ref a) (.lst ds) (a :: fp)
  | dic {n : Nat} {a : Addr} {vs : List (Key × V)} {ds : List (Key × D)} {fp : List Addr} : S a → H a = some (.dK vs) → AlKs n vs ds fp → Al (n + 1) (.ref a) (.dic ds) (a :: fp)
inductive Als : Nat → List V → List D → List Addr → Prop
  | nil {n : Nat} : Als n [] [] []
  | cons {n : Nat} {v : V} {vs : List V} {d : D} {ds : List D} {f g : List Addr} : Al n v d f → Als n vs ds g → Als n (v :: vs) (d :: ds) (f ++ g)
inductive AlKs : Nat → List (Key × V) → List (Key × D) → List Addr → Prop
  | nil {n : Nat} : AlKs n [] [] []
  | cons {n : Nat} {k : Key} {v : V} {vs : List (Key × V)} {d : D} {ds : List (Key × D)} {f g : List Addr} : Al n v d f → AlKs n vs ds g → AlKs n ((k, v) :: vs) ((k, d) :: ds) (f ++ g)
end
end

/-- a thing itself, not a lock on one -/
def Pl : HO → Prop
  | .frz _ _ => False
  | _ => True
/-- what stays of what is shared -/
structure Tr (S : Own) (H : Hp) (S' : Own) (H' : Hp) : Prop where
  keep : ∀ b u, Pl u → ¬ S b → Rd H b u → Rd H' b u
  new : ∀ b, S' b → S b ∨ H b = none
  dom : ∀ b, H' b = none → H b = none
theorem rd_some {H : Hp} {a : Addr} {u : HO} (r : Rd H a u) : H a ≠ none := fun z => by
  rcases r with r | ⟨o, r⟩ <;> (rw [z] at r; cases r)
section
variable {K : PySem.W.Frag} {S S' S2 : Own} {H H' H2 : Hp}
theorem Tr.refl : Tr S H S H := ⟨fun _ _ _ _ r => r, fun _ h => .inl h, fun _ h => h⟩
theorem Tr.trans (a : Tr S H S' H') (b : Tr S' H' S2 H2) : Tr S H S2 H2 :=
  ⟨fun c u l n r => b.keep c u l (fun z => (a.new c z).elim n (rd_some r)) (a.keep c u l n r),
   fun c h => (b.new c h).elim (a.new c) fun z => .inr (a.dom c z), fun c h => a.dom c (b.dom c h)⟩
theorem Tr.notin (t : Tr S H S' H') {a : Addr} {u : HO} (n : ¬ S a) (r : Rd H a u) : ¬ S' a := fun z => (t.new a z).elim n (rd_some r)
theorem Tr.same (s : Same H H') : Tr S H S H' := ⟨fun b u _ _ r => by
    rcases r with r | ⟨o, r⟩
    · exact .inl (s b _ r)
    · exact .inr ⟨o, s b _ r⟩, fun _ h => .inl h, fun b h => s.free h⟩
/-- fewer are owned -/
theorem Tr.less (h : ∀ b, S' b → S b) : Tr S H S' H := ⟨fun _ _ _ _ r => r, fun b z => .inl (h b z), fun _ z => z⟩
theorem same_upd' {p : Addr} {o : HO} (h : H p = none) : Same H (upd H p o) := fun b u e => by rw [upd_ne (ne_of_none e h)]; exact e
/-- a new object, owned -/
theorem Tr.fresh {p : Addr} {o : HO} (h : H p = none) : Tr S H (fun b => S b ∨ b = p) (upd H p o) :=
  ⟨fun b u l n r => (Tr.same (S := S) (same_upd' h)).keep b u l n r, fun b z => z.elim .inl fun e => .inr (by rw [e]; exact h), fun b z => (same_upd' h).free z⟩
/-- an owned object is written -/
theorem Tr.write {p : Addr} {o : HO} (h : S p) : Tr S H S (upd H p o) :=
  ⟨fun b u _ n r => by
    have ne : b ≠ p := fun e => n (e ▸ h)
    unfold Rd
    rw [upd_ne ne]; exact r, fun _ z => .inl z, fun b z => by
    by_cases e : b = p
    · subst e; rw [upd_same] at z; cases z
    · rw [upd_ne e] at z; exact z⟩
theorem RL.mono (t : Tr S H S' H') {a : Addr} {vs : List V} (r : RL K S H a vs) : RL K S' H' a vs := ⟨t.notin r.1 r.2, t.keep a _ trivial r.1 r.2⟩
theorem RT.mono (t : Tr S H S' H') {a : Addr} {vs : List V} (r : RT K S H a vs) : RT K S' H' a vs := by
  rcases r with ⟨n, r⟩ | r
  · exact .inl ⟨t.notin n r, t.keep a _ trivial n r⟩
  · exact .inr r
theorem RS.mono (t : Tr S H S' H') {a : Addr} {vs : List V} (r : RS K S H a vs) : RS K S' H' a vs := by
  rcases r with ⟨n, r⟩ | r
  · exact .inl ⟨t.notin n r, t.keep a _ trivial n r⟩
  · exact .inr r
theorem RS.sq {a : Addr} {vs : List V} (r : RS K S H a vs) : SqL K H a vs := r.elim (fun z => .inl z.2) .inr
theorem RL.sq {a : Addr} {vs : List V} (r : RL K S H a vs) : SqL K H a vs := .inl r.2
theorem RT.sq {a : Addr} {vs : List V} (r : RT K S H a vs) : SqT K H a vs := r.elim (fun z => .inl z.2) .inr
mutual
theorem Rep.mono (t : Tr S H S' H') : ∀ {v : V} {d : D}, Rep K S H v d → Rep K S' H' v d
  | _, _, .non => .non
  | _, _, .bl b => .bl b
  | _, _, .int i => .int i
  | _, _, .str x => .str x
  | _, _, .lst r q => .lst (r.mono t) (Reps.mono t q)
  | _, _, .tup r q => .tup (r.mono t) (Reps.mono t q)
  | _, _, .dic n r q => .dic (t.notin n r) (t.keep _ _ trivial n r) (RepKs.mono t q)
  | _, _, .scr e r => .scr e (r.mono t)
theorem Reps.mono (t : Tr S H S' H') : ∀ {v : List V} {d : List D}, Reps K S H v d → Reps K S' H' v d
  | _, _, .nil => .nil
  | _, _, .cons r q => .cons (Rep.mono t r) (Reps.mono t q)
theorem RepKs.mono (t : Tr S H S' H') : ∀ {v : List (Key × V)} {d : List (Key × D)}, RepKs K S H v d → RepKs K S' H' v d
  | _, _, .nil => .nil
  | _, _, .cons r q => .cons (Rep.mono t r) (RepKs.mono t q)
end
mutual
theorem Al.mono (t : Tr S H S' H') : ∀ {n : Nat} {v : V} {d : D} {fp : List Addr}, Al K S H n v d fp → (∀ b ∈ fp, H' b = H b ∧ S' b) → Al K S' H' n v d fp
  | _, _, _, _, .zero r, _ => .zero (r.mono t)
  | _, _, _, _, .fl f r, _ => .fl f (r.mono t)
  | _, _, _, _, .tup m l q g, h => .tup (t.notin m l) (t.keep _ _ trivial m l) (Al.mono t q h) (Reps.mono t g)
  | _, _, _, _, .lst s e q, h => .lst (h _ List.mem_cons_self).2 ((h _ List.mem_cons_self).1.trans e) (Als.mono t q fun b z => h b (List.mem_cons_of_mem _ z))
  | _, _, _, _, .dic s e q, h => .dic (h _ List.mem_cons_self).2 ((h _ List.mem_cons_self).1.trans e) (AlKs.mono t q fun b z => h b (List.mem_cons_of_mem _ z))
theorem Als.mono (t : Tr S H S' H') : ∀ {n : Nat} {v : List V} {d : List D} {fp : List Addr}, Als K S H n v d fp → (∀ b ∈ fp, H' b = H b ∧ S' b) → Als K S' H' n v d fp
  | _, _, _, _, .nil, _ => .nil
  | _, _, _, _, .cons r q, h => .cons (Al.mono t r fun b z => h b (List.mem_append_left _ z)) (Als.mono t q fun b z => h b (List.mem_append_right _ z))
theorem AlKs.mono (t : Tr S H S' H') : ∀ {n : Nat} {v : List (Key × V)} {d : List (Key × D)} {fp : List Addr}, AlKs K S H n v d fp → (∀ b ∈ fp, H' b = H b ∧ S' b) → AlKs K S' H' n v d fp
  | _, _, _, _, .nil, _ => .nil
  | _, _, _, _, .cons r q, h => .cons (Al.mono t r fun b z => h b (List.mem_append_left _ z)) (AlKs.mono t q fun b z => h b (List.mem_append_right _ z))
end
mutual
/-- the owned objects stand, and are owned -/
theorem Al.there : ∀ {n : Nat} {v : V} {d : D} {fp : List Addr}, Al K S H n v d fp → ∀ b ∈ fp, H b ≠ none ∧ S b
  | _, _, _, _, .zero r, _, z => nomatch z
  | _, _, _, _, .fl _ r, _, z => nomatch z
  | _, _, _, _, .tup _ _ q _, b, z => Al.there q b z
  | _, _, _, _, .lst s e q, b, z => by
    rcases List.mem_cons.mp z with rfl | z
    · exact ⟨by rw [e]; simp, s⟩
    · exact Als.there q b z
  | _, _, _, _, .dic s e q, b, z => by
    rcases List.mem_cons.mp z with rfl | z
    · exact ⟨by rw [e]; simp, s⟩
    · exact AlKs.there q b z
theorem Als.there : ∀ {n : Nat} {v : List V} {d : List D} {fp : List Addr}, Als K S H n v d fp → ∀ b ∈ fp, H b ≠ none ∧ S b
  | _, _, _, _, .nil, _, z => nomatch z
  | _, _, _, _, .cons r q, b, z => (List.mem_append.mp z).elim (Al.there r b) (Als.there q b)
theorem AlKs.there : ∀ {n : Nat} {v : List (Key × V)} {d : List (Key × D)} {fp : List Addr}, AlKs K S H n v d fp → ∀ b ∈ fp, H b ≠ none ∧ S b
  | _, _, _, _, .nil, _, z => nomatch z
  | _, _, _, _, .cons r q, b, z => (List.mem_append.mp z).elim (Al.there r b) (AlKs.there q b)
end
mutual
/-- what is owned is let go -/
theorem Al.freeze (hs : ∀ b, S' b → S b) : ∀ {n : Nat} {v : V} {d : D} {fp : List Addr}, Al K S H n v d fp → (∀ b ∈ fp, ¬ S' b) → Rep K S' H v d
  | _, _, _, _, .zero r, _ => r.mono (.less hs)
  | _, _, _, _, .fl _ r, _ => r.mono (.less hs)
  | _, _, _, _, .tup m l q g, h => .tup (.inl ⟨fun z => m (hs _ z), l⟩) (.cons (Al.freeze hs q h) (Reps.mono (.less hs) g))
  | _, _, _, _, .lst s e q, h => .lst ⟨h _ List.mem_cons_self, .inl e⟩ (Als.freeze hs q fun b z => h b (List.mem_cons_of_mem _ z))
  | _, _, _, _, .dic s e q, h => .dic (h _ List.mem_cons_self) (.inl e) (AlKs.freeze hs q fun b z => h b (List.mem_cons_of_mem _ z))
theorem Als.freeze (hs : ∀ b, S' b → S b) : ∀ {n : Nat} {v : List V} {d : List D} {fp : List Addr}, Als K S H n v d fp → (∀ b ∈ fp, ¬ S' b) → Reps K S' H v d
  | _, _, _, _, .nil, _ => .nil
  | _, _, _, _, .cons r q, h => .cons (Al.freeze hs r fun b z => h b (List.mem_append_left _ z)) (Als.freeze hs q fun b z => h b (List.mem_append_right _ z))
theorem AlKs.freeze (hs : ∀ b, S' b → S b) : ∀ {n : Nat} {v : List (Key × V)} {d : List (Key × D)} {fp : List Addr}, AlKs K S H n v d fp → (∀ b ∈ fp, ¬ S' b) → RepKs K S' H v d
  | _, _, _, _, .nil, _ => .nil
  | _, _, _, _, .cons r q, h => .cons (Al.freeze hs r fun b z => h b (List.mem_append_left _ z)) (AlKs.freeze hs q fun b z => h b (List.mem_append_right _ z))
end
/-- as read: nothing is owned -/
theorem Al.rep0 {n : Nat} {v : V} {d : D} {fp : List Addr} (h : Al K S H n v d fp) : Rep K (fun _ => False) H v d := h.freeze (fun _ z => z.elim) fun _ _ z => z
theorem Al.isBl {n : Nat} {v : V} {b : Bool} {fp : List Addr} (h : Al K S H n v (.bl b) fp) : v = .bl b := by
  cases h with
  | zero r => cases r; rfl
  | fl _ r => cases r; rfl
theorem Al.isInt {n : Nat} {v : V} {b : Int} {fp : List Addr} (h : Al K S H n v (.int b) fp) : v = .int b := by
  cases h with
  | zero r => cases r; rfl
  | fl _ r => cases r; rfl
theorem Al.isStr {n : Nat} {v : V} {b : Str} {fp : List Addr} (h : Al K S H n v (.str b) fp) : v = .str b := by
  cases h with
  | zero r => cases r; rfl
  | fl _ r => cases r; rfl
theorem Al.isNon {n : Nat} {v : V} {fp : List Addr} (h : Al K S H n v .non fp) : v = .non := by
  cases h with
  | zero r => cases r; rfl
  | fl _ r => cases r; rfl
end
end VL

namespace VL
open PySem PySem.Spec PyProof.Rows L2

/-! ## the mirror's monad -/
inductive Md where | val | own (n : Nat) | bor (n : Nat)
def Md.lv : Md → Nat
  | .val => 0 | .own n => n | .bor n => n
abbrev Slot := Option (Md × D)
abbrev En := List Slot
structure Ex where
  cls : Str
  fs : List (Str × D)
inductive R (σ α : Type) where
  | ok (a : α) (s : σ) | err (x : Ex) (s : σ) | bad
def R.bind {σ τ α β : Type} (r : R σ α) (k : α → σ → R τ β) (j : σ → τ) : R τ β :=
  match r with
  | .ok a s => k a s
  | .err x s => .err x (j s)
  | .bad => .bad
abbrev EM (α : Type) := En → R En α
/-- a statement's end -/
inductive SR where
  | nx (ρ : En) | rt (n : Nat) (d : D) (ρ : En) | bk (ρ : En) | ct (ρ : En) | err (x : Ex) (ρ : En) | bad
abbrev SM := En → SR
/-- a def: arguments to result and what became of the borrowed arguments -/
abbrev Fn := List D → R (List D) D

/-! ## the states -/
structure Ctx where
  H0 : Hp
  S0 : Own
  F0 : Own
  Z : Own
  Bi : Nat → Own
  vs : List V
section
variable (K : PySem.W.Frag) (C : Ctx)
inductive SlotOk (S : Own) (H : Hp) (i : Nat) : Slot → Option V → List Addr → Prop
  | non {x : Option V} : SlotOk S H i none x []
  | val {d : D} {v : V} : Rep K S H v d → SlotOk S H i (some (.val, d)) (some v) []
  | own {n : Nat} {d : D} {v : V} {fp : List Addr} : Al K S H n v d fp → (∀ b ∈ fp, C.Z b ∨ C.H0 b = none) → SlotOk S H i (some (.own n, d)) (some v) fp
  | bor {n : Nat} {d : D} {v : V} {fp : List Addr} : Al K S H n v d fp → C.vs[i]? = some v → (∀ b ∈ fp, C.Bi i b ∨ C.H0 b = none) → SlotOk S H i (some (.bor n, d)) (some v) fp
structure SimF (fps : Nat → List Addr) (ρ : En) (S : Own) (σ : L2.St) (H : Hp) : Prop where
  len : σ.length = ρ.length
  sl : ∀ i s, ρ[i]? = some s → ∃ x, σ[i]? = some x ∧ SlotOk K C S H i s x (fps i)
  nd : ∀ i, (fps i).Nodup
  dj : ∀ i j b, b ∈ fps i → b ∈ fps j → i = j
  sub : ∀ b, C.S0 b → S b
  s0 : ∀ b, C.S0 b → C.H0 b ≠ none
  f0 : ∀ b, C.F0 b → C.S0 b ∨ C.Z b
  zf : ∀ b, C.Z b → C.F0 b ∧ ¬ C.S0 b
  bf : ∀ i b, C.Bi i b → C.F0 b
  zb : ∀ i b, C.Z b → C.Bi i b
  frame : ∀ b u, ¬ C.F0 b → C.H0 b = some u → H b = some u
  dom : ∀ b, H b = none → C.H0 b = none
  sS : ∀ b, S b → C.S0 b ∨ C.Z b ∨ C.H0 b = none
  sd : ∀ b, S b → H b ≠ none
  out : ∀ i, ρ.length ≤ i → fps i = []
def Sim (ρ : En) (S : Own) (σ : L2.St) (H : Hp) : Prop := ∃ fps, SimF K C fps ρ S σ H
end
/-- how the state moves while an expression runs; pure: nothing that stood changes -/
def Mv (pf : Bool) (S : Own) (H : Hp) (S' : Own) (H' : Hp) : Prop := Tr S H S' H' ∧ (pf = true → S' = S ∧ Same H H')
section
variable {K : PySem.W.Frag} {C : Ctx} {S S' S2 : Own} {H H' H2 : Hp} {p q : Bool}
theorem Mv.refl : Mv p S H S H := ⟨.refl, fun _ => ⟨rfl, Same.refl H⟩⟩
theorem Mv.trans (a : Mv p S H S' H') (b : Mv q S' H' S2 H2) : Mv (p && q) S H S2 H2 :=
  ⟨a.1.trans b.1, fun h => by
    rw [Bool.and_eq_true] at h
    obtain ⟨e1, s1⟩ := a.2 h.1
    obtain ⟨e2, s2⟩ := b.2 h.2
    exact ⟨e2.trans e1, s1.trans s2⟩⟩
theorem Mv.same (s : Same H H') : Mv p S H S H' := ⟨.same s, fun _ => ⟨rfl, s⟩⟩
theorem Mv.then (a : Mv p S H S' H') (s : Same H' H2) : Mv p S H S' H2 :=
  ⟨a.1.trans (.same s), fun h => ⟨(a.2 h).1, (a.2 h).2.trans s⟩⟩
theorem Al.same {n : Nat} {v : V} {d : D} {fp : List Addr} (h : Al K S H n v d fp) (s : Same H H') : Al K S H' n v d fp :=
  h.mono (.same s) fun b hb => by
    obtain ⟨h1, h2⟩ := h.there b hb
    cases e : H b with
    | none => exact absurd e h1
    | some o => exact ⟨s b o e, h2⟩
/-- a value in flight, past a move -/
theorem Al.mv {n : Nat} {v : V} {d : D} {fp : List Addr} (h : Al K S H n v d fp) (m : Mv q S H S' H') (c : q = true ∨ n = 0) : Al K S' H' n v d fp := by
  rcases c with c | rfl
  · obtain ⟨e, s⟩ := m.2 c
    subst e
    exact h.same s
  · cases h with
    | zero r => exact .zero (r.mono m.1)
theorem Reps.length {vs : List V} {ds : List D} (h : Reps K S H vs ds) : vs.length = ds.length := by
  induction vs generalizing ds with
  | nil => cases h; rfl
  | cons v vs ih => cases h with | cons r q => simp [ih q]
theorem Reps.get {vs : List V} {ds : List D} (h : Reps K S H vs ds) {i : Nat} {d : D} (e : ds[i]? = some d) : ∃ v, vs[i]? = some v ∧ Rep K S H v d := by
  induction ds generalizing vs i with
  | nil => simp at e
  | cons x ds ih =>
    cases h with
    | cons r q =>
      cases i with
      | zero => simp at e; subst e; exact ⟨_, rfl, r⟩
      | succ i => simp at e; obtain ⟨v, e1, r1⟩ := ih q e; exact ⟨v, by simpa using e1, r1⟩
theorem Reps.append {vs ws : List V} {ds es : List D} (h : Reps K S H vs ds) (g : Reps K S H ws es) : Reps K S H (vs ++ ws) (ds ++ es) := by
  induction vs generalizing ds with
  | nil => cases h; exact g
  | cons v vs ih => cases h with | cons r q => exact .cons r (ih q)
end
theorem Rep.zero {K : PySem.W.Frag} {S : Own} {H : Hp} {v : V} {d : D} {fp : List Addr} (h : Al K S H 0 v d fp) : Rep K S H v d := by cases h; assumption

section
variable {K : PySem.W.Frag} {C : Ctx} {fps : Nat → List Addr} {ρ : En} {S S' : Own} {σ : L2.St} {H H' : Hp}
/-- nothing that stood changes -/
theorem SimF.same (h : SimF K C fps ρ S σ H) (s : Same H H') : SimF K C fps ρ S σ H' where
  len := h.len
  sl := fun i x e => by
    obtain ⟨v, e1, k⟩ := h.sl i x e
    refine ⟨v, e1, ?_⟩
    generalize fps i = f at k
    cases k with
    | non => exact .non
    | val r => exact .val (r.mono (.same s))
    | own a z => exact .own (a.same s) z
    | bor a w z => exact .bor (a.same s) w z
  nd := h.nd
  dj := h.dj
  sub := h.sub
  s0 := h.s0
  f0 := h.f0
  zf := h.zf
  bf := h.bf
  zb := h.zb
  frame := fun b u n e => s b u (h.frame b u n e)
  dom := fun b e => h.dom b (s.free e)
  sS := h.sS
  sd := fun b hb e => h.sd b hb (s.free e)
  out := h.out
theorem Sim.same (h : Sim K C ρ S σ H) (s : Same H H') : Sim K C ρ S σ H' := let ⟨f, h⟩ := h; ⟨f, h.same s⟩
theorem SlotOk.al {i : Nat} {m : Md} {d : D} {x : Option V} {fp : List Addr} (k : SlotOk K C S H i (some (m, d)) x fp) : ∃ v, x = some v ∧ Al K S H m.lv v d fp := by
  cases k with
  | val r => exact ⟨_, rfl, .zero r⟩
  | own a z => exact ⟨_, rfl, a⟩
  | bor a w z => exact ⟨_, rfl, a⟩
theorem SlotOk.there {i : Nat} {s : Slot} {x : Option V} {fp : List Addr} (k : SlotOk K C S H i s x fp) : ∀ b ∈ fp, H b ≠ none ∧ S b := by
  cases k with
  | non => exact fun _ z => nomatch z
  | val r => exact fun _ z => nomatch z
  | own a z => exact a.there
  | bor a w z => exact a.there
theorem SimF.slot {i : Nat} {m : Md} {d : D} (h : SimF K C fps ρ S σ H) (e : ρ[i]? = some (some (m, d))) : ∃ v, σ[i]? = some (some v) ∧ Al K S H m.lv v d (fps i) := by
  obtain ⟨x, e1, k⟩ := h.sl i _ e
  obtain ⟨v, rfl, a⟩ := k.al
  exact ⟨v, e1, a⟩
end

theorem Sim.new {K : PySem.W.Frag} {C : Ctx} {ρ : En} {S : Own} {σ : L2.St} {H : Hp} (h : Sim K C ρ S σ H) {p : Addr} (e : H p = none) : ¬ S p := fun z => let ⟨_, h⟩ := h; h.sd p z e
/-- a new object, owned by nobody yet in the slots -/
theorem SimF.fresh {K : PySem.W.Frag} {C : Ctx} {fps : Nat → List Addr} {ρ : En} {S : Own} {σ : L2.St} {H : Hp} (h : SimF K C fps ρ S σ H) {p : Addr} {o : HO} (e : H p = none) :
    SimF K C fps ρ (fun b => S b ∨ b = p) σ (upd H p o) ∧ (∀ i, p ∉ fps i) ∧ C.H0 p = none := by
  have np : ∀ i, p ∉ fps i := fun i hp => by
    by_cases hi : i < ρ.length
    · obtain ⟨x, ex, k⟩ := h.sl i _ (List.getElem?_eq_getElem hi)
      exact (k.there p hp).1 e
    · exact absurd (h.out i (by omega)) (by intro z; rw [z] at hp; cases hp)
  have t : Tr S H (fun b => S b ∨ b = p) (upd H p o) := .fresh e
  refine ⟨⟨h.len, fun i s ei => ?_, h.nd, h.dj, fun b hb => .inl (h.sub b hb), h.s0, h.f0, h.zf, h.bf, h.zb, fun b u n q => same_upd' e b u (h.frame b u n q), fun b z => h.dom b ((same_upd' e).free z), fun b hb => ?_, fun b hb z => ?_, h.out⟩, np, h.dom p e⟩
  · obtain ⟨x, ex, k⟩ := h.sl i s ei
    refine ⟨x, ex, ?_⟩
    have dis : ∀ b ∈ fps i, (upd H p o) b = H b ∧ (S b ∨ b = p) := fun b hb => ⟨upd_ne fun z => np i (z ▸ hb), .inl (k.there b hb).2⟩
    generalize fps i = f at k dis
    cases k with
    | non => exact .non
    | val r => exact .val (r.mono t)
    | own a z => exact .own (a.mono t dis) z
    | bor a w z => exact .bor (a.mono t dis) w z
  · rcases hb with hb | rfl
    · exact h.sS b hb
    · exact .inr (.inr (h.dom b e))
  · rcases hb with hb | rfl
    · exact h.sd b hb ((same_upd' e).free z)
    · rw [upd_same] at z; cases z

/-! ## readings -/
section
variable (K : PySem.W.Frag) (mg : Str → Option Value)
/-- the exception x: its class, its dict -/
def XOk (S : Own) (H : Hp) (x : Ex) (cls : Value) (dd : Option Addr) : Prop :=
  ∃ a, mg x.cls = some (.ref a) ∧ cls = .ref a ∧ ((x.fs = [] ∧ dd = none) ∨ ∃ q kvs, dd = some q ∧ H q = some (.xd kvs) ∧ kvs.map (·.1) = x.fs.map (·.1) ∧ Reps K S H (kvs.map (·.2)) (x.fs.map (·.2)))
def EOk (C : Ctx) (ρ : En) (S : Own) (σ : L2.St) (H : Hp) (W : WX) (pf : Bool) (r : R En (Nat × D)) (Q : VK) : Prop :=
  match r with
  | .ok (n, d) ρ' => ∀ v S' H' fp, Sim K C ρ' S' σ H' → Mv pf S H S' H' → (pf = true → ρ' = ρ) → Al K S' H' n v d fp → Q v H'
  | .err x ρ' => ∀ cls dd S' H', Sim K C ρ' S' σ H' → XOk K mg S' H' x cls dd → W cls dd σ H'
  | .bad => False
def tE (W : WX) (pf : Bool) (f : EM (Nat × D)) : TE := fun σ H Q => ∃ C ρ S, Sim K C ρ S σ H ∧ EOk K mg C ρ S σ H W pf (f ρ) Q
/-- a test -/
def BOk (C : Ctx) (ρ : En) (S : Own) (σ : L2.St) (H : Hp) (W : WX) (pf : Bool) (r : R En Bool) (Q : Bool → Hp → Prop) : Prop :=
  match r with
  | .ok b ρ' => ∀ S' H', Sim K C ρ' S' σ H' → Mv pf S H S' H' → (pf = true → ρ' = ρ) → Q b H'
  | .err x ρ' => ∀ cls dd S' H', Sim K C ρ' S' σ H' → XOk K mg S' H' x cls dd → W cls dd σ H'
  | .bad => False
def tB' (W : WX) (pf : Bool) (f : EM Bool) : TT := fun σ H Q => ∃ C ρ S, Sim K C ρ S σ H ∧ BOk K mg C ρ S σ H W pf (f ρ) Q
/-- arguments, all shared -/
def AOk (C : Ctx) (ρ : En) (S : Own) (σ : L2.St) (H : Hp) (W : WX) (pf : Bool) (r : R En (List D)) (Q : List V → Hp → Prop) : Prop :=
  match r with
  | .ok ds ρ' => ∀ vs S' H', Sim K C ρ' S' σ H' → Mv pf S H S' H' → (pf = true → ρ' = ρ) → Reps K S' H' vs ds → Q vs H'
  | .err x ρ' => ∀ cls dd S' H', Sim K C ρ' S' σ H' → XOk K mg S' H' x cls dd → W cls dd σ H'
  | .bad => False
def tA (W : WX) (pf : Bool) (f : EM (List D)) : TA := fun σ H Q => ∃ C ρ S, Sim K C ρ S σ H ∧ AOk K mg C ρ S σ H W pf (f ρ) Q
/-- a fresh value: its upper n layers are nobody else's -/
def NOk (C : Ctx) (ρ : En) (S : Own) (σ : L2.St) (H : Hp) (W : WX) (n : Nat) (r : R En D) (Q : VK) : Prop :=
  match r with
  | .ok d ρ' => ∀ v S' H' fps fp, SimF K C fps ρ' S' σ H' → Tr S H S' H' → Al K S' H' n v d fp → fp.Nodup → (∀ b ∈ fp, (C.Z b ∨ C.H0 b = none) ∧ ∀ i, b ∉ fps i) → Q v H'
  | .err x ρ' => ∀ cls dd S' H', Sim K C ρ' S' σ H' → XOk K mg S' H' x cls dd → W cls dd σ H'
  | .bad => False
def tN (W : WX) (n : Nat) (f : EM D) : TE := fun σ H Q => ∃ C ρ S, Sim K C ρ S σ H ∧ NOk K mg C ρ S σ H W n (f ρ) Q
/-- statements; r: how many layers of what is returned are fresh -/
def SOk (C : Ctx) (W : WX) (r : Nat) (res : SR) (Dn : Ends) : Prop :=
  match res with
  | .nx ρ' => ∀ σ' S' H', Sim K C ρ' S' σ' H' → Dn.nx σ' H'
  | .rt n d ρ' => n = r ∧ ∀ v σ' S' H' fps fp, SimF K C fps ρ' S' σ' H' → Al K S' H' n v d fp → fp.Nodup → (∀ b ∈ fp, (C.Z b ∨ C.H0 b = none) ∧ ∀ i, b ∉ fps i) → Dn.rt v H'
  | .bk ρ' => ∀ σ' S' H', Sim K C ρ' S' σ' H' → Dn.bk σ' H'
  | .ct ρ' => ∀ σ' S' H', Sim K C ρ' S' σ' H' → Dn.ct σ' H'
  | .err x ρ' => ∀ cls dd σ' S' H', Sim K C ρ' S' σ' H' → XOk K mg S' H' x cls dd → W cls dd σ' H'
  | .bad => False
def tS (W : WX) (r : Nat) (g : SM) : TS := fun Dn σ H => ∃ C ρ S, Sim K C ρ S σ H ∧ SOk K mg C W r (g ρ) Dn
end
theorem peI {X : Cx} {e : Expr} {t t' : TE} (h : PE X e t) (i : ∀ σ H Q, t' σ H Q → t σ H Q) : PE X e t' := ⟨fun p s σ H Q I q => h.run p s σ H Q I (i σ H Q q)⟩
theorem ptI {X : Cx} {e : Expr} {t t' : TT} (h : PT X e t) (i : ∀ σ H Q, t' σ H Q → t σ H Q) : PT X e t' := ⟨fun p s σ H Q I q => h.run p s σ H Q I (i σ H Q q)⟩
theorem pwI {X : Cx} {e : Expr} {t t' : TT} (h : PW X e t) (i : ∀ σ H Q, t' σ H Q → t σ H Q) : PW X e t' := ⟨fun w p s σ H Q I q => h.run w p s σ H Q I (i σ H Q q)⟩
theorem paI {X : Cx} {e : List Expr} {t t' : TA} (h : PA X e t) (i : ∀ σ H Q, t' σ H Q → t σ H Q) : PA X e t' := ⟨fun ps p s σ H Q I q => h.run ps p s σ H Q I (i σ H Q q)⟩
theorem psI {X : Cx} {e : Stmt} {t t' : TS} (h : PS X e t) (i : ∀ D σ H, t' D σ H → t D σ H) : PS X e t' := ⟨fun p s σ H D I q => h.run p s σ H D I (i D σ H q)⟩
theorem pssI {X : Cx} {e : List Stmt} {t t' : TS} (h : PSs X e t) (i : ∀ D σ H, t' D σ H → t D σ H) : PSs X e t' := ⟨fun p s σ H D I q => h.run p s σ H D I (i D σ H q)⟩

/-! ## combinators -/
def eC (d : D) : EM (Nat × D) := fun ρ => .ok (0, d) ρ
/-- a name, looked at -/
def eV (i : Nat) : EM (Nat × D) := fun ρ => match ρ[i]? with
  | some (some (m, d)) => .ok (m.lv, d) ρ
  | _ => .bad
/-- a name, as a value: what it owned is shared from here on -/
def eF (i : Nat) : EM (Nat × D) := fun ρ => match ρ[i]? with
  | some (some (.val, d)) => .ok (0, d) ρ
  | some (some (.own _, d)) => .ok (0, d) (ρ.set i (some (.val, d)))
  | _ => .bad
/-- a name, handed on with what it owns -/
def nV (n : Nat) (i : Nat) : EM D := fun ρ => match ρ[i]? with
  | some (some (.own m, d)) => if m = n then .ok d (ρ.set i none) else .bad
  | _ => .bad
def EM.then {α β : Type} (f : EM α) (k : α → EM β) : EM β := fun ρ => match f ρ with
  | .ok a ρ1 => k a ρ1
  | .err x ρ1 => .err x ρ1
  | .bad => .bad
/-- two operands; q: the second is pure -/
def eOp (q : Bool) (op : Nat → D → Nat → D → Option D) (f g : EM (Nat × D)) : EM (Nat × D) := f.then fun a => g.then fun b ρ =>
  if q = true ∨ a.1 = 0 then (match op a.1 a.2 b.1 b.2 with | some d => .ok (0, d) ρ | none => .bad) else .bad
def eUn (op : Nat → D → Option D) (f : EM (Nat × D)) : EM (Nat × D) := f.then fun a ρ => match op a.1 a.2 with | some d => .ok (0, d) ρ | none => .bad
def aNil : EM (List D) := fun ρ => .ok [] ρ
def aCons (f : EM (Nat × D)) (g : EM (List D)) : EM (List D) := f.then fun a => g.then fun ds ρ => if a.1 = 0 then .ok (a.2 :: ds) ρ else .bad
def eTup (f : EM (List D)) : EM (Nat × D) := f.then fun ds ρ => if ds.length ≤ sizeLine then .ok (0, .tup ds) ρ else .bad
def eLst (f : EM (List D)) : EM (Nat × D) := f.then fun ds ρ => if ds.length ≤ sizeLine then .ok (0, .lst ds) ρ else .bad
def nLst (f : EM (List D)) : EM D := f.then fun ds ρ => if ds.length ≤ sizeLine then .ok (.lst ds) ρ else .bad
def eB (f : EM (Nat × D)) : EM Bool := f.then fun a ρ => match a.2 with | .bl b => .ok b ρ | _ => .bad
def bV (f : EM Bool) : EM (Nat × D) := f.then fun b ρ => .ok (0, .bl b) ρ
def bAnd (f g : EM Bool) : EM Bool := f.then fun a => if a = true then g else fun ρ => .ok false ρ
def bOr (f g : EM Bool) : EM Bool := f.then fun a => if a = true then fun ρ => .ok true ρ else g
def bNot (f : EM Bool) : EM Bool := f.then fun a ρ => .ok (!a) ρ
def eIf (c : EM Bool) (f g : EM (Nat × D)) : EM (Nat × D) := c.then fun b => if b = true then f else g
/-- statements -/
def sNx : SM := fun ρ => .nx ρ
def sSeq (a b : SM) : SM := fun ρ => match a ρ with | .nx ρ1 => b ρ1 | r => r
def EM.s {α : Type} (f : EM α) (k : α → SM) : SM := fun ρ => match f ρ with | .ok a ρ1 => k a ρ1 | .err x ρ1 => .err x ρ1 | .bad => .bad
def sSet (i : Nat) (f : EM (Nat × D)) : SM := f.s fun a ρ => if a.1 = 0 then .nx (ρ.set i (some (.val, a.2))) else .bad
def sOwn (n i : Nat) (f : EM D) : SM := f.s fun a ρ => .nx (ρ.set i (some (.own n, a)))
def sExpr (f : EM (Nat × D)) : SM := f.s fun _ ρ => .nx ρ
def sRet (f : EM (Nat × D)) : SM := f.s fun a ρ => if a.1 = 0 then .rt 0 a.2 ρ else .bad
def sRetN (n : Nat) (f : EM D) : SM := f.s fun a ρ => .rt n a ρ
def sRet0 : SM := fun ρ => .rt 0 .non ρ
def sIf (c : EM Bool) (a b : SM) : SM := c.s fun k => if k = true then a else b
def sBk : SM := fun ρ => .bk ρ
def sCt : SM := fun ρ => .ct ρ
end VL

namespace VL
open PySem PySem.Spec PyProof.Rows L2

section
variable {K : PySem.W.Frag} {mg : Str → Option Value} {C : Ctx} {ρ : En} {S : Own} {σ : L2.St} {H : Hp} {W : WX} {p q : Bool} {r n : Nat} {α : Type}
/-- what a reading says where the mirror goes on -/
theorem EOk.bad {Q : VK} : ¬ EOk K mg C ρ S σ H W p .bad Q := fun h => h
end
section
variable {X : Cx} {W : WX} {p q : Bool}
/-- one value, then more -/
theorem tE_bind {K : PySem.W.Frag} {mg : Str → Option Value} {C : Ctx} {ρ : En} {S : Own} {σ : L2.St} {H : Hp} {f : EM (Nat × D)} {α : Type} {k : (Nat × D) → EM α} {Q : VK} {G : R En α → Prop}
    (sim : Sim K C ρ S σ H) (g : G (f.then k ρ)) (gb : ¬ G .bad) (ge : ∀ x ρ', G (.err x ρ') → ∀ cls dd S' H', Sim K C ρ' S' σ H' → XOk K mg S' H' x cls dd → W cls dd σ H')
    (h : ∀ n d ρ' v S' H' fp, f ρ = .ok (n, d) ρ' → G (k (n, d) ρ') → Sim K C ρ' S' σ H' → Mv p S H S' H' → (p = true → ρ' = ρ) → Al K S' H' n v d fp → Q v H') : tE K mg W p f σ H Q := by
  refine ⟨C, ρ, S, sim, ?_⟩
  unfold EM.then at g
  cases e : f ρ with
  | ok a ρ' =>
    obtain ⟨n, d⟩ := a
    rw [e] at g
    intro v S' H' fp s m c a
    exact h n d ρ' v S' H' fp e g s m c a
  | err x ρ' =>
    rw [e] at g
    exact ge x ρ' g
  | bad =>
    rw [e] at g
    exact (gb g).elim
theorem tA_bind {K : PySem.W.Frag} {mg : Str → Option Value} {C : Ctx} {ρ : En} {S : Own} {σ : L2.St} {H : Hp} {f : EM (List D)} {α : Type} {k : List D → EM α} {Q : List V → Hp → Prop} {G : R En α → Prop}
    (sim : Sim K C ρ S σ H) (g : G (f.then k ρ)) (gb : ¬ G .bad) (ge : ∀ x ρ', G (.err x ρ') → ∀ cls dd S' H', Sim K C ρ' S' σ H' → XOk K mg S' H' x cls dd → W cls dd σ H')
    (h : ∀ ds ρ' vs S' H', f ρ = .ok ds ρ' → G (k ds ρ') → Sim K C ρ' S' σ H' → Mv p S H S' H' → (p = true → ρ' = ρ) → Reps K S' H' vs ds → Q vs H') : tA K mg W p f σ H Q := by
  refine ⟨C, ρ, S, sim, ?_⟩
  unfold EM.then at g
  cases e : f ρ with
  | ok a ρ' =>
    rw [e] at g
    intro v S' H' s m c a
    exact h _ ρ' v S' H' e g s m c a
  | err x ρ' =>
    rw [e] at g
    exact ge x ρ' g
  | bad =>
    rw [e] at g
    exact (gb g).elim
theorem tB_bind {K : PySem.W.Frag} {mg : Str → Option Value} {C : Ctx} {ρ : En} {S : Own} {σ : L2.St} {H : Hp} {f : EM Bool} {α : Type} {k : Bool → EM α} {Q : Bool → Hp → Prop} {G : R En α → Prop}
    (sim : Sim K C ρ S σ H) (g : G (f.then k ρ)) (gb : ¬ G .bad) (ge : ∀ x ρ', G (.err x ρ') → ∀ cls dd S' H', Sim K C ρ' S' σ H' → XOk K mg S' H' x cls dd → W cls dd σ H')
    (h : ∀ b ρ' S' H', f ρ = .ok b ρ' → G (k b ρ') → Sim K C ρ' S' σ H' → Mv p S H S' H' → (p = true → ρ' = ρ) → Q b H') : tB' K mg W p f σ H Q := by
  refine ⟨C, ρ, S, sim, ?_⟩
  unfold EM.then at g
  cases e : f ρ with
  | ok a ρ' =>
    rw [e] at g
    intro S' H' s m c
    exact h _ ρ' S' H' e g s m c
  | err x ρ' =>
    rw [e] at g
    exact ge x ρ' g
  | bad =>
    rw [e] at g
    exact (gb g).elim

/-! ### atoms -/
theorem v_c {e : Expr} {v : V} {d : D} (h : PE X e (tC v)) (r : ∀ S H, Rep X.K S H v d) : PE X e (tE X.K X.mg W true (eC d)) := peI h fun σ H Q h => by
  obtain ⟨C, ρ, S, sim, h⟩ := h
  exact h v S H [] sim .refl (fun _ => rfl) (.zero (r S H))
theorem v_int {i j pos} : PE X (.Constant (.int i) j pos) (tE X.K X.mg W true (eC (.int i))) := v_c pe_int fun _ _ => .int i
theorem v_bl {b j pos} : PE X (.Constant (.bool b) j pos) (tE X.K X.mg W true (eC (.bl b))) := v_c pe_bl fun _ _ => .bl b
theorem v_non {j pos} : PE X (.Constant .none j pos) (tE X.K X.mg W true (eC .non)) := v_c pe_non fun _ _ => .non
theorem v_str {x j pos} : PE X (.Constant (.str x) j pos) (tE X.K X.mg W true (eC (.str x))) := v_c pe_str fun _ _ => .str x
theorem v_var (i : Nat) {x : Str} {pos : Pos} (hN : X.N[i]? = some x := by rfl) (hv : Vis X.env.scope x := by first | exact Or.inl rfl | exact Or.inr (Or.inl rfl) | exact Or.inr (Or.inr rfl)) (hd : (x == ("__debug__" : Str)) = false := by decide)
    (hcd : (x == ("__classdict__" : Str)) = false := by decide) : PE X (.Name x pos) (tE X.K X.mg W true (eV i)) := peI (pe_var (i := i) hN hv hd hcd) fun σ H Q h => by
  obtain ⟨C, ρ, S, ⟨fps, sim⟩, h⟩ := h
  unfold eV at h
  split at h
  · rename_i m d e
    obtain ⟨v, e1, a⟩ := sim.slot e
    exact ⟨v, e1, h v S H _ ⟨fps, sim⟩ .refl (fun _ => rfl) a⟩
  · exact h.elim
/-- slot i lets go of what it owns -/
theorem SimF.frz {K : PySem.W.Frag} {C : Ctx} {fps : Nat → List Addr} {ρ : En} {S : Own} {σ : L2.St} {H : Hp} {i n : Nat} {d : D} (h : SimF K C fps ρ S σ H) (e : ρ[i]? = some (some (.own n, d))) :
    SimF K C (fun j => if j = i then [] else fps j) (ρ.set i (some (.val, d))) (fun b => S b ∧ b ∉ fps i) σ H ∧ Tr S H (fun b => S b ∧ b ∉ fps i) H ∧ ∃ v, σ[i]? = some (some v) ∧ Rep K (fun b => S b ∧ b ∉ fps i) H v d := by
  obtain ⟨x, ex, k⟩ := h.sl i _ e
  have t : Tr S H (fun b => S b ∧ b ∉ fps i) H := .less fun b z => z.1
  generalize hf : fps i = f at k t ⊢
  cases k with
  | own a z =>
    rename_i v
    have r : Rep K (fun b => S b ∧ b ∉ f) H v d := a.freeze (fun b z => z.1) fun b hb q => q.2 hb
    refine ⟨⟨by simpa using h.len, fun j s ej => ?_, fun j => ?_, fun j l b hj hl => ?_, fun b hb => ⟨h.sub b hb, fun hm => ?_⟩, h.s0, h.f0, h.zf, h.bf, h.zb, h.frame, h.dom, fun b hb => h.sS b hb.1, fun b hb => h.sd b hb.1, fun j hj => ?_⟩, t, v, ex, r⟩
    · by_cases hji : j = i
      · subst hji
        have hlt : j < ρ.length := (List.getElem?_eq_some_iff.mp e).1
        rw [List.getElem?_set_self hlt] at ej
        cases ej
        refine ⟨_, ex, ?_⟩
        rw [if_pos rfl]
        exact .val r
      · rw [List.getElem?_set_ne (Ne.symm hji)] at ej
        obtain ⟨y, ey, ky⟩ := h.sl j s ej
        refine ⟨y, ey, ?_⟩
        rw [if_neg hji]
        have dis : ∀ b ∈ fps j, H b = H b ∧ S b ∧ b ∉ f := fun b hb => ⟨rfl, (ky.there b hb).2, fun q => hji (h.dj j i b hb (by rw [hf]; exact q))⟩
        generalize fps j = g at ky dis
        cases ky with
        | non => exact .non
        | val r => exact .val (r.mono t)
        | own a z => exact .own (a.mono t dis) z
        | bor a w z => exact .bor (a.mono t dis) w z
    · show (if j = i then [] else fps j).Nodup
      split
      · exact .nil
      · exact h.nd j
    · have hj' : b ∈ (if j = i then [] else fps j) := hj
      have hl' : b ∈ (if l = i then [] else fps l) := hl
      split at hj'
      · cases hj'
      · split at hl'
        · cases hl'
        · exact h.dj j l b hj' hl'
    · rcases z b hm with q | q
      · exact (h.zf b q).2 hb
      · exact h.s0 b hb q
    · show (if j = i then [] else fps j) = []
      split
      · rfl
      · exact h.out j (by simpa using hj)
theorem v_frz (i : Nat) {x : Str} {pos : Pos} (hN : X.N[i]? = some x := by rfl) (hv : Vis X.env.scope x := by first | exact Or.inl rfl | exact Or.inr (Or.inl rfl) | exact Or.inr (Or.inr rfl)) (hd : (x == ("__debug__" : Str)) = false := by decide)
    (hcd : (x == ("__classdict__" : Str)) = false := by decide) : PE X (.Name x pos) (tE X.K X.mg W false (eF i)) := peI (pe_var (i := i) hN hv hd hcd) fun σ H Q h => by
  obtain ⟨C, ρ, S, ⟨fps, sim⟩, h⟩ := h
  unfold eF at h
  split at h
  · rename_i d e
    obtain ⟨v, e1, a⟩ := sim.slot e
    exact ⟨v, e1, h v S H _ ⟨fps, sim⟩ .refl (fun z => nomatch z) a⟩
  · rename_i n d e
    obtain ⟨s', t, v, e1, r⟩ := sim.frz e
    exact ⟨v, e1, h v _ H [] ⟨_, s'⟩ ⟨t, fun z => nomatch z⟩ (fun z => nomatch z) (.zero r)⟩
  · exact h.elim

/-! ### operators -/
def OpV (K : PySem.W.Frag) (r : R2) (op : Nat → D → Nat → D → Option D) : Prop := ∀ (S : Own) (H : Hp) (x y : V) (n m : Nat) (a b d : D) (f g : List Addr) (Q : VK), (∀ b, S b → H b ≠ none) → Al K S H n x a f → Al K S H m y b g → op n a m b = some d →
  (∀ v H', Same H H' → Rep K S H' v d → Q v H') → r x y H Q
def UnV (K : PySem.W.Frag) (r : V → Hp → VK → Prop) (op : Nat → D → Option D) : Prop := ∀ (S : Own) (H : Hp) (x : V) (n : Nat) (a d : D) (f : List Addr) (Q : VK), (∀ b, S b → H b ≠ none) → Al K S H n x a f → op n a = some d →
  (∀ v H', Same H H' → Rep K S H' v d → Q v H') → r x H Q
theorem tOp_ok {r : R2} {op : Nat → D → Nat → D → Option D} {f g : EM (Nat × D)} (hv : OpV X.K r op) {σ : L2.St} {H : Hp} {Q : VK} (h : tE X.K X.mg W (p && q) (eOp q op f g) σ H Q) :
    tOp r (tE X.K X.mg W p f) (tE X.K X.mg W q g) σ H Q := by
  obtain ⟨C, ρ, S, sim, h⟩ := h
  refine tE_bind (G := fun z => EOk X.K X.mg C ρ S σ H W (p && q) z Q) sim h id (fun x ρ' z => z) ?_
  intro n d ρ1 v S1 H1 fp1 _ h s1 m1 c1 a1
  refine tE_bind (G := fun z => EOk X.K X.mg C ρ S σ H W (p && q) z Q) s1 h id (fun x ρ' z => z) ?_
  intro m e ρ2 u S2 H2 fp2 _ h s2 m2 c2 a2
  split at h
  · rename_i hc
    split at h
    · rename_i z ez
      refine hv S2 H2 v u n m d e z fp1 fp2 Q (let ⟨_, z⟩ := s2; z.sd) (a1.mv m2 hc) a2 ez fun w H3 sm r => ?_
      refine h w S2 H3 [] (s2.same sm) ((m1.trans m2).then sm) (fun hp => ?_) (.zero r)
      rw [Bool.and_eq_true] at hp
      exact (c2 hp.2).trans (c1 hp.1)
    · exact h.elim
  · exact h.elim
theorem tUn_ok {r : V → Hp → VK → Prop} {op : Nat → D → Option D} {f : EM (Nat × D)} (hv : UnV X.K r op) {σ : L2.St} {H : Hp} {Q : VK} (h : tE X.K X.mg W p (eUn op f) σ H Q) :
    tUn r (tE X.K X.mg W p f) σ H Q := by
  obtain ⟨C, ρ, S, sim, h⟩ := h
  refine tE_bind (G := fun z => EOk X.K X.mg C ρ S σ H W p z Q) sim h id (fun x ρ' z => z) ?_
  intro n d ρ1 v S1 H1 fp1 _ h s1 m1 c1 a1
  split at h
  · rename_i z ez
    refine hv S1 H1 v n d z fp1 Q (let ⟨_, z⟩ := s1; z.sd) a1 ez fun w H3 sm r => ?_
    exact h w S1 H3 [] (s1.same sm) (m1.then sm) c1 (.zero r)
  · exact h.elim
theorem v_bin {r : R2} {op : Nat → D → Nat → D → Option D} {f g : EM (Nat × D)} {o : Operator} {a b : Expr} {pos : Pos} (ho : OpR X (binaryOp o) r) (hv : OpV X.K r op) (ha : PE X a (tE X.K X.mg W p f)) (hb : PE X b (tE X.K X.mg W q g)) :
    PE X (.BinOp a o b pos) (tE X.K X.mg W (p && q) (eOp q op f g)) := peI (pe_op ho ha hb) fun _ _ _ h => tOp_ok hv h
theorem v_cmp {r : R2} {op : Nat → D → Nat → D → Option D} {f g : EM (Nat × D)} {o : CmpOp} {a b : Expr} {pos : Pos} (ho : OpR X (compareOp o) r) (hv : OpV X.K r op) (ha : PE X a (tE X.K X.mg W p f)) (hb : PE X b (tE X.K X.mg W q g)) (hm : behindInMarks o b = false) :
    PE X (.Compare a [o] [b] pos) (tE X.K X.mg W (p && q) (eOp q op f g)) := peI (pe_cmpR ho ha hb hm) fun _ _ _ h => tOp_ok hv h
/-- a comparison as a test -/
theorem b_cmp {r : R2} {op : Nat → D → Nat → D → Option D} {f g : EM (Nat × D)} {o : CmpOp} {a b : Expr} {pos : Pos} (ho : OpR X (compareOp o) r) (hv : OpV X.K r op) (ha : PE X a (tE X.K X.mg W p f)) (hb : PE X b (tE X.K X.mg W q g)) (hm : behindInMarks o b = false) :
    PT X (.Compare a [o] [b] pos) (tB' X.K X.mg W (p && q) (eB (eOp q op f g))) := ptI (pt_cmpR ho ha hb hm) fun σ H Q h => by
  refine tOp_ok hv ?_
  obtain ⟨C, ρ, S, sim, h⟩ := h
  refine tE_bind (G := fun z => BOk X.K X.mg C ρ S σ H W (p && q) z Q) sim h id (fun x ρ' z => z) ?_
  intro n d ρ1 v S1 H1 fp1 _ h s1 m1 c1 a1
  split at h
  · rename_i k e
    simp only at e
    subst e
    exact ⟨k, a1.isBl, h S1 H1 s1 m1 c1⟩
  · exact h.elim
/-- any expression that gives a bool, as a test -/
theorem b_val {f : EM (Nat × D)} {e : Expr} (ha : PE X e (tE X.K X.mg W p f)) (he : ∀ whole, isTrue e X.env whole = (do let v ← whole; standAt e.pos; holding [v] (truthy v)) := by intro _; rfl) : PT X e (tB' X.K X.mg W p (eB f)) := ptI (pt_val ha he) fun σ H Q h => by
  obtain ⟨C, ρ, S, sim, h⟩ := h
  refine tE_bind (G := fun z => BOk X.K X.mg C ρ S σ H W p z Q) sim h id (fun x ρ' z => z) ?_
  intro n d ρ1 v S1 H1 fp1 _ h s1 m1 c1 a1
  split at h
  · rename_i k e
    simp only at e
    subst e
    exact ⟨k, a1.isBl, h S1 H1 s1 m1 c1⟩
  · exact h.elim
theorem b_not {f : EM Bool} {a : Expr} {pos : Pos} (ha : PT X a (tB' X.K X.mg W p f)) : PT X (.UnaryOp .Not a pos) (tB' X.K X.mg W p (bNot f)) := ptI (pt_not ha) fun σ H Q h => by
  obtain ⟨C, ρ, S, sim, h⟩ := h
  refine tB_bind (G := fun z => BOk X.K X.mg C ρ S σ H W p z Q) sim h id (fun x ρ' z => z) ?_
  intro b ρ1 S1 H1 _ h s1 m1 c1
  exact h S1 H1 s1 m1 c1

/-! ### arguments, displays -/
theorem a_nil : PA X [] (tA X.K X.mg W true aNil) := paI pa_nil fun σ H Q h => by
  obtain ⟨C, ρ, S, sim, h⟩ := h
  exact h [] S H sim .refl (fun _ => rfl) .nil
theorem a_cons {f : EM (Nat × D)} {g : EM (List D)} {e : Expr} {es : List Expr} (ha : PE X e (tE X.K X.mg W p f)) (hr : PA X es (tA X.K X.mg W q g)) (hs : starEach (e :: es) X.env = (false, eval e X.env) :: starEach es X.env := by rfl) :
    PA X (e :: es) (tA X.K X.mg W (p && q) (aCons f g)) := paI (pa_cons ha hr hs) fun σ H Q h => by
  obtain ⟨C, ρ, S, sim, h⟩ := h
  refine tE_bind (G := fun z => AOk X.K X.mg C ρ S σ H W (p && q) z Q) sim h id (fun x ρ' z => z) ?_
  intro n d ρ1 v S1 H1 fp1 _ h s1 m1 c1 a1
  refine tA_bind (G := fun z => AOk X.K X.mg C ρ S σ H W (p && q) z Q) s1 h id (fun x ρ' z => z) ?_
  intro ds ρ2 us S2 H2 _ h s2 m2 c2 a2
  split at h
  · rename_i hn
    simp only at hn
    subst hn
    refine h (v :: us) S2 H2 s2 (m1.trans m2) (fun hp => ?_) (.cons (Rep.zero (a1.mv m2 (.inr rfl))) a2)
    rw [Bool.and_eq_true] at hp
    exact (c2 hp.2).trans (c1 hp.1)
  · exact h.elim
theorem v_tup {f : EM (List D)} {es : List Expr} {x1} {pos : Pos} (ha : PA X es (tA X.K X.mg W p f)) : PE X (.Tuple es x1 pos) (tE X.K X.mg W p (eTup f)) := peI (pe_tup ha) fun σ H Q h => by
  obtain ⟨C, ρ, S, sim, h⟩ := h
  refine tA_bind (G := fun z => EOk X.K X.mg C ρ S σ H W p z Q) sim h id (fun x ρ' z => z) ?_
  intro ds ρ1 vs S1 H1 _ h s1 m1 c1 a1
  split at h
  · rename_i hl
    refine ⟨by rw [a1.length]; exact hl, fun t ht => ?_⟩
    have sm : Same H1 (upd H1 t (.tup vs)) := same_upd' ht
    exact h (.ref t) S1 _ [] (s1.same sm) (m1.then sm) c1 (.zero (.tup (.inl ⟨s1.new ht, .inl upd_same⟩) (a1.mono (.same sm))))
  · exact h.elim
theorem v_lst {f : EM (List D)} {es : List Expr} {pos : Pos} (ha : PA X es (tA X.K X.mg W p f)) : PE X (.List es pos) (tE X.K X.mg W p (eLst f)) := peI (pe_lst ha) fun σ H Q h => by
  obtain ⟨C, ρ, S, sim, h⟩ := h
  refine tA_bind (G := fun z => EOk X.K X.mg C ρ S σ H W p z Q) sim h id (fun x ρ' z => z) ?_
  intro ds ρ1 vs S1 H1 _ h s1 m1 c1 a1
  split at h
  · rename_i hl
    refine ⟨by rw [a1.length]; exact hl, fun t ht => ?_⟩
    have sm : Same H1 (upd H1 t (.lst vs)) := same_upd' ht
    exact h (.ref t) S1 _ [] (s1.same sm) (m1.then sm) c1 (.zero (.lst ⟨s1.new ht, .inl upd_same⟩ (a1.mono (.same sm))))
  · exact h.elim
theorem Als.zero {K : PySem.W.Frag} {S : Own} {H : Hp} : ∀ {vs : List V} {ds : List D}, Reps K S H vs ds → Als K S H 0 vs ds []
  | _, _, .nil => .nil
  | _, _, .cons r q => by
    have := Als.cons (f := []) (g := []) (.zero r) (Als.zero q)
    exact this
/-- a list display, owned -/
theorem n_lst {f : EM (List D)} {es : List Expr} {pos : Pos} (ha : PA X es (tA X.K X.mg W p f)) : PE X (.List es pos) (tN X.K X.mg W 1 (nLst f)) := peI (pe_lst ha) fun σ H Q h => by
  obtain ⟨C, ρ, S, sim, h⟩ := h
  refine tA_bind (G := fun z => NOk X.K X.mg C ρ S σ H W 1 z Q) sim h id (fun x ρ' z => z) ?_
  intro ds ρ1 vs S1 H1 _ h s1 m1 c1 a1
  split at h
  · rename_i hl
    refine ⟨by rw [a1.length]; exact hl, fun t ht => ?_⟩
    obtain ⟨fps, s1⟩ := s1
    obtain ⟨s2, np, h0⟩ := s1.fresh (o := .lst vs) ht
    have tr : Tr S1 H1 (fun b => S1 b ∨ b = t) (upd H1 t (.lst vs)) := .fresh ht
    refine h (.ref t) _ _ fps [t] s2 (m1.1.trans tr) (.lst (.inr rfl) upd_same (Als.zero (a1.mono tr))) (by simp) fun b hb => ?_
    have e : b = t := by simpa using hb
    subst e
    exact ⟨.inr h0, np⟩
  · exact h.elim
/-! ### statements -/
/-- slot i takes a value -/
theorem SimF.set {K : PySem.W.Frag} {C : Ctx} {fps : Nat → List Addr} {ρ : En} {S : Own} {σ : L2.St} {H : Hp} (h : SimF K C fps ρ S σ H) (i : Nat) {s : Slot} {x : Option V} {fp : List Addr} (k : SlotOk K C S H i s x fp) (nd : fp.Nodup) (dj : ∀ b ∈ fp, ∀ j, b ∉ fps j) (hi : i < ρ.length ∨ fp = []) :
    SimF K C (fun j => if j = i then fp else fps j) (ρ.set i s) S (σ.set i x) H := by
  refine ⟨by simpa using h.len, fun j t ej => ?_, fun j => ?_, fun j l b hj hl => ?_, h.sub, h.s0, h.f0, h.zf, h.bf, h.zb, h.frame, h.dom, h.sS, h.sd, fun j hj => ?_⟩
  · by_cases hji : j = i
    · subst hji
      have hlt : j < ρ.length := by
        have := (List.getElem?_eq_some_iff.mp ej).1
        simpa using this
      rw [List.getElem?_set_self hlt] at ej
      cases ej
      refine ⟨x, by rw [List.getElem?_set_self (by rw [h.len]; exact hlt)], ?_⟩
      rw [if_pos rfl]
      exact k
    · rw [List.getElem?_set_ne (Ne.symm hji)] at ej
      obtain ⟨y, ey, ky⟩ := h.sl j t ej
      refine ⟨y, by rw [List.getElem?_set_ne (Ne.symm hji)]; exact ey, ?_⟩
      rw [if_neg hji]
      exact ky
  · show (if j = i then fp else fps j).Nodup
    split
    · exact nd
    · exact h.nd j
  · have hj' : b ∈ (if j = i then fp else fps j) := hj
    have hl' : b ∈ (if l = i then fp else fps l) := hl
    split at hj'
    · split at hl'
      · rename_i e1 e2; exact e1.trans e2.symm
      · exact absurd hl' (dj b hj' l)
    · split at hl'
      · exact absurd hj' (dj b hl' j)
      · exact h.dj j l b hj' hl'
  · show (if j = i then fp else fps j) = []
    split
    · rename_i e
      subst e
      rcases hi with hi | hi
      · simp at hj; omega
      · exact hi
    · exact h.out j (by simpa using hj)
/-- slots are forgotten -/
theorem SOk.bad {K : PySem.W.Frag} {mg : Str → Option Value} {C : Ctx} {r : Nat} {Dn : Ends} : ¬ SOk K mg C W r .bad Dn := fun h => h
theorem tE_s {K : PySem.W.Frag} {mg : Str → Option Value} {C : Ctx} {ρ : En} {S : Own} {σ : L2.St} {H : Hp} {f : EM (Nat × D)} {k : (Nat × D) → SM} {Q : VK} {r : Nat} {Dn : Ends}
    (sim : Sim K C ρ S σ H) (g : SOk K mg C W r (f.s k ρ) Dn)
    (h : ∀ n d ρ' v S' H' fp, f ρ = .ok (n, d) ρ' → SOk K mg C W r (k (n, d) ρ') Dn → Sim K C ρ' S' σ H' → Mv p S H S' H' → Al K S' H' n v d fp → Q v H') : tE K mg W p f σ H Q := by
  refine ⟨C, ρ, S, sim, ?_⟩
  unfold EM.s at g
  cases e : f ρ with
  | ok a ρ' =>
    obtain ⟨n, d⟩ := a
    rw [e] at g
    intro v S' H' fp s m c a
    exact h n d ρ' v S' H' fp e g s m a
  | err x ρ' =>
    rw [e] at g
    intro cls dd S' H' s x
    exact g cls dd σ S' H' s x
  | bad =>
    rw [e] at g
    exact g.elim
theorem tN_s {K : PySem.W.Frag} {mg : Str → Option Value} {C : Ctx} {ρ : En} {S : Own} {σ : L2.St} {H : Hp} {n : Nat} {f : EM D} {k : D → SM} {Q : VK} {r : Nat} {Dn : Ends}
    (sim : Sim K C ρ S σ H) (g : SOk K mg C W r (f.s k ρ) Dn)
    (h : ∀ d ρ' v S' H' fps fp, f ρ = .ok d ρ' → SOk K mg C W r (k d ρ') Dn → SimF K C fps ρ' S' σ H' → Tr S H S' H' → Al K S' H' n v d fp → fp.Nodup → (∀ b ∈ fp, (C.Z b ∨ C.H0 b = none) ∧ ∀ i, b ∉ fps i) → Q v H') : tN K mg W n f σ H Q := by
  refine ⟨C, ρ, S, sim, ?_⟩
  unfold EM.s at g
  cases e : f ρ with
  | ok d ρ' =>
    rw [e] at g
    intro v S' H' fps fp s m a nd z
    exact h d ρ' v S' H' fps fp e g s m a nd z
  | err x ρ' =>
    rw [e] at g
    intro cls dd S' H' s x
    exact g cls dd σ S' H' s x
  | bad =>
    rw [e] at g
    exact g.elim
theorem tB_s {K : PySem.W.Frag} {mg : Str → Option Value} {C : Ctx} {ρ : En} {S : Own} {σ : L2.St} {H : Hp} {f : EM Bool} {k : Bool → SM} {Q : Bool → Hp → Prop} {r : Nat} {Dn : Ends}
    (sim : Sim K C ρ S σ H) (g : SOk K mg C W r (f.s k ρ) Dn)
    (h : ∀ b ρ' S' H', f ρ = .ok b ρ' → SOk K mg C W r (k b ρ') Dn → Sim K C ρ' S' σ H' → Mv p S H S' H' → Q b H') : tB' K mg W p f σ H Q := by
  refine ⟨C, ρ, S, sim, ?_⟩
  unfold EM.s at g
  cases e : f ρ with
  | ok a ρ' =>
    rw [e] at g
    intro S' H' s m c
    exact h a ρ' S' H' e g s m
  | err x ρ' =>
    rw [e] at g
    intro cls dd S' H' s x
    exact g cls dd σ S' H' s x
  | bad =>
    rw [e] at g
    exact g.elim
variable {r n : Nat}
theorem Sim.setV {K : PySem.W.Frag} {C : Ctx} {ρ : En} {S : Own} {σ : L2.St} {H : Hp} {v : V} {d : D} (h : Sim K C ρ S σ H) (i : Nat) (r : Rep K S H v d) : Sim K C (ρ.set i (some (.val, d))) S (σ.set i (some v)) H := by
  obtain ⟨fps, h⟩ := h
  exact ⟨_, h.set i (.val r) .nil (fun _ z => nomatch z) (.inr rfl)⟩
theorem w_set {i : Nat} {x : Str} {e : Expr} {f : EM (Nat × D)} {pos pos' : Pos} (hN : X.N.Nodup) (hi : X.N[i]? = some x) (hx : Loc X.env.scope x) (he : PE X e (tE X.K X.mg W p f)) (hs : swapsWith e (some (.Name x pos')) pos.line X.env = pure false := by rfl) (hf : X.fn x = true ∨ X.env.scope.names.lookup x = some .local := by first | exact .inl rfl | exact .inr rfl | assumption) :
    PS X (.Assign [.Name x pos'] e pos) (tS X.K X.mg W r (sSet i f)) := psI (ps_set hN hi hx he hs hf) fun Dn σ H h => by
  obtain ⟨C, ρ, S, sim, h⟩ := h
  refine tE_s sim h ?_
  intro n d ρ1 v S1 H1 fp _ h s1 m1 a1
  split at h
  · rename_i hn
    simp only at hn
    subst hn
    exact h _ S1 H1 (s1.setV i (Rep.zero a1))
  · exact h.elim
theorem w_own {i : Nat} {x : Str} {e : Expr} {f : EM D} {pos pos' : Pos} (hN : X.N.Nodup) (hi : X.N[i]? = some x) (hx : Loc X.env.scope x) (he : PE X e (tN X.K X.mg W n f)) (hs : swapsWith e (some (.Name x pos')) pos.line X.env = pure false := by rfl) (hf : X.fn x = true ∨ X.env.scope.names.lookup x = some .local := by first | exact .inl rfl | exact .inr rfl | assumption) :
    PS X (.Assign [.Name x pos'] e pos) (tS X.K X.mg W r (sOwn n i f)) := psI (ps_set hN hi hx he hs hf) fun Dn σ H h => by
  obtain ⟨C, ρ, S, sim, h⟩ := h
  refine tN_s sim h ?_
  intro d ρ1 v S1 H1 fps fp _ h s1 t a nd z
  by_cases hlt : i < ρ1.length
  · exact h _ S1 H1 ⟨_, s1.set i (.own a fun b hb => (z b hb).1) nd (fun b hb => (z b hb).2) (.inl hlt)⟩
  · refine h _ S1 H1 ⟨fps, ?_⟩
    rw [List.set_eq_of_length_le (by omega), List.set_eq_of_length_le (by rw [s1.len]; omega)]
    exact s1
theorem w_expr {e : Expr} {f : EM (Nat × D)} {pos : Pos} (he : PE X e (tE X.K X.mg W p f)) (hs : swapsWith e none pos.line X.env = pure false := by rfl) : PS X (.Expr e pos) (tS X.K X.mg W r (sExpr f)) := psI (ps_expr he hs) fun Dn σ H h => by
  obtain ⟨C, ρ, S, sim, h⟩ := h
  refine tE_s sim h ?_
  intro n d ρ1 v S1 H1 fp _ h s1 m1 a1
  exact h _ S1 H1 s1
theorem w_ret {e : Expr} {f : EM (Nat × D)} {pos : Pos} (he : PE X e (tE X.K X.mg W p f)) : PS X (.Return (some e) pos) (tS X.K X.mg W r (sRet f)) := psI (ps_ret he) fun Dn σ H h => by
  obtain ⟨C, ρ, S, sim, h⟩ := h
  refine tE_s sim h ?_
  intro n d ρ1 v S1 H1 fp _ h s1 m1 a1
  split at h
  · rename_i hn
    simp only at hn
    subst hn
    obtain ⟨fps, s1⟩ := s1
    exact h.2 v σ S1 H1 fps [] s1 (.zero (Rep.zero a1)) .nil fun _ z => nomatch z
  · exact h.elim
theorem w_retN {e : Expr} {f : EM D} {pos : Pos} (he : PE X e (tN X.K X.mg W n f)) : PS X (.Return (some e) pos) (tS X.K X.mg W r (sRetN n f)) := psI (ps_ret he) fun Dn σ H h => by
  obtain ⟨C, ρ, S, sim, h⟩ := h
  refine tN_s sim h ?_
  intro d ρ1 v S1 H1 fps fp _ h s1 t a nd z
  exact h.2 v σ S1 H1 fps fp s1 a nd z
theorem w_ret0 {pos : Pos} : PS X (.Return none pos) (tS X.K X.mg W r sRet0) := psI ps_retN fun Dn σ H h => by
  obtain ⟨C, ρ, S, ⟨fps, sim⟩, h⟩ := h
  exact h.2 .non σ S H fps [] sim (.zero .non) .nil fun _ z => nomatch z
theorem w_pass {pos : Pos} : PS X (.Pass pos) (tS X.K X.mg W r sNx) := psI ps_pass fun Dn σ H h => by
  obtain ⟨C, ρ, S, sim, h⟩ := h
  exact h σ S H sim
theorem w_break {pos : Pos} : PS X (.Break pos) (tS X.K X.mg W r sBk) := psI ps_break fun Dn σ H h => by
  obtain ⟨C, ρ, S, sim, h⟩ := h
  exact h σ S H sim
theorem w_cont {pos : Pos} : PS X (.Continue pos) (tS X.K X.mg W r sCt) := psI ps_continue fun Dn σ H h => by
  obtain ⟨C, ρ, S, sim, h⟩ := h
  exact h σ S H sim
theorem ws_nil : PSs X [] (tS X.K X.mg W r sNx) := pssI pss_nil fun Dn σ H h => by
  obtain ⟨C, ρ, S, sim, h⟩ := h
  exact h σ S H sim
theorem ws_one {st : Stmt} {g : SM} (h : PS X st (tS X.K X.mg W r g)) : PSs X [st] (tS X.K X.mg W r g) := pss_one h
theorem ws_cons {st : Stmt} {rest : List Stmt} {g k : SM} (h1 : PS X st (tS X.K X.mg W r g)) (h2 : PSs X rest (tS X.K X.mg W r k)) : PSs X (st :: rest) (tS X.K X.mg W r (sSeq g k)) := pssI (pss_cons h1 h2) fun Dn σ H h => by
  obtain ⟨C, ρ, S, sim, h⟩ := h
  refine ⟨C, ρ, S, sim, ?_⟩
  unfold sSeq at h
  cases e : g ρ with
  | nx ρ1 =>
    rw [e] at h
    intro σ' S' H' s'
    exact ⟨C, ρ1, S', s', h⟩
  | rt n d ρ1 => rw [e] at h; exact h
  | bk ρ1 => rw [e] at h; exact h
  | ct ρ1 => rw [e] at h; exact h
  | err x ρ1 => rw [e] at h; exact h
  | bad => rw [e] at h; exact h.elim
theorem w_if {c : Expr} {a b : List Stmt} {f : EM Bool} {g k : SM} {pos : Pos} (hc : PT X c (tB' X.K X.mg W p f)) (ha : PSs X a (tS X.K X.mg W r g)) (hb : PSs X b (tS X.K X.mg W r k)) : PS X (.If c a b pos) (tS X.K X.mg W r (sIf f g k)) := psI (ps_if hc ha hb) fun Dn σ H h => by
  obtain ⟨C, ρ, S, sim, h⟩ := h
  refine tB_s sim h ?_
  intro b ρ1 S1 H1 _ h s1 m1
  cases b with
  | true => exact ⟨C, ρ1, S1, s1, h⟩
  | false => exact ⟨C, ρ1, S1, s1, h⟩
end
end VL

namespace VL
open PySem PySem.Spec PyProof.Rows L2

/-! ## defs, called where nothing is being shown -/
/-- room, and no repr runs -/
structure RG (k : Nat) (A : Around) : Prop where
  room : Room k A
  gu : A.guards = some []
theorem RG.mono {j k : Nat} {A : Around} (r : RG k A) (h : j ≤ k) : RG j A := ⟨r.room.mono h, r.gu⟩
/-- as the layer's FnOk, for such calls -/
structure FnG (P : Program) (w : World) (K : PySem.W.Frag) (mg : Str → Option Value) (base : Heap) (k : Nat) (f : Addr) (fd : FuncData) (ps : List Str) (sp : Sp) : Prop where
  len : ∀ vs H Q E, sp vs H Q E → vs.length = ps.length
  run : ∀ A outer s H args us vs Q E, RG k A → Env0 P w K mg base A outer s H → BindsTo s fd args (ps.zip us) → Vals vs us → sp vs H Q E → codeAny (model P w) A (.call (.ref f) args) (CR (L2.CX P w) outer P w H s Q E) s
theorem FnG.mono {P : Program} {w : World} {K : PySem.W.Frag} {mg : Str → Option Value} {base : Heap} {j k : Nat} {f : Addr} {fd : FuncData} {ps : List Str} {sp : Sp} (F : FnG P w K mg base j f fd ps sp) (h : j ≤ k) : FnG P w K mg base k f fd ps sp :=
  ⟨F.len, fun A outer s H args us vs Q E hr => F.run A outer s H args us vs Q E (hr.mono h)⟩
theorem FnG.imp {P : Program} {w : World} {K : PySem.W.Frag} {mg : Str → Option Value} {base : Heap} {k : Nat} {f : Addr} {fd : FuncData} {ps : List Str} {sp sp' : Sp} (F : FnG P w K mg base k f fd ps sp) (h : ∀ vs H Q E, sp' vs H Q E → sp vs H Q E) : FnG P w K mg base k f fd ps sp' :=
  ⟨fun vs H Q E q => F.len vs H Q E (h _ _ _ _ q), fun A outer s H args us vs Q E hr e b v z => F.run A outer s H args us vs Q E hr e b v (h _ _ _ _ z)⟩
theorem guards_deeper (A : Around) (env : PySem.Env) : (A.deeper env).guards = A.guards := rfl
/-- a def by its body, its entry's guards known -/
theorem fnG_of {P : Program} {w : World} {K : PySem.W.Frag} {mg : Str → Option Value} {base : Heap} {x qual : Str} {st : Stmt} {f : Addr} {fd : FuncData} {N ps : List Str} {k : Nat} {sp : Sp} (F : Fun K x qual st f fd) (Sc : FnScope N ps (defScope st)) (len : ∀ vs H Q E, sp vs H Q E → vs.length = ps.length)
    (body : ∀ (cdv : Value) (A : Around) (outer : List PySem.Env) (s : Shared) (H : Hp) (vs : List V) (Q : VK) (E : XK), RG k (A.deeper (envOfC qual (defScope st) s.heap.objs.size f cdv)) → sp vs H Q E →
      ∃ t, PSs (cxOf (L2.CX P w) P w K mg base N qual (defScope st) f cdv A outer s H E) (defBody st) t ∧ t { nx := fun _ H' => Q .non H', rt := Q } (L2.start N vs) H) : FnG P w K mg base (k + 1) f fd ps sp := by
  obtain ⟨oc, od, kV, doc, pm, an, cdv, ct, osl, rfl, lk, hcd⟩ := F.ex
  refine ⟨len, fun A outer s H args us vs Q E hr e0 hb r z => ?_⟩
  have kx := e0.mod.kin.keeps fun b o q => (e0.bs b o q).1
  have kinds : ∀ y ∈ ps.zip us, (defScope st).names.lookup y.1 = some .local ∨ ((defScope st).names.lookup y.1 = some .cell ∧ ((cellsFrom (s.heap.objs.size + 1) (defScope st).names []).lookup y.1).isSome = true) := by
    rintro ⟨n, v⟩ hy
    exact (Sc.par n (List.of_mem_zip hy).1).imp id fun q => ⟨q, PySem.W.cellsFrom_some _ _ _ (.inl q)⟩
  refine codeAny_call_function hr.room.depth (kx _ _ lk) rfl Sc.co Sc.gen rfl (PySem.W.codeRec_of kx hcd) (hb _ _ _ _ (wpAny_newFunctionEnv_cells Sc.kind kinds ?_))
  rintro env rfl s1 xc
  refine ⟨(e0.mod.nolimit.keeps fun b o q => (e0.bs b o q).1).keeps xc.toInCall.keep, codeAny_func ?_⟩
  obtain ⟨t, ht, hq⟩ := body cdv A outer s H vs Q E ⟨hr.room.deeper _, hr.gu⟩ z
  refine wpAny_mono (ht.run [] s1 (L2.start N vs) H _ (inv_start Sc hr.room.hd e0 (len _ _ _ _ z) r xc) hq) ?_ fun e s' hs => hs
  intro fl s' hs
  cases fl with
  | ret u => obtain ⟨v, σ', H', J, rv, q⟩ := hs; exact ⟨v, H', J.os, J.bare, J.base, J.hok, rv, q⟩
  | next => obtain ⟨σ', H', J, q⟩ := hs; exact ⟨.non, H', J.os, J.bare, J.base, J.hok, rfl, q⟩
  | brk => obtain ⟨_, _, _, q⟩ := hs; exact q.elim
  | cont => obtain ⟨_, _, _, q⟩ := hs; exact q.elim
section
variable {X : Cx} {W : WX} {k : Nat} {f : Addr} {fd : FuncData} {ps : List Str} {sp : Sp} {x : Str} {np pos : Pos} {e : Expr} {es : List Expr} {t : TA}
/-- f(..) of such a def -/
theorem pe_callG (F : FnG X.prog X.w X.K X.mg X.base k f fd ps sp) (hr : RG k X.A) (tk : Takes X W) (hg : Gl X x) (hm : X.mg x = some (.ref f)) (hk : PySem.W.keepIn X.K (.ref f) = true) (hb : Binds X.K fd ps [])
    (ha : PA X (e :: es) t) (hdb : (x == ("__debug__" : Str)) = false) (he : starEach (e :: es) X.env = (false, eval e X.env) :: starEach es X.env) (hpl : (backTo pos (starEach es X.env)).any (·.1) = false) :
    PE X (.Call (.Name x np) (e :: es) [] pos) (tCallS sp (WE W) t) := ⟨fun pins s σ H Q I h => by
  refine wpAny_Call_Name_kw (ld_glob I hg hm (PySem.W.callWith_K (h₀ := X.base) I.ok.mod.kin hk (thn (ha.run pos pins s σ H _ I h) ?_) he hpl) hdb)
  rintro us s1 ⟨vs, H1, I1, r, q⟩
  refine ⟨I1.kIn, ?_⟩
  have hl := F.len _ _ _ _ q
  have b := hb s1 us I1.kIn (by rw [List.append_nil, ← r.length]; exact hl)
  rw [List.append_nil] at b
  refine wpAny_call (codeAny_mono (F.run X.A X.stack s1 H1 ⟨us, []⟩ us vs Q _ hr I1.env0 b r q) ?_)
  intro res s' hq
  cases res with
  | error u => exact passAt tk σ pins H1 s1 u s' I1 hq
  | ok fl =>
    cases fl with
    | ret u => exact I1.after hq
    | next => exact hq.elim
    | brk => exact hq.elim
    | cont => exact hq.elim⟩
end
end VL

namespace VL
open PySem PySem.Spec PyProof.Rows L2

/-! ## calls -/
/-- an argument: a value, or what slot i holds, lent -/
inductive ArgD where
  | val (n : Nat) (d : D) | box (i : Nat)
section
variable (K : PySem.W.Frag)
/-- the arguments as a def's body finds them: ls tells how many layers of each are lent (0: shared) -/
inductive Args (S : Own) (H : Hp) : List Nat → List V → List D → List (List Addr) → Prop
  | nil : Args S H [] [] [] []
  | val {v : V} {d : D} {ls : List Nat} {vs : List V} {ds : List D} {F : List (List Addr)} : Rep K S H v d → Args S H ls vs ds F → Args S H (0 :: ls) (v :: vs) (d :: ds) F
  | bor {n : Nat} {v : V} {d : D} {ls : List Nat} {vs : List V} {ds : List D} {f : List Addr} {F : List (List Addr)} : Al K S H (n + 1) v d f → Args S H ls vs ds F → Args S H ((n + 1) :: ls) (v :: vs) (d :: ds) (f :: F)
/-- what became of the lent ones -/
inductive Bors (H : Hp) (S' : Own) (H' : Hp) : List Nat → List V → List (List Addr) → List D → List (List Addr) → Prop
  | nil : Bors H S' H' [] [] [] [] []
  | val {v : V} {ls : List Nat} {vs : List V} {ds : List D} {F F' : List (List Addr)} : Bors H S' H' ls vs F ds F' → Bors H S' H' (0 :: ls) (v :: vs) F ds F'
  | bor {n : Nat} {v : V} {d : D} {ls : List Nat} {vs : List V} {ds : List D} {f f' : List Addr} {F F' : List (List Addr)} : Al K S' H' (n + 1) v d f' → (∀ b ∈ f', b ∈ f ∨ H b = none) → Bors H S' H' ls vs F ds F' →
      Bors H S' H' ((n + 1) :: ls) (v :: vs) (f :: F) (d :: ds) (f' :: F')
/-- behind a call -/
structure Aft (S : Own) (H : Hp) (F : List (List Addr)) (ls : List Nat) (vs : List V) (outs : List D) (S' : Own) (H' : Hp) (F' : List (List Addr)) : Prop where
  tr : Tr S H S' H'
  fr : ∀ b u, b ∉ F.flatten → H b = some u → H' b = some u
  sub : ∀ b, S b → S' b
  sd : ∀ b, S' b → H' b ≠ none
  outs : Bors K H S' H' ls vs F outs F'
  nd : F'.flatten.Nodup
variable (mg : Str → Option Value)
/-- the promise of a def whose mirror is m; r layers of its answer are fresh -/
def SpM (ls : List Nat) (r : Nat) (m : Fn) : Sp := fun vs H Q E => ∃ (S : Own) (ds : List D) (F : List (List Addr)), Args K S H ls vs ds F ∧ F.flatten.Nodup ∧ (∀ b, S b → H b ≠ none) ∧
  match m ds with
  | .ok d outs => ∀ v S' H' F' fp, Aft K S H F ls vs outs S' H' F' → Al K S' H' r v d fp → fp.Nodup → (∀ b ∈ fp, H b = none ∧ b ∉ F'.flatten) → Q v H'
  | .err x outs => ∀ cls dd S' H' F', Aft K S H F ls vs outs S' H' F' → XOk K mg S' H' x cls dd → E cls dd H'
  | .bad => False
end
def initE : List Nat → List D → En
  | 0 :: ls, d :: ds => some (.val, d) :: initE ls ds
  | (n + 1) :: ls, d :: ds => some (.bor (n + 1), d) :: initE ls ds
  | _, _ => []
def outsE : List Nat → En → Option (List D)
  | [], _ => some []
  | 0 :: ls, _ :: ρ => outsE ls ρ
  | (n + 1) :: ls, some (.bor m, d) :: ρ => if m = n + 1 then (outsE ls ρ).map (d :: ·) else none
  | _, _ => none
/-- a def's mirror by its body's: ls as in SpM, k more locals -/
def runF (ls : List Nat) (k r : Nat) (g : SM) : Fn := fun ds => match g (initE ls ds ++ List.replicate k none) with
  | .rt n d ρ => if n = r then (match outsE ls ρ with | some o => .ok d o | none => .bad) else .bad
  | .nx ρ => if r = 0 then (match outsE ls ρ with | some o => .ok .non o | none => .bad) else .bad
  | .err x ρ => (match outsE ls ρ with | some o => .err x o | none => .bad)
  | _ => .bad

/-- the footprints by place -/
def place : List Nat → List (List Addr) → Nat → List Addr
  | 0 :: _, _, 0 => []
  | 0 :: ls, F, i + 1 => place ls F i
  | (_ + 1) :: _, f :: _, 0 => f
  | (_ + 1) :: ls, _ :: F, i + 1 => place ls F i
  | _, _, _ => []
section
variable {K : PySem.W.Frag} {mg : Str → Option Value} {S S' : Own} {H H' : Hp} {ls : List Nat} {vs : List V} {ds : List D} {F : List (List Addr)}
theorem Args.len (h : Args K S H ls vs ds F) : vs.length = ls.length ∧ ds.length = ls.length := by
  induction h with
  | nil => exact ⟨rfl, rfl⟩
  | val _ _ ih => simp [ih.1, ih.2]
  | bor _ _ ih => simp [ih.1, ih.2]
theorem Args.there (h : Args K S H ls vs ds F) : ∀ b ∈ F.flatten, H b ≠ none ∧ S b := by
  induction h with
  | nil => exact fun _ z => nomatch z
  | val _ _ ih => exact ih
  | bor a _ ih =>
    intro b hb
    rw [List.flatten_cons] at hb
    exact (List.mem_append.mp hb).elim (a.there b) (ih b)
theorem initE_len (h : Args K S H ls vs ds F) : (initE ls ds).length = ls.length := by
  induction h with
  | nil => rfl
  | val _ _ ih => simp [initE, ih]
  | bor _ _ ih => simp [initE, ih]
theorem Args.slots (h : Args K S H ls vs ds F) (nd : F.flatten.Nodup) : (∀ i s, (initE ls ds)[i]? = some s → ∃ v, vs[i]? = some v ∧
      ((∃ d, s = some (.val, d) ∧ Rep K S H v d ∧ place ls F i = []) ∨ ∃ n d, s = some (.bor n, d) ∧ Al K S H n v d (place ls F i))) ∧
    (∀ i, (place ls F i).Nodup) ∧ (∀ i j b, b ∈ place ls F i → b ∈ place ls F j → i = j) ∧ (∀ i b, b ∈ place ls F i → b ∈ F.flatten) ∧ ∀ i, ls.length ≤ i → place ls F i = [] := by
  induction h with
  | nil => exact ⟨fun i s e => by simp [initE] at e, fun _ => .nil, (fun _ _ _ z => nomatch z), (fun _ _ z => nomatch z), fun _ _ => rfl⟩
  | @val v d ls vs ds F r q ih =>
    obtain ⟨h1, h2, h3, h4, h5⟩ := ih nd
    refine ⟨fun i s e => ?_, fun i => ?_, fun i j b hi hj => ?_, fun i b hi => ?_, fun i hi => ?_⟩
    · cases i with
      | zero => simp [initE] at e; subst e; exact ⟨v, rfl, .inl ⟨d, rfl, r, rfl⟩⟩
      | succ i => simp [initE] at e; simpa [place] using h1 i s e
    · cases i with
      | zero => exact .nil
      | succ i => exact h2 i
    · cases i with
      | zero => cases hi
      | succ i => cases j with
        | zero => cases hj
        | succ j => rw [h3 i j b hi hj]
    · cases i with
      | zero => cases hi
      | succ i => exact h4 i b hi
    · cases i with
      | zero => simp at hi
      | succ i => exact h5 i (by simpa using hi)
  | @bor n v d ls vs ds f F a q ih =>
    rw [List.flatten_cons] at nd
    obtain ⟨nf, nF, nn⟩ := List.nodup_append.mp nd
    obtain ⟨h1, h2, h3, h4, h5⟩ := ih nF
    refine ⟨fun i s e => ?_, fun i => ?_, fun i j b hi hj => ?_, fun i b hi => ?_, fun i hi => ?_⟩
    · cases i with
      | zero => simp [initE] at e; subst e; exact ⟨v, rfl, .inr ⟨_, d, rfl, a⟩⟩
      | succ i => simp [initE] at e; simpa [place] using h1 i s e
    · cases i with
      | zero => exact nf
      | succ i => exact h2 i
    · cases i with
      | zero => cases j with
        | zero => rfl
        | succ j => exact absurd rfl (nn b hi b (h4 j b hj))
      | succ i => cases j with
        | zero => exact absurd rfl (nn b hj b (h4 i b hi))
        | succ j => rw [h3 i j b hi hj]
    · rw [List.flatten_cons]
      cases i with
      | zero => exact List.mem_append_left _ hi
      | succ i => exact List.mem_append_right _ (h4 i b hi)
    · cases i with
      | zero => simp at hi
      | succ i => exact h5 i (by simpa using hi)
/-- the lent ones at the end -/
theorem bors_of (h : Args K S H ls vs ds F) : ∀ {ρ : En} {outs : List D} {fps : Nat → List Addr}, outsE ls ρ = some outs →
    (∀ i n d, ρ[i]? = some (some (.bor n, d)) → ∃ v, vs[i]? = some v ∧ Al K S' H' n v d (fps i) ∧ ∀ b ∈ fps i, b ∈ place ls F i ∨ H b = none) → (∀ i, (fps i).Nodup) → (∀ i j b, b ∈ fps i → b ∈ fps j → i = j) →
    ∃ F', Bors K H S' H' ls vs F outs F' ∧ F'.flatten.Nodup ∧ ∀ b ∈ F'.flatten, ∃ i, b ∈ fps i := by
  induction h with
  | nil =>
    intro ρ outs fps e h1 h2 h3
    simp [outsE] at e; subst e; exact ⟨[], .nil, .nil, fun _ z => nomatch z⟩
  | @val v d ls vs ds F r q ih =>
    intro ρ outs fps e h1 h2 h3
    cases ρ with
    | nil => simp [outsE] at e
    | cons s ρ =>
      obtain ⟨F', b, nd, mem⟩ := ih (fps := fun i => fps (i + 1)) (ρ := ρ) (outs := outs) (by cases s <;> simpa [outsE] using e)
        (fun i n d ei => by simpa [place] using h1 (i + 1) n d (by simpa using ei)) (fun i => h2 (i + 1)) (fun i j b hi hj => by have := h3 (i + 1) (j + 1) b hi hj; omega)
      exact ⟨F', .val b, nd, fun b hb => let ⟨i, z⟩ := mem b hb; ⟨i + 1, z⟩⟩
  | @bor n v d ls vs ds f F a q ih =>
    intro ρ outs fps e h1 h2 h3
    cases ρ with
    | nil => simp [outsE] at e
    | cons s ρ =>
      cases s with
      | none => simp [outsE] at e
      | some p =>
        obtain ⟨m, d⟩ := p
        cases m with
        | val => simp [outsE] at e
        | own m => simp [outsE] at e
        | bor m =>
          simp only [outsE] at e
          split at e
          · rename_i em
            subst em
            cases e2 : outsE ls ρ with
            | none => rw [e2] at e; simp at e
            | some o =>
              rw [e2] at e
              simp at e
              subst e
              obtain ⟨F', b, nd, mem⟩ := ih (fps := fun i => fps (i + 1)) (ρ := ρ) (outs := o) e2
                (fun i n d ei => by simpa [place] using h1 (i + 1) n d (by simpa using ei)) (fun i => h2 (i + 1)) (fun i j b hi hj => by have := h3 (i + 1) (j + 1) b hi hj; omega)
              obtain ⟨w, ew, al, nw⟩ := h1 0 _ d rfl
              have ew' : v = w := by simpa using ew
              subst ew'
              refine ⟨fps 0 :: F', .bor al nw b, ?_, fun x hx => ?_⟩
              · rw [List.flatten_cons]
                refine List.nodup_append.mpr ⟨h2 0, nd, fun x hx y hy z => ?_⟩
                subst z
                obtain ⟨i, q⟩ := mem x hy
                have := h3 0 (i + 1) x hx q
                omega
              · rw [List.flatten_cons] at hx
                rcases List.mem_append.mp hx with hx | hx
                · exact ⟨0, hx⟩
                · obtain ⟨i, q⟩ := mem x hx
                  exact ⟨i + 1, q⟩
          · simp at e
end

/-- THE RULE of a def: its body's mirror makes its own -/
theorem fn_body {P : Program} {w : World} {K : PySem.W.Frag} {mg : Str → Option Value} {base : Heap} {x qual : Str} {st : Stmt} {f : Addr} {fd : FuncData} {N ps : List Str} {k : Nat} (F : Fun K x qual st f fd) (Sc : FnScope N ps (defScope st)) (ls : List Nat) (nl r : Nat) (g : SM)
    (hls : ls.length = ps.length) (hn : N.length = ps.length + nl)
    (body : ∀ (cdv : Value) (A : Around) (outer : List PySem.Env) (s : Shared) (H : Hp) (E : XK), RG k (A.deeper (envOfC qual (defScope st) s.heap.objs.size f cdv)) →
      PSs (cxOf (L2.CX P w) P w K mg base N qual (defScope st) f cdv A outer s H E) (defBody st) (tS K mg (fun c d _ H => E c d H) r g)) :
    FnG P w K mg base (k + 1) f fd ps (SpM K mg ls r (runF ls nl r g)) := by
  refine fnG_of F Sc (fun vs H Q E h => ?_) (fun cdv A outer s H vs Q E hr h => ⟨_, body cdv A outer s H E hr, ?_⟩)
  · obtain ⟨S, ds, F, a, _⟩ := h
    rw [a.len.1, hls]
  obtain ⟨S, ds, F, a, nd, sd, h⟩ := h
  obtain ⟨h1, h2, h3, h4, h5⟩ := a.slots nd
  have hl := a.len
  have hel := initE_len a
  have hsl : (initE ls ds ++ List.replicate nl none : En).length = N.length := by simp [hel, hn, hls]
  have sim : SimF K ⟨H, S, fun b => b ∈ F.flatten, fun _ => False, fun i b => b ∈ place ls F i, vs⟩ (place ls F) (initE ls ds ++ List.replicate nl none) S (L2.start N vs) H := by
    refine ⟨?_, fun i s ei => ?_, h2, h3, fun _ z => z, sd, fun b hb => .inl (a.there b hb).2, fun _ z => z.elim, h4, fun _ _ z => z.elim, fun _ _ _ e => e, fun _ z => z, fun b hb => .inl hb, sd, fun i hi => h5 i ?_⟩
    · rw [hsl]
      unfold L2.start
      rw [List.length_append, List.length_map, List.length_replicate]
      omega
    · by_cases hi : i < (initE ls ds).length
      · rw [List.getElem?_append_left hi] at ei
        obtain ⟨v, ev, q⟩ := h1 i s ei
        have es : (L2.start N vs)[i]? = some (some v) := by
          unfold L2.start
          rw [List.getElem?_append_left (by simp; omega), List.getElem?_map, ev]; rfl
        refine ⟨some v, es, ?_⟩
        rcases q with ⟨d, rfl, r, e⟩ | ⟨n, d, rfl, al⟩
        · rw [e]; exact .val r
        · exact .bor al ev fun b hb => .inl hb
      · rw [List.getElem?_append_right (by omega)] at ei
        rw [List.getElem?_replicate] at ei
        split at ei
        · cases ei
          have hi2 : i < (L2.start N vs).length := by
            unfold L2.start
            simp only [List.length_append, List.length_map, List.length_replicate]
            rename_i hlt
            omega
          refine ⟨_, List.getElem?_eq_getElem hi2, ?_⟩
          rw [h5 i (by omega)]
          exact .non
        · cases ei
    · rw [hsl, hn, ← hls] at hi; omega
  have aft : ∀ {ρ' : En} {outs : List D} {fps' : Nat → List Addr} {S' : Own} {σ' : L2.St} {H' : Hp}, outsE ls ρ' = some outs → SimF K ⟨H, S, fun b => b ∈ F.flatten, fun _ => False, fun i b => b ∈ place ls F i, vs⟩ fps' ρ' S' σ' H' → ∃ F', Aft K S H F ls vs outs S' H' F' ∧ ∀ b ∈ F'.flatten, ∃ i, b ∈ fps' i := by
    intro ρ' outs fps' S' σ' H' eo s'
    have rds : ∀ b u, Pl u → ¬ S b → Rd H b u → Rd H' b u := fun b u _ n r => by
      have nf : b ∉ F.flatten := fun z => n (a.there b z).2
      rcases r with r | ⟨o, r⟩
      · exact .inl (s'.frame b _ nf r)
      · exact .inr ⟨o, s'.frame b _ nf r⟩
    obtain ⟨F', b, nd', mem⟩ := bors_of (S' := S') (H' := H') a (ρ := ρ') (fps := fps') eo (fun i n d ei => by
      obtain ⟨x, ex, k⟩ := s'.sl i _ ei
      generalize fps' i = f at k
      cases k with
      | bor al ev z => exact ⟨_, ev, al, z⟩) s'.nd s'.dj
    refine ⟨F', ⟨⟨rds, fun c hc => ?_, s'.dom⟩, fun c u n e => s'.frame c u n e, s'.sub, s'.sd, b, nd'⟩, mem⟩
    rcases s'.sS c hc with z | z | z
    · exact .inl z
    · exact z.elim
    · exact .inr z
  refine ⟨_, _, S, ⟨_, sim⟩, ?_⟩
  unfold runF at h
  cases e : g (initE ls ds ++ List.replicate nl none) with
  | nx ρ' =>
    rw [e] at h
    intro σ' S' H' s'
    obtain ⟨fps', s'⟩ := s'
    by_cases hr : r = 0
    · subst hr
      cases eo : outsE ls ρ' with
      | none => simp only [eo, if_pos] at h
      | some o =>
        simp only [eo, if_pos] at h
        obtain ⟨F', af, _⟩ := aft eo s'
        exact h .non S' H' F' [] af (.zero .non) .nil (fun _ z => nomatch z)
    · simp only [hr, if_false] at h
  | rt n d ρ' =>
    rw [e] at h
    by_cases hr : n = r
    · subst hr
      cases eo : outsE ls ρ' with
      | none => simp only [eo, if_pos] at h
      | some o =>
        simp only [eo, if_pos] at h
        refine ⟨rfl, fun v σ' S' H' fps' fp s' al ndp z => ?_⟩
        obtain ⟨F', af, mem⟩ := aft eo s'
        refine h v S' H' F' fp af al ndp fun b hb => ⟨(z b hb).1.elim (fun t => t.elim) id, fun hm => ?_⟩
        obtain ⟨i, q⟩ := mem b hm
        exact (z b hb).2 i q
    · simp only [hr, if_false] at h
  | bk ρ' => rw [e] at h; exact h.elim
  | ct ρ' => rw [e] at h; exact h.elim
  | err x ρ' =>
    rw [e] at h
    intro cls dd σ' S' H' s' xo
    obtain ⟨fps', s'⟩ := s'
    cases eo : outsE ls ρ' with
    | none => simp only [eo] at h
    | some o =>
      simp only [eo] at h
      obtain ⟨F', af, _⟩ := aft eo s'
      exact h cls dd S' H' F' af xo
  | bad => rw [e] at h; exact h.elim
end VL

namespace VL
open PySem PySem.Spec PyProof.Rows L2

def ArgD.flat : ArgD → Prop
  | .val n _ => n = 0
  | .box _ => True
def boxes : List ArgD → List Nat
  | [] => []
  | .val _ _ :: as => boxes as
  | .box i :: as => i :: boxes as
def callDs : List Nat → List ArgD → En → Option (List D)
  | [], [], _ => some []
  | 0 :: ls, .val _ d :: as, ρ => (callDs ls as ρ).map (d :: ·)
  | (n + 1) :: ls, .box i :: as, ρ => match ρ[i]? with
    | some (some (m, d)) => if m.lv = n + 1 then (callDs ls as ρ).map (d :: ·) else none
    | _ => none
  | _, _, _ => none
def setD (ρ : En) (i : Nat) (d : D) : En := match ρ[i]? with
  | some (some (m, _)) => ρ.set i (some (m, d))
  | _ => ρ
def setB : List Nat → List D → En → En
  | i :: is, d :: ds, ρ => setB is ds (setD ρ i d)
  | _, _, ρ => ρ
section
variable (K : PySem.W.Frag)
inductive ArgVs (S : Own) (H : Hp) (σ : L2.St) : List ArgD → List V → Prop
  | nil : ArgVs S H σ [] []
  | val {n : Nat} {d : D} {v : V} {fp : List Addr} {as : List ArgD} {vs : List V} : Al K S H n v d fp → ArgVs S H σ as vs → ArgVs S H σ (.val n d :: as) (v :: vs)
  | box {i : Nat} {v : V} {as : List ArgD} {vs : List V} : σ[i]? = some (some v) → ArgVs S H σ as vs → ArgVs S H σ (.box i :: as) (v :: vs)
variable (mg : Str → Option Value)
def XaOk (C : Ctx) (ρ : En) (S : Own) (σ : L2.St) (H : Hp) (W : WX) (pf : Bool) (r : R En (List ArgD)) (Q : List V → Hp → Prop) : Prop :=
  match r with
  | .ok as ρ' => ∀ vs S' H', Sim K C ρ' S' σ H' → Mv pf S H S' H' → (pf = true → ρ' = ρ) → ArgVs K S' H' σ as vs → Q vs H'
  | .err x ρ' => ∀ cls dd S' H', Sim K C ρ' S' σ H' → XOk K mg S' H' x cls dd → W cls dd σ H'
  | .bad => False
def tX (W : WX) (pf : Bool) (f : EM (List ArgD)) : TA := fun σ H Q => ∃ C ρ S, Sim K C ρ S σ H ∧ XaOk K mg C ρ S σ H W pf (f ρ) Q
end
def xNil : EM (List ArgD) := fun ρ => .ok [] ρ
def xVal (q : Bool) (f : EM (Nat × D)) (g : EM (List ArgD)) : EM (List ArgD) := f.then fun a => g.then fun as ρ => if q = true ∨ a.1 = 0 then .ok (.val a.1 a.2 :: as) ρ else .bad
def xBox (i : Nat) (g : EM (List ArgD)) : EM (List ArgD) := fun ρ => match ρ[i]? with
  | some (some _) => (g.then fun as ρ => .ok (.box i :: as) ρ) ρ
  | _ => .bad

section
variable {K : PySem.W.Frag} {mg : Str → Option Value}
theorem tX_bind {W : WX} {p : Bool} {C : Ctx} {ρ : En} {S : Own} {σ : L2.St} {H : Hp} {f : EM (List ArgD)} {α : Type} {k : List ArgD → EM α} {Q : List V → Hp → Prop} {G : R En α → Prop}
    (sim : Sim K C ρ S σ H) (g : G (f.then k ρ)) (gb : ¬ G .bad) (ge : ∀ x ρ', G (.err x ρ') → ∀ cls dd S' H', Sim K C ρ' S' σ H' → XOk K mg S' H' x cls dd → W cls dd σ H')
    (h : ∀ as ρ' vs S' H', f ρ = .ok as ρ' → G (k as ρ') → Sim K C ρ' S' σ H' → Mv p S H S' H' → (p = true → ρ' = ρ) → ArgVs K S' H' σ as vs → Q vs H') : tX K mg W p f σ H Q := by
  refine ⟨C, ρ, S, sim, ?_⟩
  unfold EM.then at g
  cases e : f ρ with
  | ok a ρ' =>
    rw [e] at g
    intro v S' H' s m c a
    exact h _ ρ' v S' H' e g s m c a
  | err x ρ' =>
    rw [e] at g
    exact ge x ρ' g
  | bad =>
    rw [e] at g
    exact (gb g).elim
end
section
variable {X : Cx} {W : WX} {p q : Bool}
theorem x_nil : PA X [] (tX X.K X.mg W true xNil) := paI pa_nil fun σ H Q h => by
  obtain ⟨C, ρ, S, sim, h⟩ := h
  exact h [] S H sim .refl (fun _ => rfl) .nil
theorem x_val {f : EM (Nat × D)} {g : EM (List ArgD)} {e : Expr} {es : List Expr} (ha : PE X e (tE X.K X.mg W p f)) (hr : PA X es (tX X.K X.mg W q g)) (hs : starEach (e :: es) X.env = (false, eval e X.env) :: starEach es X.env := by rfl) :
    PA X (e :: es) (tX X.K X.mg W (p && q) (xVal q f g)) := paI (pa_cons ha hr hs) fun σ H Q h => by
  obtain ⟨C, ρ, S, sim, h⟩ := h
  refine tE_bind (G := fun z => XaOk X.K X.mg C ρ S σ H W (p && q) z Q) sim h id (fun x ρ' z => z) ?_
  intro n d ρ1 v S1 H1 fp1 _ h s1 m1 c1 a1
  refine tX_bind (G := fun z => XaOk X.K X.mg C ρ S σ H W (p && q) z Q) s1 h id (fun x ρ' z => z) ?_
  intro as ρ2 us S2 H2 _ h s2 m2 c2 a2
  split at h
  · rename_i hn
    refine h (v :: us) S2 H2 s2 (m1.trans m2) (fun hp => ?_) (.val (a1.mv m2 hn) a2)
    rw [Bool.and_eq_true] at hp
    exact (c2 hp.2).trans (c1 hp.1)
  · exact h.elim
theorem x_box (i : Nat) {x : Str} {pos : Pos} {g : EM (List ArgD)} {es : List Expr} (hr : PA X es (tX X.K X.mg W q g)) (hN : X.N[i]? = some x := by rfl) (hv : Vis X.env.scope x := by first | exact Or.inl rfl | exact Or.inr (Or.inl rfl) | exact Or.inr (Or.inr rfl)) (hd : (x == ("__debug__" : Str)) = false := by decide)
    (hcd : (x == ("__classdict__" : Str)) = false := by decide) (hs : starEach (.Name x pos :: es) X.env = (false, eval (.Name x pos) X.env) :: starEach es X.env := by rfl) :
    PA X (.Name x pos :: es) (tX X.K X.mg W q (xBox i g)) := paI (pa_cons (pe_var (i := i) hN hv hd hcd) hr hs) fun σ H Q h => by
  obtain ⟨C, ρ, S, sim, h⟩ := h
  obtain ⟨fps, sf⟩ := id sim
  unfold xBox at h
  split at h
  · rename_i md e
    obtain ⟨v, ev, _⟩ := sf.slot (m := md.1) (d := md.2) e
    refine ⟨v, ev, ?_⟩
    refine tX_bind (G := fun z => XaOk X.K X.mg C ρ S σ H W q z Q) sim h id (fun x ρ' z => z) ?_
    intro as ρ2 us S2 H2 _ h s2 m2 c2 a2
    exact h (v :: us) S2 H2 s2 m2 c2 (.box ev a2)
  · exact h.elim
end

/-! ### the caller's side -/
section
variable {K : PySem.W.Frag} {mg : Str → Option Value} {C : Ctx}
/-- between: the slots of op are as yet unsaid -/
structure SimX (K : PySem.W.Frag) (C : Ctx) (fo : Nat → List Addr) (op : List Nat) (fps : Nat → List Addr) (ρ : En) (S : Own) (σ : L2.St) (H : Hp) : Prop where
  len : σ.length = ρ.length
  sl : ∀ i s, ρ[i]? = some s → i ∉ op → ∃ x, σ[i]? = some x ∧ SlotOk K C S H i s x (fps i)
  so : ∀ i ∈ op, fps i = [] ∧ ∃ m d v, ρ[i]? = some (some (m, d)) ∧ σ[i]? = some (some v) ∧ (∀ d' f', Al K S H m.lv v d' f' → (∀ b ∈ f', b ∈ fo i ∨ C.H0 b = none) → SlotOk K C S H i (some (m, d')) (some v) f')
  nd : ∀ i, (fps i).Nodup
  dj : ∀ i j b, b ∈ fps i → b ∈ fps j → i = j
  sub : ∀ b, C.S0 b → S b
  s0 : ∀ b, C.S0 b → C.H0 b ≠ none
  f0 : ∀ b, C.F0 b → C.S0 b ∨ C.Z b
  zf : ∀ b, C.Z b → C.F0 b ∧ ¬ C.S0 b
  bf : ∀ i b, C.Bi i b → C.F0 b
  zb : ∀ i b, C.Z b → C.Bi i b
  frame : ∀ b u, ¬ C.F0 b → C.H0 b = some u → H b = some u
  dom : ∀ b, H b = none → C.H0 b = none
  sS : ∀ b, S b → C.S0 b ∨ C.Z b ∨ C.H0 b = none
  sd : ∀ b, S b → H b ≠ none
  out : ∀ i, ρ.length ≤ i → fps i = []
inductive BoxR (K : PySem.W.Frag) (C : Ctx) (fo : Nat → List Addr) (ρ : En) (S : Own) (σ : L2.St) (H : Hp) : List Nat → List D → List (List Addr) → Prop
  | nil : BoxR K C fo ρ S σ H [] [] []
  | cons {i : Nat} {is : List Nat} {d : D} {ds : List D} {f : List Addr} {F : List (List Addr)} {v : V} {m : Md} {d0 : D} : σ[i]? = some (some v) → ρ[i]? = some (some (m, d0)) → Al K S H m.lv v d f → (∀ b ∈ f, b ∈ fo i ∨ C.H0 b = none) → BoxR K C fo ρ S σ H is ds F →
      BoxR K C fo ρ S σ H (i :: is) (d :: ds) (f :: F)
theorem BoxR.set {fo : Nat → List Addr} {ρ : En} {S : Own} {σ : L2.St} {H : Hp} {is : List Nat} {ds : List D} {F : List (List Addr)} {i : Nat} {s : Slot} (h : BoxR K C fo ρ S σ H is ds F) (hi : i ∉ is) : BoxR K C fo (ρ.set i s) S σ H is ds F := by
  induction h with
  | nil => exact .nil
  | @cons j is d ds f F v m d0 e1 e2 a w q ih =>
    refine .cons (d0 := d0) e1 ?_ a w (ih fun z => hi (List.mem_cons_of_mem _ z))
    rw [List.getElem?_set_ne (show i ≠ j from fun z => hi (by rw [z]; exact List.mem_cons_self))]
    exact e2
theorem SimX.close {fo : Nat → List Addr} {S : Own} {σ : L2.St} {H : Hp} : ∀ {is : List Nat} {ds : List D} {F : List (List Addr)} {ρ : En} {fps : Nat → List Addr}, BoxR K C fo ρ S σ H is ds F → SimX K C fo is fps ρ S σ H → is.Nodup → F.flatten.Nodup → (∀ b ∈ F.flatten, ∀ i, b ∉ fps i) →
    ∃ fps', SimX K C fo [] fps' (setB is ds ρ) S σ H ∧ ∀ i b, b ∈ fps' i → b ∈ fps i ∨ b ∈ F.flatten
  | _, _, _, ρ, fps, .nil, h, _, _, _ => ⟨fps, h, fun _ _ z => .inl z⟩
  | i :: is, d :: ds, f :: F, ρ, fps, .cons (v := v) (m := m) (d0 := d0) e1 e2 a w q, h, nd, nf, dj => by
    obtain ⟨hi, nd⟩ := List.nodup_cons.mp nd
    rw [List.flatten_cons] at nf dj
    obtain ⟨nf1, nf2, nn⟩ := List.nodup_append.mp nf
    obtain ⟨f0, m', d', v', e3, e4, k⟩ := h.so i List.mem_cons_self
    rw [e2] at e3; cases e3
    rw [e1] at e4; cases e4
    have es : setD ρ i d = ρ.set i (some (m, d)) := by unfold setD; rw [e2]
    have hlt : i < ρ.length := (List.getElem?_eq_some_iff.mp e2).1
    have h' : SimX K C fo is (fun j => if j = i then f else fps j) (ρ.set i (some (m, d))) S σ H := by
      refine ⟨by simpa using h.len, fun j s ej hj => ?_, fun j hj => ?_, fun j => ?_, fun j l b hj hl => ?_, h.sub, h.s0, h.f0, h.zf, h.bf, h.zb, h.frame, h.dom, h.sS, h.sd, fun j hj => ?_⟩
      · by_cases hji : j = i
        · subst hji
          rw [List.getElem?_set_self hlt] at ej
          cases ej
          exact ⟨_, e1, by rw [if_pos rfl]; exact k d f a w⟩
        · rw [List.getElem?_set_ne (Ne.symm hji)] at ej
          rw [if_neg hji]
          exact h.sl j s ej fun z => (List.mem_cons.mp z).elim hji hj
      · have hji : j ≠ i := fun z => hi (z ▸ hj)
        rw [if_neg hji, List.getElem?_set_ne (Ne.symm hji)]
        exact h.so j (List.mem_cons_of_mem _ hj)
      · show (if j = i then f else fps j).Nodup
        split
        · exact nf1
        · exact h.nd j
      · have hj' : b ∈ (if j = i then f else fps j) := hj
        have hl' : b ∈ (if l = i then f else fps l) := hl
        split at hj'
        · split at hl'
          · rename_i z1 z2; exact z1.trans z2.symm
          · exact absurd hl' (dj b (List.mem_append_left _ hj') l)
        · split at hl'
          · exact absurd hj' (dj b (List.mem_append_left _ hl') j)
          · exact h.dj j l b hj' hl'
      · show (if j = i then f else fps j) = []
        split
        · rename_i z; subst z; simp at hj; omega
        · exact h.out j (by simpa using hj)
    obtain ⟨fps', h2, g⟩ := SimX.close (q.set hi) h' nd nf2 fun b hb j hj => by
      have hj' : b ∈ (if j = i then f else fps j) := hj
      split at hj'
      · exact nn b hj' b hb rfl
      · exact dj b (List.mem_append_right _ hb) j hj'
    refine ⟨fps', ?_, fun j b hb => ?_⟩
    · show SimX K C fo [] fps' (setB is ds (setD ρ i d)) S σ H
      rw [es]; exact h2
    · rw [List.flatten_cons]
      rcases g j b hb with z | z
      · have z' : b ∈ (if j = i then f else fps j) := z
        split at z'
        · exact .inr (List.mem_append_left _ z')
        · exact .inl z'
      · exact .inr (List.mem_append_right _ z)
theorem SimX.full {fo : Nat → List Addr} {fps : Nat → List Addr} {ρ : En} {S : Own} {σ : L2.St} {H : Hp} (h : SimX K C fo [] fps ρ S σ H) : SimF K C fps ρ S σ H :=
  ⟨h.len, fun i s e => h.sl i s e (fun z => nomatch z), h.nd, h.dj, h.sub, h.s0, h.f0, h.zf, h.bf, h.zb, h.frame, h.dom, h.sS, h.sd, h.out⟩

theorem call_args {fps : Nat → List Addr} {ρ : En} {S : Own} {σ : L2.St} {H : Hp} (s : SimF K C fps ρ S σ H) : ∀ {ls : List Nat} {as : List ArgD} {vs : List V} {ds : List D}, ArgVs K S H σ as vs → callDs ls as ρ = some ds → (∀ a ∈ as, a.flat) →
    Args K S H ls vs ds ((boxes as).map fps)
  | [], _, _, _, .nil, e, _ => by simp [callDs] at e; subst e; exact .nil
  | 0 :: ls, .val n d :: as, v :: vs, ds, .val a q, e, fl => by
    simp only [callDs] at e
    obtain ⟨ds', e1, rfl⟩ := Option.map_eq_some_iff.mp e
    have hn : n = 0 := fl _ List.mem_cons_self
    subst hn
    exact .val (Rep.zero a) (call_args s (as := as) q e1 fun a ha => fl a (List.mem_cons_of_mem _ ha))
  | (n + 1) :: ls, .box i :: as, v :: vs, ds, .box ev q, e, fl => by
    simp only [callDs] at e
    split at e
    · rename_i m d em
      split at e
      · rename_i hm
        obtain ⟨ds', e1, rfl⟩ := Option.map_eq_some_iff.mp e
        obtain ⟨w, ew, al⟩ := s.slot em
        rw [ev] at ew; cases ew
        rw [hm] at al
        exact .bor al (call_args s (as := as) q e1 fun a ha => fl a (List.mem_cons_of_mem _ ha))
      · simp at e
    · simp at e
  | [], .val _ _ :: _, _, _, .val _ _, e, _ => by simp [callDs] at e
  | [], .box _ :: _, _, _, .box _ _, e, _ => by simp [callDs] at e
  | 0 :: _, [], _, _, .nil, e, _ => by simp [callDs] at e
  | (_ + 1) :: _, [], _, _, .nil, e, _ => by simp [callDs] at e
  | 0 :: _, .box _ :: _, _, _, .box _ _, e, _ => by simp [callDs] at e
  | (_ + 1) :: _, .val _ _ :: _, _, _, .val _ _, e, _ => by simp [callDs] at e
theorem fps_nodup {fps : Nat → List Addr} {ρ : En} {S : Own} {σ : L2.St} {H : Hp} (s : SimF K C fps ρ S σ H) : ∀ {is : List Nat}, is.Nodup → (is.map fps).flatten.Nodup
  | [], _ => .nil
  | i :: is, h => by
    obtain ⟨hi, h⟩ := List.nodup_cons.mp h
    rw [List.map_cons, List.flatten_cons]
    refine List.nodup_append.mpr ⟨s.nd i, fps_nodup s h, fun a ha b hb z => ?_⟩
    subst z
    obtain ⟨f, hf, hb⟩ := List.mem_flatten.mp hb
    obtain ⟨j, hj, rfl⟩ := List.mem_map.mp hf
    exact hi (s.dj i j a ha hb ▸ hj)
theorem mem_fps {fps : Nat → List Addr} {is : List Nat} {b : Addr} (h : b ∈ (is.map fps).flatten) : ∃ i ∈ is, b ∈ fps i := by
  obtain ⟨f, hf, hb⟩ := List.mem_flatten.mp h
  obtain ⟨j, hj, rfl⟩ := List.mem_map.mp hf
  exact ⟨j, hj, hb⟩
theorem boxR_of {fps : Nat → List Addr} {ρ : En} {S S' S2 : Own} {σ : L2.St} {H H' : Hp} (s : SimF K C fps ρ S σ H) (hn : ∀ b, H b = none → C.H0 b = none) : ∀ {ls : List Nat} {as : List ArgD} {vs : List V} {ds outs : List D} {F' : List (List Addr)}, ArgVs K S H σ as vs → callDs ls as ρ = some ds →
    Bors K H S' H' ls vs ((boxes as).map fps) outs F' → (Tr S' H' S2 H') → (∀ b ∈ F'.flatten, S2 b) → BoxR K C fps ρ S2 σ H' (boxes as) outs F'
  | [], _, _, _, _, _, .nil, e, b, _, _ => by cases b; exact .nil
  | 0 :: ls, .val n d :: as, v :: vs, ds, outs, F', .val a q, e, b, t, hs => by
    simp only [callDs] at e
    obtain ⟨ds', e1, rfl⟩ := Option.map_eq_some_iff.mp e
    cases b with
    | val b => exact boxR_of s hn (as := as) q e1 b t hs
  | (n + 1) :: ls, .box i :: as, v :: vs, ds, outs, F', .box ev q, e, b, t, hs => by
    simp only [callDs] at e
    split at e
    · rename_i m d em
      split at e
      · rename_i hm
        obtain ⟨ds', e1, rfl⟩ := Option.map_eq_some_iff.mp e
        cases b with
        | bor al w b =>
          refine .cons ev em ?_ (fun x hx => (w x hx).elim .inl fun z => .inr (hn x z)) (boxR_of s hn (as := as) q e1 b t fun x hx => hs x (by rw [List.flatten_cons]; exact List.mem_append_right _ hx))
          rw [hm]
          exact al.mono t fun x hx => ⟨rfl, hs x (by rw [List.flatten_cons]; exact List.mem_append_left _ hx)⟩
      · simp at e
    · simp at e
  | [], .val _ _ :: _, _, _, _, _, .val _ _, e, _, _, _ => by simp [callDs] at e
  | [], .box _ :: _, _, _, _, _, .box _ _, e, _, _, _ => by simp [callDs] at e
  | 0 :: _, [], _, _, _, _, .nil, e, _, _, _ => by simp [callDs] at e
  | (_ + 1) :: _, [], _, _, _, _, .nil, e, _, _, _ => by simp [callDs] at e
  | 0 :: _, .box _ :: _, _, _, _, _, .box _ _, e, _, _, _ => by simp [callDs] at e
  | (_ + 1) :: _, .val _ _ :: _, _, _, _, _, .val _ _, e, _, _, _ => by simp [callDs] at e
/-- behind a call: the lent slots hold what became of them; Y: new ones that are let go -/
theorem called {fps : Nat → List Addr} {ρ : En} {S S' : Own} {σ : L2.St} {H H' : Hp} {ls : List Nat} {as : List ArgD} {vs : List V} {ds outs : List D} {F' : List (List Addr)} {Y : List Addr} (s : SimF K C fps ρ S σ H) (av : ArgVs K S H σ as vs) (e : callDs ls as ρ = some ds) (nb : (boxes as).Nodup)
    (af : Aft K S H ((boxes as).map fps) ls vs outs S' H' F') (hY : ∀ b ∈ Y, H b = none ∧ b ∉ F'.flatten) :
    ∃ fps', SimF K C fps' (setB (boxes as) outs ρ) (fun b => S' b ∧ b ∉ Y) σ H' ∧ Tr S H (fun b => S' b ∧ b ∉ Y) H' ∧ ∀ b, H b = none → b ∉ F'.flatten → ∀ i, b ∉ fps' i := by
  have t2 : Tr S' H' (fun b => S' b ∧ b ∉ Y) H' := .less fun b z => z.1
  have t : Tr S H (fun b => S' b ∧ b ∉ Y) H' := af.tr.trans t2
  have mem : ∀ b ∈ F'.flatten, S' b ∧ b ∉ Y := fun b hb => by
    refine ⟨?_, fun z => (hY b z).2 hb⟩
    have all : ∀ {ls vs F outs F'}, Bors K H S' H' ls vs F outs F' → ∀ b ∈ F'.flatten, S' b := by
      intro ls vs F outs F' h
      induction h with
      | nil => exact fun _ z => nomatch z
      | val _ ih => exact ih
      | bor a _ _ ih =>
        intro x hx
        rw [List.flatten_cons] at hx
        exact (List.mem_append.mp hx).elim (fun z => (a.there x z).2) (ih x)
    exact all af.outs b hb
  have br := boxR_of s s.dom av e af.outs t2 mem
  have notF : ∀ b u, ¬ C.F0 b → C.H0 b = some u → b ∉ ((boxes as).map fps).flatten := fun b u n q z => by
    obtain ⟨i, _, hb⟩ := mem_fps z
    by_cases hi : i < ρ.length
    · obtain ⟨x, ex, k⟩ := s.sl i _ (List.getElem?_eq_getElem hi)
      generalize ρ[i] = sl at k
      generalize fps i = f at k hb
      cases k with
      | non => cases hb
      | val r => cases hb
      | own a w => exact (w b hb).elim (fun z => n (s.zf b z).1) fun z => by rw [z] at q; cases q
      | bor a ev w => exact (w b hb).elim (fun z => n (s.bf _ b z)) fun z => by rw [z] at q; cases q
    · rw [s.out i (by omega)] at hb; cases hb
  have x0 : SimX K C fps (boxes as) (fun i => if i ∈ boxes as then [] else fps i) ρ (fun b => S' b ∧ b ∉ Y) σ H' := by
    refine ⟨s.len, fun i sl ei hi => ?_, fun i hi => ⟨if_pos hi, ?_⟩, fun i => ?_, fun i j b hi hj => ?_, fun b hb => ?_, s.s0, s.f0, s.zf, s.bf, s.zb, fun b u n q => ?_, fun b z => s.dom b (t.dom b z), fun b hb => ?_, fun b hb => af.sd b hb.1, fun i hi => ?_⟩
    · rw [if_neg hi]
      obtain ⟨x, ex, k⟩ := s.sl i sl ei
      refine ⟨x, ex, ?_⟩
      have dis : ∀ b ∈ fps i, H' b = H b ∧ S' b ∧ b ∉ Y := fun b hb => by
        obtain ⟨h1, h2⟩ := k.there b hb
        cases eb : H b with
        | none => exact absurd eb h1
        | some u =>
          refine ⟨?_, af.sub b h2, fun z => h1 (hY b z).1⟩
          refine af.fr b u (fun z => ?_) eb
          obtain ⟨j, hj, hbj⟩ := mem_fps z
          exact hi (s.dj i j b hb hbj ▸ hj)
      generalize fps i = f at k dis
      cases k with
      | non => exact .non
      | val r => exact .val (r.mono t)
      | own a z => exact .own (a.mono t dis) z
      | bor a w z => exact .bor (a.mono t dis) w z
    · have : ∀ {is ds F}, BoxR K C fps ρ (fun b => S' b ∧ b ∉ Y) σ H' is ds F → i ∈ is → ∃ m d v, ρ[i]? = some (some (m, d)) ∧ σ[i]? = some (some v) ∧ (∀ d' f', Al K (fun b => S' b ∧ b ∉ Y) H' m.lv v d' f' → (∀ b ∈ f', b ∈ fps i ∨ C.H0 b = none) → SlotOk K C (fun b => S' b ∧ b ∉ Y) H' i (some (m, d')) (some v) f') := by
        intro is ds F h hm
        induction h with
        | nil => cases hm
        | @cons j is d ds f F v m d0 e1 e2 a w q ih =>
          rcases List.mem_cons.mp hm with rfl | hm
          · refine ⟨m, d0, v, e2, e1, fun d' f' a' w' => ?_⟩
            obtain ⟨x, ex, k⟩ := s.sl i _ e2
            rw [e1] at ex; cases ex
            generalize fps i = g at k w'
            cases k with
            | val r =>
              cases a' with
              | zero r' => exact .val r'
            | own al z => exact .own a' fun b hb => (w' b hb).elim (z b) .inr
            | bor al ev z => exact .bor a' ev fun b hb => (w' b hb).elim (z b) .inr
          · exact ih hm
      exact this br hi
    · show (if i ∈ boxes as then [] else fps i).Nodup
      split
      · exact .nil
      · exact s.nd i
    · have hi' : b ∈ (if i ∈ boxes as then [] else fps i) := hi
      have hj' : b ∈ (if j ∈ boxes as then [] else fps j) := hj
      split at hi'
      · cases hi'
      · split at hj'
        · cases hj'
        · exact s.dj i j b hi' hj'
    · exact ⟨af.sub b (s.sub b hb), fun z => s.sd b (s.sub b hb) (hY b z).1⟩
    · exact af.fr b u (notF b u n q) (s.frame b u n q)
    · rcases af.tr.new b hb.1 with z | z
      · exact s.sS b z
      · exact .inr (.inr (s.dom b z))
    · show (if i ∈ boxes as then [] else fps i) = []
      split
      · rfl
      · exact s.out i hi
  have old : ∀ b ∈ F'.flatten, b ∈ ((boxes as).map fps).flatten ∨ H b = none := by
    have all : ∀ {ls vs F outs F'}, Bors K H S' H' ls vs F outs F' → ∀ b ∈ F'.flatten, b ∈ F.flatten ∨ H b = none := by
      intro ls vs F outs F' h
      induction h with
      | nil => exact fun _ z => nomatch z
      | val _ ih => exact ih
      | bor a w _ ih =>
        intro x hx
        rw [List.flatten_cons] at hx ⊢
        rcases List.mem_append.mp hx with hx | hx
        · exact (w x hx).elim (fun z => .inl (List.mem_append_left _ z)) .inr
        · exact (ih x hx).elim (fun z => .inl (List.mem_append_right _ z)) .inr
    exact all af.outs
  have fpsH : ∀ i b, b ∈ fps i → H b ≠ none := fun i b hb => by
    by_cases hi : i < ρ.length
    · obtain ⟨x, ex, k⟩ := s.sl i _ (List.getElem?_eq_getElem hi)
      exact (k.there b hb).1
    · rw [s.out i (by omega)] at hb; cases hb
  obtain ⟨fps', h2, g⟩ := x0.close br nb af.nd fun b hb i hi => by
    have hi' : b ∈ (if i ∈ boxes as then [] else fps i) := hi
    split at hi'
    · cases hi'
    · rename_i hni
      rcases old b hb with z | z
      · obtain ⟨j, hj, hbj⟩ := mem_fps z
        exact hni (s.dj i j b hi' hbj ▸ hj)
      · exact fpsH i b hi' z
  refine ⟨fps', h2.full, t, fun b hb hf i hi => ?_⟩
  rcases g i b hi with z | z
  · have z' : b ∈ (if i ∈ boxes as then [] else fps i) := z
    split at z'
    · cases z'
    · exact fpsH i b z' hb
  · exact hf z
end
end VL

namespace VL
open PySem PySem.Spec PyProof.Rows L2

def asFlat : List ArgD → Bool
  | [] => true
  | .val n _ :: as => n == 0 && asFlat as
  | .box _ :: as => asFlat as
theorem asFlat_all : ∀ {as : List ArgD}, asFlat as = true → ∀ a ∈ as, a.flat
  | .val n d :: as, h, a, ha => by
    simp only [asFlat, Bool.and_eq_true] at h
    rcases List.mem_cons.mp ha with rfl | ha
    · exact (by simpa using h.1 : n = 0)
    · exact asFlat_all h.2 a ha
  | .box i :: as, h, a, ha => by
    rcases List.mem_cons.mp ha with rfl | ha
    · trivial
    · exact asFlat_all (by simpa [asFlat] using h) a ha
/-- a call that lends nothing -/
def eCall (ls : List Nat) (m : Fn) (f : EM (List ArgD)) : EM (Nat × D) := f.then fun as ρ => if boxes as = [] then (match callDs ls as ρ with
  | some ds => (match m ds with
    | .ok d _ => if (asFlat as || d.flat) = true then .ok (0, d) ρ else .bad
    | .err x _ => if (asFlat as || x.fs.all fun p => p.2.flat) = true then .err x ρ else .bad
    | .bad => .bad)
  | none => .bad) else .bad
/-- a call that lends -/
def eCallB (ls : List Nat) (m : Fn) (f : EM (List ArgD)) : EM (Nat × D) := f.then fun as ρ => if asFlat as = true ∧ (boxes as).Nodup then (match callDs ls as ρ with
  | some ds => (match m ds with
    | .ok d outs => .ok (0, d) (setB (boxes as) outs ρ)
    | .err x outs => .err x (setB (boxes as) outs ρ)
    | .bad => .bad)
  | none => .bad) else .bad
/-- .. the answer fresh -/
def nCall (ls : List Nat) (m : Fn) (f : EM (List ArgD)) : EM D := f.then fun as ρ => if asFlat as = true ∧ (boxes as).Nodup then (match callDs ls as ρ with
  | some ds => (match m ds with
    | .ok d outs => .ok d (setB (boxes as) outs ρ)
    | .err x outs => .err x (setB (boxes as) outs ρ)
    | .bad => .bad)
  | none => .bad) else .bad
section
variable {K : PySem.W.Frag} {mg : Str → Option Value} {S S' : Own} {H H' : Hp}
theorem Al.flat {n : Nat} {v : V} {d : D} {fp : List Addr} (h : Al K S H n v d fp) (e : d.flat = true) : Rep K S' H' v d := by
  cases h with
  | zero r => cases r <;> first | (cases e; done) | constructor
  | fl _ r => cases r <;> first | (cases e; done) | constructor
  | tup => cases e
  | lst => cases e
  | dic => cases e
theorem Reps.flat : ∀ {vs : List V} {ds : List D}, Reps K S H vs ds → (∀ d ∈ ds, d.flat = true) → Reps K S' H' vs ds
  | _, _, .nil, _ => .nil
  | _, _, .cons r q, e => .cons ((Al.zero r).flat (e _ List.mem_cons_self)) (Reps.flat q fun d hd => e d (List.mem_cons_of_mem _ hd))
theorem XOk.mono (t : Tr S H S' H) {x : Ex} {cls : Value} {dd : Option Addr} (h : XOk K mg S H x cls dd) : XOk K mg S' H x cls dd := by
  obtain ⟨a, e1, e2, h⟩ := h
  refine ⟨a, e1, e2, h.imp id ?_⟩
  rintro ⟨q, kvs, e3, e4, e5, r⟩
  exact ⟨q, kvs, e3, e4, e5, r.mono t⟩
theorem XOk.flat {x : Ex} {cls : Value} {dd : Option Addr} (h : XOk K mg S H x cls dd) (e : (x.fs.all fun p => p.2.flat) = true) : XOk K mg S' H x cls dd := by
  obtain ⟨a, e1, e2, h⟩ := h
  refine ⟨a, e1, e2, h.imp id ?_⟩
  rintro ⟨q, kvs, e3, e4, e5, r⟩
  refine ⟨q, kvs, e3, e4, e5, r.flat fun d hd => ?_⟩
  obtain ⟨p, hp, rfl⟩ := List.mem_map.mp hd
  exact List.all_eq_true.mp e p hp
theorem call_args0 {σ : L2.St} {ρ : En} : ∀ {ls : List Nat} {as : List ArgD} {vs : List V} {ds : List D}, ArgVs K S H σ as vs → callDs ls as ρ = some ds → boxes as = [] → Args K (fun _ => False) H ls vs ds []
  | [], _, _, _, .nil, e, _ => by simp [callDs] at e; subst e; exact .nil
  | 0 :: ls, .val n d :: as, v :: vs, ds, .val a q, e, fl => by
    simp only [callDs] at e
    obtain ⟨ds', e1, rfl⟩ := Option.map_eq_some_iff.mp e
    exact .val a.rep0 (call_args0 (as := as) q e1 fl)
  | _, .box i :: as, v :: vs, ds, .box ev q, e, fl => by simp [boxes] at fl
  | [], .val _ _ :: _, _, _, .val _ _, e, _ => by simp [callDs] at e
  | 0 :: _, [], _, _, .nil, e, _ => by simp [callDs] at e
  | (_ + 1) :: _, [], _, _, .nil, e, _ => by simp [callDs] at e
  | (_ + 1) :: _, .val _ _ :: _, _, _, .val _ _, e, _ => by simp [callDs] at e
end
section
variable {X : Cx} {W : WX} {p : Bool} {k r : Nat} {f : Addr} {fd : FuncData} {ps : List Str} {ls : List Nat} {m : Fn} {x : Str} {np pos : Pos} {e : Expr} {es : List Expr} {g : EM (List ArgD)}
theorem v_call (F : FnG X.prog X.w X.K X.mg X.base k f fd ps (SpM X.K X.mg ls r m)) (tk : Takes X W) (hr : RG k X.A) (hg : Gl X x) (hm : X.mg x = some (.ref f)) (hk : PySem.W.keepIn X.K (.ref f) = true) (hb : Binds X.K fd ps [])
    (ha : PA X (e :: es) (tX X.K X.mg W p g)) (hdb : (x == ("__debug__" : Str)) = false := by decide) (he : starEach (e :: es) X.env = (false, eval e X.env) :: starEach es X.env := by rfl) (hpl : (backTo pos (starEach es X.env)).any (·.1) = false := by rfl) :
    PE X (.Call (.Name x np) (e :: es) [] pos) (tE X.K X.mg W p (eCall ls m g)) := peI (pe_callG F hr tk hg hm hk hb ha hdb he hpl) fun σ H Q h => by
  obtain ⟨C, ρ, S, sim, h⟩ := h
  refine tX_bind (G := fun z => EOk X.K X.mg C ρ S σ H W p z Q) sim h id (fun x ρ' z => z) ?_
  intro as ρ1 vs S1 H1 _ h s1 m1 c1 a1
  split at h
  · rename_i hbx
    split at h
    · rename_i ds eds
      obtain ⟨fps, sf⟩ := id s1
      by_cases hfl : asFlat as = true
      · have ar := call_args sf a1 eds (asFlat_all hfl)
        rw [hbx] at ar
        refine ⟨S1, ds, [], ar, .nil, sf.sd, ?_⟩
        cases em : m ds with
        | ok d outs =>
          rw [em] at h
          simp only [hfl, Bool.true_or, if_true] at h
          intro v S' H' F' fp af al nd hfp
          have sm : Same H1 H' := fun b u e => af.fr b u (fun z => nomatch z) e
          exact h v S1 H' [] (s1.same sm) (m1.then sm) c1 (.zero (al.freeze af.sub fun b hb z => sf.sd b z (hfp b hb).1))
        | err x outs =>
          rw [em] at h
          simp only [hfl, Bool.true_or, if_true] at h
          intro cls dd S' H' F' af xo
          have sm : Same H1 H' := fun b u e => af.fr b u (fun z => nomatch z) e
          exact h cls dd S1 H' (s1.same sm) (xo.mono (.less af.sub))
        | bad => rw [em] at h; exact h.elim
      · refine ⟨fun _ => False, ds, [], call_args0 a1 eds hbx, .nil, fun _ z => z.elim, ?_⟩
        have hfl' : asFlat as = false := by simpa using hfl
        cases em : m ds with
        | ok d outs =>
          rw [em] at h
          simp only [hfl', Bool.false_or] at h
          split at h
          · rename_i hd
            intro v S' H' F' fp af al nd hfp
            have sm : Same H1 H' := fun b u e => af.fr b u (fun z => nomatch z) e
            exact h v S1 H' [] (s1.same sm) (m1.then sm) c1 (.zero (al.flat hd))
          · exact h.elim
        | err x outs =>
          rw [em] at h
          simp only [hfl', Bool.false_or] at h
          split at h
          · rename_i hd
            intro cls dd S' H' F' af xo
            have sm : Same H1 H' := fun b u e => af.fr b u (fun z => nomatch z) e
            exact h cls dd S1 H' (s1.same sm) (xo.flat hd)
          · exact h.elim
        | bad => rw [em] at h; exact h.elim
    · exact h.elim
  · exact h.elim
theorem v_callB (F : FnG X.prog X.w X.K X.mg X.base k f fd ps (SpM X.K X.mg ls r m)) (tk : Takes X W) (hr : RG k X.A) (hg : Gl X x) (hm : X.mg x = some (.ref f)) (hk : PySem.W.keepIn X.K (.ref f) = true) (hb : Binds X.K fd ps [])
    (ha : PA X (e :: es) (tX X.K X.mg W p g)) (hdb : (x == ("__debug__" : Str)) = false := by decide) (he : starEach (e :: es) X.env = (false, eval e X.env) :: starEach es X.env := by rfl) (hpl : (backTo pos (starEach es X.env)).any (·.1) = false := by rfl) :
    PE X (.Call (.Name x np) (e :: es) [] pos) (tE X.K X.mg W false (eCallB ls m g)) := peI (pe_callG F hr tk hg hm hk hb ha hdb he hpl) fun σ H Q h => by
  obtain ⟨C, ρ, S, sim, h⟩ := h
  refine tX_bind (G := fun z => EOk X.K X.mg C ρ S σ H W false z Q) sim h id (fun x ρ' z => z) ?_
  intro as ρ1 vs S1 H1 _ h s1 m1 c1 a1
  split at h
  · rename_i hbx
    obtain ⟨hfl, hnb⟩ := hbx
    split at h
    · rename_i ds eds
      obtain ⟨fps, sf⟩ := id s1
      have ar := call_args sf a1 eds (asFlat_all hfl)
      refine ⟨S1, ds, _, ar, fps_nodup sf hnb, sf.sd, ?_⟩
      cases em : m ds with
      | ok d outs =>
        rw [em] at h
        intro v S' H' F' fp af al nd hfp
        obtain ⟨fps', sf', t, _⟩ := called sf a1 eds hnb af hfp
        exact h v _ H' [] ⟨_, sf'⟩ ⟨m1.1.trans t, fun z => nomatch z⟩ (fun z => nomatch z) (.zero (al.freeze (fun b z => z.1) fun b hb z => z.2 hb))
      | err x outs =>
        rw [em] at h
        intro cls dd S' H' F' af xo
        obtain ⟨fps', sf', t, _⟩ := called (Y := []) sf a1 eds hnb af (fun _ z => nomatch z)
        exact h cls dd _ H' ⟨_, sf'⟩ (xo.mono (.less fun b z => z.1))
      | bad => rw [em] at h; exact h.elim
    · exact h.elim
  · exact h.elim
theorem n_call (F : FnG X.prog X.w X.K X.mg X.base k f fd ps (SpM X.K X.mg ls r m)) (tk : Takes X W) (hr : RG k X.A) (hg : Gl X x) (hm : X.mg x = some (.ref f)) (hk : PySem.W.keepIn X.K (.ref f) = true) (hb : Binds X.K fd ps [])
    (ha : PA X (e :: es) (tX X.K X.mg W p g)) (hdb : (x == ("__debug__" : Str)) = false := by decide) (he : starEach (e :: es) X.env = (false, eval e X.env) :: starEach es X.env := by rfl) (hpl : (backTo pos (starEach es X.env)).any (·.1) = false := by rfl) :
    PE X (.Call (.Name x np) (e :: es) [] pos) (tN X.K X.mg W r (nCall ls m g)) := peI (pe_callG F hr tk hg hm hk hb ha hdb he hpl) fun σ H Q h => by
  obtain ⟨C, ρ, S, sim, h⟩ := h
  refine tX_bind (G := fun z => NOk X.K X.mg C ρ S σ H W r z Q) sim h id (fun x ρ' z => z) ?_
  intro as ρ1 vs S1 H1 _ h s1 m1 c1 a1
  split at h
  · rename_i hbx
    obtain ⟨hfl, hnb⟩ := hbx
    split at h
    · rename_i ds eds
      obtain ⟨fps, sf⟩ := id s1
      have ar := call_args sf a1 eds (asFlat_all hfl)
      refine ⟨S1, ds, _, ar, fps_nodup sf hnb, sf.sd, ?_⟩
      cases em : m ds with
      | ok d outs =>
        rw [em] at h
        intro v S' H' F' fp af al nd hfp
        obtain ⟨fps', sf', t, nf⟩ := called (Y := []) sf a1 eds hnb af (fun _ z => nomatch z)
        refine h v _ H' fps' fp sf' (m1.1.trans t) (al.mono (.less fun b z => z.1) fun b hb => ⟨rfl, (al.there b hb).2, fun z => nomatch z⟩) nd fun b hb => ⟨.inr (sf.dom b (hfp b hb).1), nf b (hfp b hb).1 (hfp b hb).2⟩
      | err x outs =>
        rw [em] at h
        intro cls dd S' H' F' af xo
        obtain ⟨fps', sf', t, _⟩ := called (Y := []) sf a1 eds hnb af (fun _ z => nomatch z)
        exact h cls dd _ H' ⟨_, sf'⟩ (xo.mono (.less fun b z => z.1))
      | bad => rw [em] at h; exact h.elim
    · exact h.elim
  · exact h.elim
/-- a fresh value, shared at once -/
def eN (f : EM D) : EM (Nat × D) := f.then fun d ρ => .ok (0, d) ρ
theorem vn_t {n : Nat} {f : EM D} {σ : L2.St} {H : Hp} {Q : VK} (h : tE X.K X.mg W false (eN f) σ H Q) : tN X.K X.mg W n f σ H Q := by
  obtain ⟨C, ρ, S, sim, h⟩ := h
  refine ⟨C, ρ, S, sim, ?_⟩
  unfold eN EM.then at h
  cases e : f ρ with
  | ok d ρ1 =>
    rw [e] at h
    intro v S' H' fps fp s t al nd z
    have t2 : Tr S' H' (fun b => S' b ∧ b ∉ fp) H' := .less fun b z => z.1
    refine h v (fun b => S' b ∧ b ∉ fp) H' [] ⟨fps, ⟨s.len, fun i sl ei => ?_, s.nd, s.dj, fun b hb => ⟨s.sub b hb, fun q => ?_⟩, s.s0, s.f0, s.zf, s.bf, s.zb, s.frame, s.dom, fun b hb => s.sS b hb.1, fun b hb => s.sd b hb.1, s.out⟩⟩ ⟨t.trans t2, fun z => nomatch z⟩ (fun z => nomatch z) (.zero (al.freeze (fun b z => z.1) fun b hb z => z.2 hb))
    · obtain ⟨x, ex, k⟩ := s.sl i sl ei
      refine ⟨x, ex, ?_⟩
      have dis : ∀ b ∈ fps i, H' b = H' b ∧ S' b ∧ b ∉ fp := fun b hb => ⟨rfl, (k.there b hb).2, fun q => (z b q).2 i hb⟩
      generalize fps i = g at k dis
      cases k with
      | non => exact .non
      | val r => exact .val (r.mono t2)
      | own a z => exact .own (a.mono t2 dis) z
      | bor a w z => exact .bor (a.mono t2 dis) w z
    · rcases (z b q).1 with y | y
      · exact (s.zf b y).2 hb
      · exact s.s0 b hb y
  | err x ρ1 => rw [e] at h; exact h
  | bad => rw [e] at h; exact h.elim
theorem v_n {n : Nat} {e : Expr} {f : EM D} (h : PE X e (tN X.K X.mg W n f)) : PE X e (tE X.K X.mg W false (eN f)) := peI h fun _ _ _ h => vn_t h
/-- a name, handed on -/
theorem n_var (n i : Nat) {x : Str} {pos : Pos} (hN : X.N[i]? = some x := by rfl) (hv : Vis X.env.scope x := by first | exact Or.inl rfl | exact Or.inr (Or.inl rfl) | exact Or.inr (Or.inr rfl)) (hd : (x == ("__debug__" : Str)) = false := by decide)
    (hcd : (x == ("__classdict__" : Str)) = false := by decide) : PE X (.Name x pos) (tN X.K X.mg W n (nV n i)) := peI (pe_var (i := i) hN hv hd hcd) fun σ H Q h => by
  obtain ⟨C, ρ, S, ⟨fps, sim⟩, h⟩ := h
  unfold nV at h
  split at h
  · rename_i m d e
    obtain ⟨x, ex, k⟩ := sim.sl i _ e
    split at h
    · rename_i em
      subst em
      obtain ⟨fp, hfp⟩ : ∃ fp, fp = fps i := ⟨_, rfl⟩
      rw [← hfp] at k
      cases k with
      | own a w =>
        refine ⟨_, ex, h _ S H (fun j => if j = i then [] else fps j) fp ?_ .refl a (by rw [hfp]; exact sim.nd i) fun b hb => ⟨w b hb, fun j hj => ?_⟩⟩
        · have hs : σ.set i σ[i]?.join = σ := by
            rw [ex]
            apply List.ext_getElem?
            intro j
            by_cases hj : j = i
            · subst hj
              rw [List.getElem?_set_self (List.getElem?_eq_some_iff.mp ex).1, ex]; rfl
            · rw [List.getElem?_set_ne (Ne.symm hj)]
          have := sim.set i (s := none) (x := σ[i]?.join) (fp := []) .non .nil (fun _ z => nomatch z) (.inr rfl)
          rw [hs] at this
          exact this
        · have hj' : b ∈ (if j = i then [] else fps j) := hj
          split at hj'
          · cases hj'
          · rename_i ne
            exact ne (sim.dj j i b hj' (hfp ▸ hb))
    · exact h.elim
  · exact h.elim
end
end VL

namespace VL
open PySem PySem.Spec PyProof.Rows L2

/-! ## from here on: a new ground -/
def Ctx.reY (C : Ctx) (S : Own) (H : Hp) (Y : Own) : Ctx where
  H0 := H
  S0 := fun b => C.S0 b ∨ Y b
  F0 := fun b => S b ∧ ¬ Y b ∧ (C.F0 b ∨ C.H0 b = none)
  Z := fun b => S b ∧ ¬ Y b ∧ (C.Z b ∨ C.H0 b = none)
  Bi := fun i b => S b ∧ ¬ Y b ∧ (C.Bi i b ∨ C.H0 b = none)
  vs := C.vs
abbrev Ctx.re (C : Ctx) (S : Own) (H : Hp) : Ctx := C.reY S H fun _ => False
/-- what a loop leaves alone -/
structure Keep (S : Own) (H : Hp) (S' : Own) (H' : Hp) : Prop where
  tr : Tr S H S' H'
  ex : ∀ b u, ¬ S b → H b = some u → H' b = some u
section
variable {K : PySem.W.Frag} {mg : Str → Option Value} {C : Ctx} {fps : Nat → List Addr} {ρ ρ' : En} {S S' : Own} {σ σ' : L2.St} {H H' : Hp}
theorem SimF.reY (h : SimF K C fps ρ S σ H) {Y : Own} (hY : ∀ b, Y b → S b ∧ ∀ i, b ∉ fps i) : SimF K (C.reY S H Y) fps ρ S σ H where
  len := h.len
  sl := fun i s e => by
    obtain ⟨x, ex, k⟩ := h.sl i s e
    refine ⟨x, ex, ?_⟩
    have th := k.there
    have nY : ∀ b ∈ fps i, ¬ Y b := fun b hb y => (hY b y).2 i hb
    generalize fps i = f at k th nY
    cases k with
    | non => exact .non
    | val r => exact .val r
    | own a z => exact .own a fun b hb => .inl ⟨(th b hb).2, nY b hb, z b hb⟩
    | bor a w z => exact .bor a w fun b hb => .inl ⟨(th b hb).2, nY b hb, z b hb⟩
  nd := h.nd
  dj := h.dj
  sub := fun b hb => hb.elim (h.sub b) fun y => (hY b y).1
  s0 := fun b hb => h.sd b (hb.elim (h.sub b) fun y => (hY b y).1)
  f0 := fun b hb => hb.2.2.elim (fun z => (h.f0 b z).imp .inl fun y => ⟨hb.1, hb.2.1, .inl y⟩) fun z => .inr ⟨hb.1, hb.2.1, .inr z⟩
  zf := fun b hb => ⟨⟨hb.1, hb.2.1, hb.2.2.imp (fun z => (h.zf b z).1) id⟩, fun z => z.elim (fun z => hb.2.2.elim (fun y => (h.zf b y).2 z) fun y => h.s0 b z y) hb.2.1⟩
  bf := fun i b hb => ⟨hb.1, hb.2.1, hb.2.2.imp (fun z => h.bf i b z) id⟩
  zb := fun i b hb => ⟨hb.1, hb.2.1, hb.2.2.imp (fun z => h.zb i b z) id⟩
  frame := fun _ _ _ e => e
  dom := fun _ e => e
  sS := fun b hb => by
    by_cases y : Y b
    · exact .inl (.inr y)
    · exact (h.sS b hb).imp .inl fun z => .inl ⟨hb, y, z⟩
  sd := h.sd
  out := h.out
theorem SimF.re (h : SimF K C fps ρ S σ H) : SimF K (C.re S H) fps ρ S σ H := h.reY fun _ z => z.elim
section
variable {Y : Own}
theorem SimF.back (h : SimF K C fps ρ S σ H) (hY : ∀ b, Y b → S b := by exact fun _ z => z.elim) {fps' : Nat → List Addr} (g : SimF K (C.reY S H Y) fps' ρ' S' σ' H') : SimF K C fps' ρ' S' σ' H' where
  len := g.len
  sl := fun i s e => by
    obtain ⟨x, ex, k⟩ := g.sl i s e
    refine ⟨x, ex, ?_⟩
    generalize fps' i = f at k
    cases k with
    | non => exact .non
    | val r => exact .val r
    | own a z => exact .own a fun b hb => (z b hb).elim (fun y => y.2.2) fun y => .inr (h.dom b y)
    | bor a w z => exact .bor a w fun b hb => (z b hb).elim (fun y => y.2.2) fun y => .inr (h.dom b y)
  nd := g.nd
  dj := g.dj
  sub := fun b hb => g.sub b (.inl hb)
  s0 := h.s0
  f0 := h.f0
  zf := h.zf
  bf := h.bf
  zb := h.zb
  frame := fun b u n e => g.frame b u (fun z => z.2.2.elim n fun y => by rw [y] at e; cases e) (h.frame b u n e)
  dom := fun b e => h.dom b (g.dom b e)
  sS := fun b hb => by
    rcases g.sS b hb with (z | z) | z | z
    · exact .inl z
    · exact h.sS b (hY b z)
    · exact .inr z.2.2
    · exact .inr (.inr (h.dom b z))
  sd := g.sd
  out := g.out
theorem SimF.kept (h : SimF K C fps ρ S σ H) (hY : ∀ b, Y b → S b := by exact fun _ z => z.elim) {fps' : Nat → List Addr} (g : SimF K (C.reY S H Y) fps' ρ' S' σ' H') : Keep S H S' H' := by
  have ex : ∀ b u, ¬ S b → H b = some u → H' b = some u := fun b u n e => g.frame b u (fun z => n z.1) e
  refine ⟨⟨fun b u _ n r => ?_, fun b hb => ?_, g.dom⟩, ex⟩
  · rcases r with r | ⟨o, r⟩
    · exact .inl (ex b _ n r)
    · exact .inr ⟨o, ex b _ n r⟩
  · rcases g.sS b hb with (z | z) | z | z
    · exact .inl (h.sub b z)
    · exact .inl (hY b z)
    · exact .inl z.1
    · exact .inr z
/-- what was set apart is as it was -/
theorem SimF.apart (h : SimF K C fps ρ S σ H) {fps' : Nat → List Addr} (g : SimF K (C.reY S H Y) fps' ρ' S' σ' H') {b : Addr} (hb : Y b) (hs : S b) : H' b = H b ∧ S' b ∧ ∀ i, b ∉ fps' i := by
  refine ⟨?_, g.sub b (.inr hb), fun i hi => ?_⟩
  · cases e : H b with
    | none => exact absurd e (h.sd b hs)
    | some u => exact g.frame b u (fun z => z.2.1 hb) e
  · by_cases hl : i < ρ'.length
    · obtain ⟨x, ex, k⟩ := g.sl i _ (List.getElem?_eq_getElem hl)
      generalize ρ'[i] = sl at k
      generalize fps' i = f at k hi
      cases k with
      | non => cases hi
      | val r => cases hi
      | own a z => exact (z b hi).elim (fun y => y.2.1 hb) fun y => h.sd b hs y
      | bor a w z => exact (z b hi).elim (fun y => y.2.1 hb) fun y => h.sd b hs y
    · rw [g.out i (by omega)] at hi; cases hi
end
theorem Keep.trans {S2 : Own} {H2 : Hp} (a : Keep S H S' H') (b : Keep S' H' S2 H2) : Keep S H S2 H2 :=
  ⟨a.tr.trans b.tr, fun c u n e => b.ex c u (fun z => (a.tr.new c z).elim n fun y => by rw [y] at e; cases e) (a.ex c u n e)⟩
theorem Keep.refl : Keep S H S H := ⟨.refl, fun _ _ _ e => e⟩
theorem Sim.back (h : SimF K C fps ρ S σ H) (g : Sim K (C.re S H) ρ' S' σ' H') : Sim K C ρ' S' σ' H' := let ⟨f, g⟩ := g; ⟨f, SimF.back h (g := g)⟩
theorem Sim.kept (h : SimF K C fps ρ S σ H) (g : Sim K (C.re S H) ρ' S' σ' H') : Keep S H S' H' := let ⟨f, g⟩ := g; SimF.kept h (g := g)
/-- slots are forgotten -/
def forget (fg : List Nat) (ρ : En) : En := fg.foldl (fun ρ i => ρ.set i none) ρ
theorem SimF.unset (h : SimF K C fps ρ S σ H) (i : Nat) : ∃ fps', SimF K C fps' (ρ.set i none) S σ H ∧ ∀ j b, b ∈ fps' j → b ∈ fps j := by
  have hs : σ.set i σ[i]?.join = σ ∨ ρ.length ≤ i := by
    by_cases hi : i < ρ.length
    · left
      have hσ : i < σ.length := by rw [h.len]; exact hi
      apply List.ext_getElem?
      intro j
      by_cases hj : j = i
      · subst hj
        rw [List.getElem?_set_self hσ, List.getElem?_eq_getElem hσ]; rfl
      · rw [List.getElem?_set_ne (Ne.symm hj)]
    · right; omega
  rcases hs with hs | hs
  · have := h.set i (s := none) (x := σ[i]?.join) (fp := []) .non .nil (fun _ z => nomatch z) (.inr rfl)
    rw [hs] at this
    refine ⟨_, this, fun j b hb => ?_⟩
    have hb' : b ∈ (if j = i then [] else fps j) := hb
    split at hb'
    · cases hb'
    · exact hb'
  · rw [List.set_eq_of_length_le hs]
    exact ⟨fps, h, fun _ _ z => z⟩
theorem SimF.forget (h : SimF K C fps ρ S σ H) (fg : List Nat) : ∃ fps', SimF K C fps' (VL.forget fg ρ) S σ H ∧ ∀ j b, b ∈ fps' j → b ∈ fps j := by
  induction fg generalizing ρ fps with
  | nil => exact ⟨fps, h, fun _ _ z => z⟩
  | cons i fg ih =>
    obtain ⟨f1, h1, g1⟩ := h.unset i
    obtain ⟨f2, h2, g2⟩ := ih h1
    exact ⟨f2, h2, fun j b z => g1 j b (g2 j b z)⟩
theorem Sim.forget (h : Sim K C ρ S σ H) (fg : List Nat) : Sim K C (VL.forget fg ρ) S σ H := let ⟨_, h⟩ := h; let ⟨f, h, _⟩ := h.forget fg; ⟨f, h⟩
/-- a statement's end, seen from the new ground -/
theorem SOk.re {W : WX} {r : Nat} {res : SR} {Dn Dn' : Ends} (s : SimF K C fps ρ S σ H) (h : SOk K mg C W r res Dn) (hrt : ∀ v H', Dn.rt v H' → Dn'.rt v H')
    (hn : ∀ ρ', res = .nx ρ' → ∀ σ' S' H', Sim K (C.re S H) ρ' S' σ' H' → Dn'.nx σ' H') (hc : ∀ ρ', res = .ct ρ' → ∀ σ' S' H', Sim K (C.re S H) ρ' S' σ' H' → Dn'.ct σ' H') (hb : ∀ ρ', res = .bk ρ' → ∀ σ' S' H', Sim K (C.re S H) ρ' S' σ' H' → Dn'.bk σ' H') :
    SOk K mg (C.re S H) W r res Dn' := by
  cases res with
  | nx ρ' => exact hn ρ' rfl
  | ct ρ' => exact hc ρ' rfl
  | bk ρ' => exact hb ρ' rfl
  | rt n d ρ' => exact ⟨h.1, fun v σ' S' H' fps' fp g a nd z => hrt v H' (h.2 v σ' S' H' fps' fp (SimF.back s (g := g)) a nd fun b hb => ⟨(z b hb).1.elim (fun y => y.2.2) fun y => .inr (s.dom b y), (z b hb).2⟩)⟩
  | err x ρ' => exact fun cls dd σ' S' H' g xo => h cls dd σ' S' H' (Sim.back s g) xo
  | bad => exact h
end

/-! ## loops -/
section
variable (K : PySem.W.Frag) (mg : Str → Option Value)
/-- the iterator J gives the items ds -/
def JOk (J : It) (ds : List D) (S : Own) (H : Hp) : Prop := ∀ S' H', Keep S H S' H' → (∀ b, S' b → H' b ≠ none) → ∀ i, (∀ d, ds[i]? = some d → J.go i H' ∧ ∀ x H2, J.yld i H' x H2 → Same H' H2 ∧ Rep K S' H2 x d) ∧ (ds.length ≤ i → J.stop i H')
def IOk (C : Ctx) (ρ : En) (S : Own) (σ : L2.St) (H : Hp) (W : WX) (pf : Bool) (r : R En (List D)) (R : It → Hp → Prop) : Prop :=
  match r with
  | .ok ds ρ' => ∀ J S' H', Sim K C ρ' S' σ H' → Mv pf S H S' H' → (pf = true → ρ' = ρ) → JOk K J ds S' H' → R J H'
  | .err x ρ' => ∀ cls dd S' H', Sim K C ρ' S' σ H' → XOk K mg S' H' x cls dd → W cls dd σ H'
  | .bad => False
def tI (W : WX) (pf : Bool) (f : EM (List D)) : TI := fun σ H R => ∃ C ρ S, Sim K C ρ S σ H ∧ IOk K mg C ρ S σ H W pf (f ρ) R
/-- all but the slots is are as they were -/
def Off (is : List Nat) (σ σ' : L2.St) : Prop := σ'.length = σ.length ∧ ∀ j, j ∉ is → σ'[j]? = σ[j]?
/-- a target -/
def tG (is : List Nat) (h : D → SM) : TG := fun v σ H Q => ∃ C ρ S d, Sim K C ρ S σ H ∧ Rep K S H v d ∧ ∃ ρ', h d ρ = .nx ρ' ∧ ∀ σ' H', Sim K C ρ' S σ' H' → Same H H' → Off is σ σ' → Q σ' H'
end
/-- a list or a tuple -/
def iSeq (f : EM (Nat × D)) : EM (List D) := f.then fun a ρ => if a.1 = 0 then (match a.2 with | .lst ds => .ok ds ρ | .tup ds => .ok ds ρ | _ => .bad) else .bad
def iRange1 (f : EM (Nat × D)) : EM (List D) := f.then fun a ρ => match a.2 with
  | .int j => if -(2 ^ 62) ≤ j ∧ j < 2 ^ 62 then .ok ((List.range j.toNat).map fun i => .int (i : Nat)) ρ else .bad
  | _ => .bad
def gN (i : Nat) : D → SM := fun d ρ => .nx (ρ.set i (some (.val, d)))
def gNs : List Nat → List D → SM
  | [], [], ρ => .nx ρ
  | i :: is, d :: ds, ρ => gNs is ds (ρ.set i (some (.val, d)))
  | _, _, _ => .bad
def gT (is : List Nat) : D → SM := fun d ρ => match d with
  | .tup ds => gNs is ds ρ
  | _ => .bad
def forL (fg : List Nat) (tg : D → SM) (body : SM) : List D → SM
  | [], ρ => .nx ρ
  | d :: ds, ρ => match tg d ρ with
    | .nx ρ1 => (match body ρ1 with
      | .nx ρ2 => forL fg tg body ds (forget fg ρ2)
      | .ct ρ2 => forL fg tg body ds (forget fg ρ2)
      | .bk ρ2 => .nx (forget fg ρ2)
      | .rt n d ρ2 => .rt n d ρ2
      | .err x ρ2 => .err x ρ2
      | .bad => .bad)
    | _ => .bad
def sFor (fg : List Nat) (it : EM (List D)) (tg : D → SM) (body : SM) : SM := it.s fun ds => forL fg tg body ds
def whL (fg : List Nat) (c : EM Bool) (body : SM) : Nat → SM
  | 0, _ => .bad
  | n + 1, ρ => match c ρ with
    | .ok true ρ1 => (match body ρ1 with
      | .nx ρ2 => whL fg c body n (forget fg ρ2)
      | .ct ρ2 => whL fg c body n (forget fg ρ2)
      | .bk ρ2 => .nx (forget fg ρ2)
      | .rt n d ρ2 => .rt n d ρ2
      | .err x ρ2 => .err x ρ2
      | .bad => .bad)
    | .ok false ρ1 => .nx ρ1
    | .err x ρ1 => .err x ρ1
    | .bad => .bad
open Classical in
noncomputable def sWhile (fg : List Nat) (c : EM Bool) (body : SM) : SM := fun ρ => if h : ∃ n, whL fg c body n ρ ≠ .bad then whL fg c body h.choose ρ else .bad
theorem whL_more {fg : List Nat} {c : EM Bool} {body : SM} : ∀ {n m : Nat} {ρ : En}, whL fg c body n ρ ≠ .bad → n ≤ m → whL fg c body m ρ = whL fg c body n ρ
  | 0, _, _, h, _ => absurd rfl h
  | n + 1, 0, _, _, h => absurd h (by omega)
  | n + 1, m + 1, ρ, h, hl => by
    unfold whL at h ⊢
    cases e : c ρ with
    | ok b ρ1 =>
      rw [e] at h
      cases b with
      | true =>
        simp only at h ⊢
        cases e2 : body ρ1 with
        | nx ρ2 => rw [e2] at h; simp only at h ⊢; exact whL_more h (by omega)
        | ct ρ2 => rw [e2] at h; simp only at h ⊢; exact whL_more h (by omega)
        | bk ρ2 => rfl
        | rt n d ρ2 => rfl
        | err x ρ2 => rfl
        | bad => rfl
      | false => rfl
    | err x ρ1 => rfl
    | bad => rfl
theorem sWhile_of {fg : List Nat} {c : EM Bool} {body : SM} {n : Nat} {ρ : En} {r : SR} (h : whL fg c body n ρ = r) (hr : r ≠ .bad) : sWhile fg c body ρ = r := by
  have ex : ∃ n, whL fg c body n ρ ≠ .bad := ⟨n, by rw [h]; exact hr⟩
  unfold sWhile
  rw [dif_pos ex]
  rcases Nat.le_total n ex.choose with q | q
  · rw [whL_more (by rw [h]; exact hr) q, h]
  · rw [← whL_more ex.choose_spec q, h]
theorem sWhile_ok {fg : List Nat} {c : EM Bool} {body : SM} {ρ : En} (h : sWhile fg c body ρ ≠ .bad) : ∃ n, whL fg c body n ρ = sWhile fg c body ρ := by
  unfold sWhile at h ⊢
  split at h
  · rename_i ex
    rw [dif_pos ex]
    exact ⟨_, rfl⟩
  · exact absurd rfl h

section
variable {X : Cx} {W : WX} {p q : Bool} {r : Nat}
theorem piI {tg e : Expr} {t t' : TI} (h : PI X tg e t) (i : ∀ σ H R, t' σ H R → t σ H R) : PI X tg e t' := ⟨fun p s σ H R I q => h.run p s σ H R I (i σ H R q)⟩
theorem pgI {tg : Expr} {t t' : TG} (h : PG X tg t) (i : ∀ v σ H Q, t' v σ H Q → t v σ H Q) : PG X tg t' := ⟨fun p s σ H v u Q I r q => h.run p s σ H v u Q I r (i v σ H Q q)⟩
theorem pi_or {tg e : Expr} {t u : TI} (h : PI X tg e t) (g : PI X tg e u) : PI X tg e (fun σ H R => t σ H R ∨ u σ H R) := ⟨fun p s σ H R I q => q.elim (h.run p s σ H R I) (g.run p s σ H R I)⟩
theorem tI_s {K : PySem.W.Frag} {mg : Str → Option Value} {C : Ctx} {ρ : En} {S : Own} {σ : L2.St} {H : Hp} {f : EM (List D)} {k : List D → SM} {R : It → Hp → Prop} {Dn : Ends}
    (sim : Sim K C ρ S σ H) (g : SOk K mg C W r (f.s k ρ) Dn)
    (h : ∀ ds ρ' J S' H', f ρ = .ok ds ρ' → SOk K mg C W r (k ds ρ') Dn → Sim K C ρ' S' σ H' → JOk K J ds S' H' → R J H') : tI K mg W p f σ H R := by
  refine ⟨C, ρ, S, sim, ?_⟩
  unfold EM.s at g
  cases e : f ρ with
  | ok a ρ' =>
    rw [e] at g
    intro J S' H' s m c a
    exact h _ ρ' J S' H' e g s a
  | err x ρ' =>
    rw [e] at g
    intro cls dd S' H' s x
    exact g cls dd σ S' H' s x
  | bad =>
    rw [e] at g
    exact g.elim
/-- the same place of an iterator, whatever the heap gives -/
theorem jok_list {K : PySem.W.Frag} {S : Own} {H : Hp} {a : Addr} {vs : List V} {ds : List D} (l : RL K S H a vs) (r : Reps K S H vs ds) (inj : ∀ S' H', Keep S H S' H' → ∀ ys, SqL K H' a ys → ys = vs) : JOk K (Itl K a) ds S H := fun S' H' k sd i => by
  have l' := (l.mono k.tr).sq
  have r' := r.mono k.tr
  refine ⟨fun d e => ?_, fun hi => ⟨vs, l', by rw [r.length]; exact hi⟩⟩
  obtain ⟨v, ev, rv⟩ := r'.get e
  refine ⟨⟨vs, v, l', ev⟩, fun x H2 hy => ?_⟩
  obtain ⟨rfl, hx⟩ := hy
  have := hx vs l'
  rw [ev] at this
  cases this
  exact ⟨Same.refl _, rv⟩
theorem i_seq {tg l : Expr} {f : EM (Nat × D)} (hl : PE X l (tE X.K X.mg W p f)) : PI X tg l (tI X.K X.mg W p (iSeq f)) := by
  refine piI (pi_or (pi_list hl) (pi_tup hl)) fun σ H R h => ?_
  obtain ⟨C, ρ, S, sim, h⟩ := h
  unfold iSeq EM.then at h
  -- which of the two: by the mirror
  have go : ∀ (P : V → Hp → Prop), (∀ n d ρ' v S' H' fp, f ρ = .ok (n, d) ρ' → Sim X.K C ρ' S' σ H' → Mv p S H S' H' → (p = true → ρ' = ρ) → Al X.K S' H' n v d fp → P v H') → tE X.K X.mg W p f σ H P := fun P g => by
    refine ⟨C, ρ, S, sim, ?_⟩
    cases e : f ρ with
    | ok a ρ' => obtain ⟨n, d⟩ := a; exact fun v S' H' fp s m c a => g n d ρ' v S' H' fp e s m c a
    | err x ρ' => rw [e] at h; exact h
    | bad => rw [e] at h; exact h.elim
  cases e : f ρ with
  | ok a ρ1 =>
    rw [e] at h
    obtain ⟨n, d⟩ := a
    dsimp only at h
    split at h
    · rename_i hn
      subst hn
      cases d with
      | lst ds =>
        left
        refine go _ fun n' d' ρ' v S' H' fp e' s m c al => ?_
        rw [e] at e'; cases e'
        cases Rep.zero al with
        | @lst a vs _ l r =>
          refine ⟨a, rfl, ⟨vs, l.sq⟩, h (Itl X.K a) S' H' s m c fun S2 H2 k sd i => ?_⟩
          have l' := (l.mono k.tr).sq
          have r' := r.mono k.tr
          refine ⟨fun d e => ?_, fun hi => ⟨vs, l', by rw [r.length]; exact hi⟩⟩
          obtain ⟨v, ev, rv⟩ := r'.get e
          refine ⟨⟨vs, v, l', ev⟩, fun x H2 hy => ?_⟩
          obtain ⟨rfl, hx⟩ := hy
          have := hx vs l'
          rw [ev] at this
          cases this
          exact ⟨Same.refl _, rv⟩
      | tup ds =>
        right
        refine go _ fun n' d' ρ' v S' H' fp e' s m c al => ?_
        rw [e] at e'; cases e'
        cases Rep.zero al with
        | @tup a vs _ l r =>
          refine ⟨a, rfl, ⟨vs, l.sq⟩, h (Itt X.K a) S' H' s m c fun S2 H2 k sd i => ?_⟩
          have l' := (l.mono k.tr).sq
          have r' := r.mono k.tr
          refine ⟨fun d e => ?_, fun hi => ⟨vs, l', by rw [r.length]; exact hi⟩⟩
          obtain ⟨v, ev, rv⟩ := r'.get e
          refine ⟨⟨vs, v, l', ev⟩, fun x H2 hy => ?_⟩
          obtain ⟨rfl, hx⟩ := hy
          have := hx vs l'
          rw [ev] at this
          cases this
          exact ⟨Same.refl _, rv⟩
      | _ => exact h.elim
    · exact h.elim
  | err x ρ1 =>
    left
    exact go _ fun n' d' ρ' v S' H' fp e' => by rw [e] at e'; cases e'
  | bad => rw [e] at h; exact h.elim
theorem i_range1 {tg a : Expr} {pp pos : Pos} {f : EM (Nat × D)} (ha : PE X a (tE X.K X.mg W p f)) (hg : Gl X "range") (hm : X.mg "range" = none) (hs : starEach [a] X.env = (false, eval a X.env) :: starEach [] X.env := by rfl) :
    PI X tg (.Call (.Name "range" pp) [a] [] pos) (tI X.K X.mg W p (iRange1 f)) := piI (pi_range1 hg hm (pa_cons ha pa_nil hs) hs) fun σ H R h => by
  obtain ⟨C, ρ, S, sim, h⟩ := h
  refine tE_bind (G := fun z => IOk X.K X.mg C ρ S σ H W p z R) sim h id (fun x ρ' z => z) ?_
  intro n d ρ1 v S1 H1 fp _ h s1 m1 c1 a1
  split at h
  · rename_i j e
    simp only at e
    subst e
    split at h
    · rename_i hj
      have ev : v = .int j := a1.isInt
      subst ev
      refine ⟨j, rfl, hj.1, hj.2, h _ S1 H1 s1 m1 c1 fun S2 H2 k sd i => ⟨fun d e => ?_, fun hi => ?_⟩⟩
      · rw [List.getElem?_map] at e
        obtain ⟨t, et, rfl⟩ := Option.map_eq_some_iff.mp e
        have hi : i < j.toNat := by
          have := (List.getElem?_eq_some_iff.mp et).1
          simpa using this
        have : t = i := by
          have := (List.getElem?_eq_some_iff.mp et).2
          simpa using this.symm
        subst this
        refine ⟨hi, fun x H3 hy => ?_⟩
        obtain ⟨rfl, rfl⟩ := hy
        refine ⟨Same.refl _, ?_⟩
        rw [Int.zero_add]
        exact .int _
      · exact (by simpa using hi : j.toNat ≤ i)
    · exact h.elim
  · exact h.elim
theorem g_name {i : Nat} {x : Str} {pos : Pos} (hN : X.N.Nodup) (hi : X.N[i]? = some x) (hx : Loc X.env.scope x) (hf : X.fn x = true ∨ X.env.scope.names.lookup x = some .local := by first | exact .inl rfl | exact .inr rfl | assumption) : PG X (.Name x pos) (tG X.K [i] (gN i)) :=
  pgI (pg_name hN hi hx hf) fun v σ H Q h => by
    obtain ⟨C, ρ, S, d, s, r, ρ', e, h⟩ := h
    simp only [gN, SR.nx.injEq] at e
    subst e
    exact h _ H (s.setV i r) (Same.refl _) ⟨by simp, fun j hj => by rw [List.getElem?_set_ne (fun z => hj (by simp [z]))]⟩
def tGs (K : PySem.W.Frag) (is : List Nat) (h : List D → SM) : TGs := fun vs σ H Q => ∃ C ρ S ds, Sim K C ρ S σ H ∧ Reps K S H vs ds ∧ ∃ ρ', h ds ρ = .nx ρ' ∧ ∀ σ' H', Sim K C ρ' S σ' H' → Same H H' → Off is σ σ' → Q σ' H'
theorem pgsI {ts : List Expr} {t t' : TGs} (h : PGs X ts t) (i : ∀ v σ H Q, t' v σ H Q → t v σ H Q) : PGs X ts t' := ⟨fun p s σ H v u Q I r q => h.run p s σ H v u Q I r (i v σ H Q q)⟩
theorem gs_nil : PGs X [] (tGs X.K [] (gNs [])) := pgsI pgs_nil fun vs σ H Q h => by
  obtain ⟨C, ρ, S, ds, s, r, ρ', e, h⟩ := h
  cases r with
  | nil =>
    simp only [gNs, SR.nx.injEq] at e
    subst e
    exact ⟨rfl, h σ H s (Same.refl _) ⟨rfl, fun _ _ => rfl⟩⟩
  | cons => simp [gNs] at e
theorem gs_cons {i : Nat} {is : List Nat} {x : Str} {pos : Pos} {es : List Expr} (hN : X.N.Nodup) (hi : X.N[i]? = some x) (hx : Loc X.env.scope x) (h2 : PGs X es (tGs X.K is (gNs is))) (hf : X.fn x = true ∨ X.env.scope.names.lookup x = some .local := by first | exact .inl rfl | exact .inr rfl | assumption)
    (hs : (assignEach (.Name x pos :: es) X.env).map (·.2) = assign (.Name x pos) X.env :: (assignEach es X.env).map (·.2) := by rfl) : PGs X (.Name x pos :: es) (tGs X.K (i :: is) (gNs (i :: is))) := pgsI (pgs_cons (pg_name hN hi hx hf) h2 hs) fun vs σ H Q h => by
  obtain ⟨C, ρ, S, ds, s, r, ρ', e, h⟩ := h
  cases r with
  | nil => simp [gNs] at e
  | @cons v vs d ds r q =>
    exact ⟨v, vs, rfl, C, _, S, ds, s.setV i r, q, ρ', by simpa only [gNs] using e, fun σ' H' z1 z2 z3 => h σ' H' z1 z2 ⟨by rw [z3.1]; simp, fun j hj => by rw [z3.2 j (fun z => hj (List.mem_cons_of_mem _ z)), List.getElem?_set_ne (fun z => hj (by simp [z]))]⟩⟩
theorem g_tup {is : List Nat} {es : List Expr} {k : Nat} {pos : Pos} (hc : X.calm = true) (h : PGs X es (tGs X.K is (gNs is))) (hn : (assignEach es X.env).length = is.length := by rfl) (hst : (assignEach es X.env).findIdx? (·.1) = none := by rfl) : PG X (.Tuple es k pos) (tG X.K is (gT is)) :=
  pgI (pg_tup (n := is.length) hc h hn hst) fun v σ H Q h => by
    obtain ⟨C, ρ, S, d, s, r, ρ', e, h⟩ := h
    unfold gT at e
    split at e
    · rename_i ds
      cases r with
      | @tup a vs _ l q =>
        refine ⟨a, vs, rfl, l.sq, ?_, C, ρ, S, ds, s, q, ρ', e, h⟩
        rw [q.length]
        clear l q h
        have : ∀ {is : List Nat} {ds : List D} {ρ : En}, gNs is ds ρ = .nx ρ' → ds.length = is.length := by
          intro is
          induction is with
          | nil => intro ds ρ e; cases ds with
            | nil => rfl
            | cons => simp [gNs] at e
          | cons i is ih => intro ds ρ e; cases ds with
            | nil => simp [gNs] at e
            | cons d ds => simp only [gNs] at e; simp [ih e]
        exact this e
    · cases e
/-- the loop itself, on the ground C -/
theorem for_core {K : PySem.W.Frag} {mg : Str → Option Value} {C : Ctx} {fg is : List Nat} {gt : D → SM} {gb : SM} {ds : List D} {ρ1 : En} {S1 : Own} {σ : L2.St} {H1 : Hp} {J : It} {Dn : Ends} (s1 : Sim K C ρ1 S1 σ H1)
    (jok : ∀ ρ' S' σ' H', Sim K C ρ' S' σ' H' → ∀ i, (∀ d, ds[i]? = some d → J.go i H' ∧ ∀ x H2, J.yld i H' x H2 → Same H' H2 ∧ Rep K S' H2 x d) ∧ (ds.length ≤ i → J.stop i H')) (h : SOk K mg C W r (forL fg gt gb ds ρ1) Dn) :
    ∃ W' : Nat → Nat → L2.St → Hp → Prop, (∃ m, W' 0 m σ H1) ∧ ∀ i m σ H, W' i m σ H →
      (J.stop i H ∧ Dn.nx σ H) ∨ (J.go i H ∧ ∃ N : L2.St → Hp → Prop, (∀ σ' H', N σ' H' → ∃ m', m' < m ∧ W' (i + 1) m' σ' H') ∧ ∀ x H', J.yld i H x H' → tG K is gt x σ H' fun σ2 H2 => tS K mg W r gb { Dn with nx := N, ct := N, bk := Dn.nx } σ2 H2) := by
  refine ⟨fun i m σ' H' => ∃ ρ' S', Sim K C ρ' S' σ' H' ∧ m = ds.length - i ∧ SOk K mg C W r (forL fg gt gb (ds.drop i) ρ') Dn, ⟨ds.length, ρ1, S1, s1, by simp, by simpa using h⟩, fun i m σ2 H2 hW => ?_⟩
  obtain ⟨ρ2, S2, s2, rfl, h⟩ := hW
  obtain ⟨j1, j2⟩ := jok ρ2 S2 σ2 H2 s2 i
  by_cases hi : i < ds.length
  · right
    have ed : ds[i]? = some ds[i] := List.getElem?_eq_getElem hi
    obtain ⟨jg, jy⟩ := j1 _ ed
    rw [List.drop_eq_getElem_cons hi] at h
    refine ⟨jg, fun σ' H' => ∃ ρ' S', Sim K C ρ' S' σ' H' ∧ SOk K mg C W r (forL fg gt gb (ds.drop (i + 1)) ρ') Dn, fun σ' H' ⟨ρ', S', z, q⟩ => ⟨ds.length - (i + 1), by omega, ρ', S', z, rfl, q⟩, fun x H3 hy => ?_⟩
    obtain ⟨sm, rx⟩ := jy x H3 hy
    unfold forL at h
    cases eg : gt ds[i] ρ2 with
    | nx ρ3 =>
      rw [eg] at h
      refine ⟨C, ρ2, S2, ds[i], s2.same sm, rx, ρ3, eg, fun σ4 H4 s4 sm4 _ => ?_⟩
      refine ⟨C, ρ3, S2, s4, ?_⟩
      dsimp only at h
      cases eb : gb ρ3 with
      | nx ρ5 =>
        rw [eb] at h
        exact fun σ' S' H' z => ⟨VL.forget fg ρ5, S', z.forget fg, h⟩
      | ct ρ5 =>
        rw [eb] at h
        exact fun σ' S' H' z => ⟨VL.forget fg ρ5, S', z.forget fg, h⟩
      | bk ρ5 =>
        rw [eb] at h
        exact fun σ' S' H' z => h σ' S' H' (z.forget fg)
      | rt n d ρ5 => rw [eb] at h; exact h
      | err x ρ5 => rw [eb] at h; exact h
      | bad => rw [eb] at h; exact h.elim
    | rt n d ρ3 => rw [eg] at h; exact h.elim
    | bk ρ3 => rw [eg] at h; exact h.elim
    | ct ρ3 => rw [eg] at h; exact h.elim
    | err x ρ3 => rw [eg] at h; exact h.elim
    | bad => rw [eg] at h; exact h.elim
  · left
    refine ⟨j2 (by omega), ?_⟩
    rw [List.drop_eq_nil_of_le (by omega)] at h
    exact h σ2 S2 H2 s2
theorem w_for {fg is : List Nat} {tg iter : Expr} {body : List Stmt} {it : EM (List D)} {gt : D → SM} {gb : SM} {pos : Pos} (hp : PassesOwn (model X.prog X.w) X.A X.env X.xe) (hc : X.calm = true) (hi : PI X tg iter (tI X.K X.mg W p it)) (hg : PG X tg (tG X.K is gt)) (hb : PSs X body (tS X.K X.mg W r gb))
    (hs : ∀ x, foldedSetIterable iter X.env x = pure x := by intro _; rfl) : PS X (.For tg iter body [] pos) (tS X.K X.mg W r (sFor fg it gt gb)) := psI (ps_for hp hc hi hg hb hs) fun Dn σ H h => by
  obtain ⟨C, ρ, S, sim, h⟩ := h
  refine tI_s sim h ?_
  intro ds ρ1 J S1 H1 _ h s1 jok
  obtain ⟨fps, s1⟩ := s1
  refine for_core (fg := fg) (C := C.re S1 H1) ⟨fps, s1.re⟩ (fun ρ' S' σ' H' z => jok S' H' (Sim.kept s1 z) (let ⟨_, z⟩ := z; z.sd)) ?_
  exact SOk.re s1 h (fun _ _ z => z) (fun ρ' e => by rw [e] at h; exact fun σ' S' H' z => h σ' S' H' (Sim.back s1 z)) (fun ρ' e => by rw [e] at h; exact fun σ' S' H' z => h σ' S' H' (Sim.back s1 z)) (fun ρ' e => by rw [e] at h; exact fun σ' S' H' z => h σ' S' H' (Sim.back s1 z))
theorem w_while {fg : List Nat} {c : Expr} {body : List Stmt} {gc : EM Bool} {gb : SM} {pos : Pos} (hp : PassesOwn (model X.prog X.w) X.A X.env X.xe) (hc : PT X c (tB' X.K X.mg W p gc)) (hb : PSs X body (tS X.K X.mg W r gb)) : PS X (.While c body [] pos) (tS X.K X.mg W r (sWhile fg gc gb)) := psI (ps_while hp hc hb) fun Dn σ H h => by
  obtain ⟨C, ρ, S, sim, h⟩ := h
  have nb : sWhile fg gc gb ρ ≠ .bad := fun z => by rw [z] at h; exact h
  obtain ⟨n, en⟩ := sWhile_ok nb
  rw [← en] at h
  refine ⟨fun m σ' H' => ∃ ρ' S', Sim X.K C ρ' S' σ' H' ∧ SOk X.K X.mg C W r (whL fg gc gb m ρ') Dn, ⟨n, ρ, S, sim, h⟩, fun m σ2 H2 hW => ?_⟩
  obtain ⟨ρ2, S2, s2, h⟩ := hW
  cases m with
  | zero => exact h.elim
  | succ m =>
    unfold whL at h
    refine ⟨C, ρ2, S2, s2, ?_⟩
    cases ec : gc ρ2 with
    | ok b ρ3 =>
      rw [ec] at h
      intro S3 H3 s3 m3 c3
      cases b with
      | true =>
        rw [if_pos rfl]
        refine ⟨fun σ' H' => ∃ ρ' S', Sim X.K C ρ' S' σ' H' ∧ SOk X.K X.mg C W r (whL fg gc gb m ρ') Dn, fun σ' H' z => ⟨m, Nat.lt_succ_self m, z⟩, C, ρ3, S3, s3, ?_⟩
        dsimp only at h
        cases eb : gb ρ3 with
        | nx ρ5 =>
          rw [eb] at h
          exact fun σ' S' H' z => ⟨VL.forget fg ρ5, S', z.forget fg, h⟩
        | ct ρ5 =>
          rw [eb] at h
          exact fun σ' S' H' z => ⟨VL.forget fg ρ5, S', z.forget fg, h⟩
        | bk ρ5 =>
          rw [eb] at h
          exact fun σ' S' H' z => h σ' S' H' (z.forget fg)
        | rt n d ρ5 => rw [eb] at h; exact h
        | err x ρ5 => rw [eb] at h; exact h
        | bad => rw [eb] at h; exact h.elim
      | false =>
        rw [if_neg Bool.false_ne_true]
        exact h σ2 S3 H3 s3
    | err x ρ3 =>
      rw [ec] at h
      exact fun cls dd S' H' z xo => h cls dd σ2 S' H' z xo
    | bad => rw [ec] at h; exact h.elim
end
end VL

namespace VL
open PySem PySem.Spec PyProof.Rows L2

/-! ## comprehensions -/
def restoreV : List Nat → En → En → En
  | [], _, ρ' => ρ'
  | i :: vs, ρ, ρ' => restoreV vs ρ (match ρ[i]? with
    | some (some (.val, d)) => ρ'.set i (some (.val, d))
    | _ => ρ')
def bYes : EM Bool := fun ρ => .ok true ρ
def lcL (vs : List Nat) (tg : D → SM) (c : EM Bool) (e : EM D) : List D → EM (List D)
  | [], ρ => .ok [] ρ
  | d :: ds, ρ => match tg d ρ with
    | .nx ρ1 => (match c ρ1 with
      | .ok true ρ2 => (match e ρ2 with
        | .ok x ρ3 => (match lcL vs tg c e ds (forget vs ρ3) with | .ok xs ρ4 => .ok (x :: xs) ρ4 | _ => .bad)
        | _ => .bad)
      | .ok false ρ2 => lcL vs tg c e ds (forget vs ρ2)
      | _ => .bad)
    | _ => .bad
def nLc (vs : List Nat) (it : EM (List D)) (tg : D → SM) (c : EM Bool) (e : EM D) : EM D := it.then fun ds ρ => match lcL vs tg c e ds (forget vs ρ) with
  | .ok xs ρ' => if xs.length ≤ sizeLine then .ok (.lst xs) (restoreV vs ρ ρ') else .bad
  | _ => .bad
def n0 (f : EM (Nat × D)) : EM D := f.then fun a ρ => if a.1 = 0 then .ok a.2 ρ else .bad

theorem getElem?_forget : ∀ (fg : List Nat) (ρ : En) (j : Nat), (forget fg ρ)[j]? = if j ∈ fg ∧ j < ρ.length then some none else ρ[j]?
  | [], ρ, j => by simp [forget]
  | i :: fg, ρ, j => by
    have ih := getElem?_forget fg (ρ.set i none) j
    show (forget fg (ρ.set i none))[j]? = _
    rw [ih]
    simp only [List.length_set, List.mem_cons]
    by_cases h1 : j ∈ fg ∧ j < ρ.length
    · rw [if_pos h1, if_pos ⟨.inr h1.1, h1.2⟩]
    · rw [if_neg h1]
      by_cases h2 : j = i
      · subst h2
        by_cases h3 : j < ρ.length
        · rw [if_pos ⟨.inl rfl, h3⟩, List.getElem?_set_self h3]
        · rw [if_neg (fun z => h3 z.2), List.set_eq_of_length_le (by omega)]
      · rw [List.getElem?_set_ne (Ne.symm h2)]
        rw [if_neg (fun z => h1 ⟨z.1.resolve_left h2, z.2⟩)]
theorem length_forget (fg : List Nat) (ρ : En) : (forget fg ρ).length = ρ.length := by
  induction fg generalizing ρ with
  | nil => rfl
  | cons i fg ih => show (forget fg (ρ.set i none)).length = _; rw [ih]; simp
theorem getElem?_wipe (σ : L2.St) : ∀ (vs : List Nat) (j : Nat), (wipe σ vs)[j]? = if j ∈ vs ∧ j < σ.length then some none else σ[j]?
  | [], j => by simp [wipe]
  | i :: vs, j => by
    have ih := getElem?_wipe σ vs j
    have hl := wipe_length σ vs
    show ((wipe σ vs).set i none)[j]? = _
    by_cases h2 : j = i
    · subst h2
      by_cases h3 : j < σ.length
      · rw [List.getElem?_set_self (by omega), if_pos ⟨List.mem_cons_self, h3⟩]
      · rw [List.getElem?_eq_none (by simp; omega), if_neg (fun z => h3 z.2), List.getElem?_eq_none (by omega)]
    · rw [List.getElem?_set_ne (Ne.symm h2), ih]
      by_cases h3 : j ∈ vs ∧ j < σ.length
      · rw [if_pos h3, if_pos ⟨List.mem_cons_of_mem _ h3.1, h3.2⟩]
      · rw [if_neg h3, if_neg (fun z => h3 ⟨(List.mem_cons.mp z.1).resolve_left h2, z.2⟩)]
theorem wipe_eq {σ σ' : L2.St} {vs is : List Nat} (h : Off is (wipe σ vs) σ') (hi : ∀ i ∈ is, i ∈ vs) : wipe σ' vs = wipe σ vs := by
  apply List.ext_getElem?
  intro j
  have hl : σ'.length = σ.length := h.1.trans (wipe_length σ vs)
  rw [getElem?_wipe, getElem?_wipe, hl]
  by_cases c : j ∈ vs ∧ j < σ.length
  · rw [if_pos c, if_pos c]
  · rw [if_neg c, if_neg c]
    by_cases hj : j ∈ is
    · have : ¬ j < σ.length := fun z => c ⟨hi j hj, z⟩
      rw [List.getElem?_eq_none (by omega), List.getElem?_eq_none (by omega)]
    · rw [h.2 j hj, getElem?_wipe, if_neg c]
section
variable {K : PySem.W.Frag} {mg : Str → Option Value} {C : Ctx} {fps : Nat → List Addr} {ρ ρ' : En} {S S' : Own} {σ σ' : L2.St} {H H' : Hp}
/-- the slots' values elsewhere do not matter -/
theorem SimF.sig (h : SimF K C fps ρ S σ H) (hl : σ'.length = σ.length) (hs : ∀ (j : Nat) (m : Md × D), ρ[j]? = some (some m) → σ'[j]? = σ[j]?) : SimF K C fps ρ S σ' H :=
  ⟨hl.trans h.len, fun i s e => by
    obtain ⟨x, ex, k⟩ := h.sl i s e
    cases s with
    | none =>
      have hi : i < σ'.length := by rw [hl, h.len]; exact (List.getElem?_eq_some_iff.mp e).1
      refine ⟨_, List.getElem?_eq_getElem hi, ?_⟩
      generalize fps i = f at k
      cases k
      exact .non
    | some m => exact ⟨x, (hs i m e).trans ex, k⟩, h.nd, h.dj, h.sub, h.s0, h.f0, h.zf, h.bf, h.zb, h.frame, h.dom, h.sS, h.sd, h.out⟩
theorem SimF.wiped (h : SimF K C fps ρ S σ H) (vs : List Nat) : ∃ fps', SimF K C fps' (VL.forget vs ρ) S (wipe σ vs) H ∧ ∀ j b, b ∈ fps' j → b ∈ fps j := by
  obtain ⟨f, h1, g⟩ := h.forget vs
  refine ⟨f, h1.sig (wipe_length σ vs) fun j m e => ?_, g⟩
  rw [getElem?_forget] at e
  split at e
  · cases e
  · rename_i c
    rw [getElem?_wipe, if_neg (by rw [h.len]; exact c)]
/-- an owned object that no slot holds is written -/
theorem SimF.writeX (h : SimF K C fps ρ S σ H) {p : Addr} {o : HO} (hs : S p) (hn : ∀ i, p ∉ fps i) (hz : C.Z p ∨ C.H0 p = none) : SimF K C fps ρ S σ (upd H p o) := by
  have t : Tr S H S (upd H p o) := .write hs
  refine ⟨h.len, fun i s e => ?_, h.nd, h.dj, h.sub, h.s0, h.f0, h.zf, h.bf, h.zb, fun b u n e => ?_, fun b e => h.dom b (t.dom b e), h.sS, fun b hb e => h.sd b hb (t.dom b e), h.out⟩
  · obtain ⟨x, ex, k⟩ := h.sl i s e
    refine ⟨x, ex, ?_⟩
    have dis : ∀ b ∈ fps i, (upd H p o) b = H b ∧ S b := fun b hb => ⟨upd_ne fun z => hn i (z ▸ hb), (k.there b hb).2⟩
    generalize fps i = f at k dis
    cases k with
    | non => exact .non
    | val r => exact .val (r.mono t)
    | own a z => exact .own (a.mono t dis) z
    | bor a w z => exact .bor (a.mono t dis) w z
  · have ne : b ≠ p := fun z => by
      subst z
      rcases hz with z | z
      · exact n (h.zf b z).1
      · rw [z] at e; cases e
    rw [upd_ne ne]
    exact h.frame b u n e
theorem Keep.same (s : Same H H') : Keep S H S H' := ⟨.same s, fun b u _ e => s b u e⟩
theorem Keep.write {p : Addr} {o : HO} (hs : S p) : Keep S H S (upd H p o) := ⟨.write hs, fun b u n e => by rw [upd_ne (fun z => n (by rw [z]; exact hs))]; exact e⟩
theorem Keep.fresh {p : Addr} {o : HO} (h : H p = none) : Keep S H (fun b => S b ∨ b = p) (upd H p o) := ⟨.fresh h, fun b u _ e => same_upd' h b u e⟩
theorem Als.length {n : Nat} {vs : List V} {ds : List D} {F : List Addr} (h : Als K S H n vs ds F) : vs.length = ds.length := by
  induction vs generalizing ds F with
  | nil => cases h; rfl
  | cons v vs ih => cases h with | cons a q => simp [ih q]
theorem Als.snoc {n : Nat} : ∀ {vs : List V} {ds : List D} {F : List Addr} {v : V} {d : D} {f : List Addr}, Als K S H n vs ds F → Al K S H n v d f → Als K S H n (vs ++ [v]) (ds ++ [d]) (F ++ f)
  | _, _, _, v, d, f, .nil, a => by
    have := Als.cons a (Als.nil (K := K) (S := S) (H := H) (n := n))
    simpa using this
  | _, _, _, v, d, f, .cons b q, a => by
    have := Als.cons b (Als.snoc q a)
    simpa [List.append_assoc] using this
theorem restore_ok {S1 : Own} {H1 : Hp} {ρ1 : En} {fps1 : Nat → List Addr} (h1 : SimF K C fps1 ρ1 S1 σ H1) (k : Tr S1 H1 S H) : ∀ {vs : List Nat} {ρ' : En} {fps : Nat → List Addr}, SimF K C fps ρ' S σ H → ρ'.length = ρ1.length → ∃ fps', SimF K C fps' (restoreV vs ρ1 ρ') S σ H ∧ ∀ i b, b ∈ fps' i → b ∈ fps i
  | [], ρ', fps, h, hl => ⟨fps, h, fun _ _ z => z⟩
  | i :: vs, ρ', fps, h, hl => by
    unfold restoreV
    split
    · rename_i d e
      obtain ⟨v, ev, a⟩ := h1.slot e
      have h2 := h.set i (.val ((Rep.zero a).mono k)) .nil (fun _ z => nomatch z) (.inr rfl)
      have hs : σ.set i (some v) = σ := by
        apply List.ext_getElem?
        intro j
        by_cases hj : j = i
        · subst hj
          rw [List.getElem?_set_self (List.getElem?_eq_some_iff.mp ev).1, ev]
        · rw [List.getElem?_set_ne (Ne.symm hj)]
      rw [hs] at h2
      obtain ⟨f, h3, g⟩ := restore_ok h1 k (vs := vs) h2 (by simpa using hl)
      refine ⟨f, h3, fun j b hb => ?_⟩
      have q : b ∈ (if j = i then [] else fps j) := g j b hb
      split at q
      · cases q
      · exact q
    · exact restore_ok h1 k (vs := vs) h hl
theorem lcL_end {vs : List Nat} {tg : D → SM} {c : EM Bool} {e : EM D} : ∀ {ds : List D} {ρ : En} {xs : List D} {ρe : En}, lcL vs tg c e ds ρ = .ok xs ρe → (∃ ρ0, ρ = forget vs ρ0) → ∃ ρ0, ρe = forget vs ρ0
  | [], ρ, xs, ρe, h, h0 => by
    simp only [lcL, R.ok.injEq] at h
    rw [← h.2]; exact h0
  | d :: ds, ρ, xs, ρe, h, h0 => by
    unfold lcL at h
    split at h
    · split at h
      · split at h
        · split at h
          · rename_i e4
            simp only [R.ok.injEq] at h
            rw [← h.2]
            exact lcL_end e4 ⟨_, rfl⟩
          · cases h
        · cases h
      · exact lcL_end h ⟨_, rfl⟩
      · cases h
    · cases h
end
section
variable {X : Cx} {W : WX} {p q : Bool} {n : Nat}
theorem n_v {e : Expr} {f : EM (Nat × D)} (h : PE X e (tE X.K X.mg W p f)) : PE X e (tN X.K X.mg W 0 (n0 f)) := peI h fun σ H Q h => by
  obtain ⟨C, ρ, S, sim, h⟩ := h
  refine tE_bind (G := fun z => NOk X.K X.mg C ρ S σ H W 0 z Q) sim h id (fun x ρ' z => z) ?_
  intro n d ρ1 v S1 H1 fp1 _ h s1 m1 c1 a1
  split at h
  · rename_i hn
    simp only at hn
    subst hn
    obtain ⟨fps, s1⟩ := s1
    exact h v S1 H1 fps [] s1 m1.1 (.zero (Rep.zero a1)) .nil fun _ z => nomatch z
  · exact h.elim
theorem tI_bind {K : PySem.W.Frag} {mg : Str → Option Value} {C : Ctx} {ρ : En} {S : Own} {σ : L2.St} {H : Hp} {f : EM (List D)} {α : Type} {k : List D → EM α} {Q : It → Hp → Prop} {G : R En α → Prop}
    (sim : Sim K C ρ S σ H) (g : G (f.then k ρ)) (gb : ¬ G .bad) (ge : ∀ x ρ', G (.err x ρ') → ∀ cls dd S' H', Sim K C ρ' S' σ H' → XOk K mg S' H' x cls dd → W cls dd σ H')
    (h : ∀ ds ρ' J S' H', f ρ = .ok ds ρ' → G (k ds ρ') → Sim K C ρ' S' σ H' → Mv p S H S' H' → JOk K J ds S' H' → Q J H') : tI K mg W p f σ H Q := by
  refine ⟨C, ρ, S, sim, ?_⟩
  unfold EM.then at g
  cases e : f ρ with
  | ok a ρ' =>
    rw [e] at g
    intro v S' H' s m c a
    exact h _ ρ' v S' H' e g s m a
  | err x ρ' =>
    rw [e] at g
    exact ge x ρ' g
  | bad =>
    rw [e] at g
    exact (gb g).elim
theorem pts_yes : PTs X [] (tB' X.K X.mg W true bYes) := ⟨fun pins s σ H Q I h => by
  obtain ⟨C, ρ, S, sim, h⟩ := h
  exact pts_nil.run pins s σ H Q I (h S H sim .refl (fun _ => rfl))⟩
abbrev W0 : WX := fun _ _ _ _ => False
/-- [elt for tg in iter if ..] -/
theorem n_lc {elt tg iter : Expr} {ifs : List Expr} {scope : Scope} {own : List (Str × Nat)} {pos : Pos} {is : List Nat} {it : EM (List D)} {gt : D → SM} {c : EM Bool} {e : EM D} (hc : X.calm = true) (hN : X.N.Nodup) (hi : PI X tg iter (tI X.K X.mg W p it)) (ok : BlkOk X.N X.env.scope scope own)
    (hg : ∀ (s : Shared) (H : Hp) (C : Addr) (cl : List (Str × Addr)) (fp : List Addr), PG (X.blk s H scope (compEnvC scope cl C X.env) fp) tg (tG X.K is gt)) (his : ∀ i ∈ is, i ∈ own.map (·.2))
    (ht : ∀ (s : Shared) (H : Hp) (C : Addr) (cl : List (Str × Addr)) (fp : List Addr), PTs (X.blk s H scope (compEnvC scope cl C X.env) fp) ifs (tB' X.K X.mg W0 q c))
    (he : ∀ (s : Shared) (H : Hp) (C : Addr) (cl : List (Str × Addr)) (fp : List Addr), PE (X.blk s H scope (compEnvC scope cl C X.env) fp) elt (tN X.K X.mg W0 n e)) (hs : ∀ x, foldedSetIterable iter X.env x = pure x := by intro _; rfl) :
    PE X (.ListComp elt [⟨tg, iter, ifs, 0⟩] scope pos) (tN X.K X.mg W (n + 1) (nLc (own.map (·.2)) it gt c e)) := peI (pe_lc hc hN hi ok hg ht he hs) fun σ H Q h => by
  obtain ⟨vs, hvs⟩ : ∃ vs, vs = own.map (·.2) := ⟨_, rfl⟩
  rw [← hvs] at his
  show tI X.K X.mg W p it σ H _
  rw [← hvs] at h
  show tLc (tI X.K X.mg W p it) (tG X.K is gt) (tB' X.K X.mg W0 q c) (tN X.K X.mg W0 n e) (own.map (·.2)) σ H Q
  rw [← hvs]
  obtain ⟨C, ρ, S, sim, h⟩ := h
  refine tI_bind (G := fun z => NOk X.K X.mg C ρ S σ H W (n + 1) z Q) sim h id (fun x ρ' z => z) ?_
  intro ds ρ1 J S1 H1 _ h s1 m1 jok D hD
  cases el : lcL vs gt c e ds (forget vs ρ1) with
  | err x ρ' => rw [el] at h; exact h.elim
  | bad => rw [el] at h; exact h.elim
  | ok xs ρe =>
  rw [el] at h
  dsimp only at h
  split at h
  case isFalse => exact h.elim
  case isTrue hlen =>
  obtain ⟨fps1, s1⟩ := s1
  obtain ⟨fpsw, sw, gw⟩ := s1.wiped vs
  obtain ⟨sf, nf, h0⟩ := sw.fresh (o := .lst []) hD
  refine ⟨fun i m H' => ∃ fps ρ' S' accV acc accF xs', SimF X.K C fps ρ' S' (wipe σ vs) H' ∧ Keep S1 H1 S' H' ∧ H' D = some (.lst accV) ∧ Als X.K S' H' n accV acc accF ∧ (D :: accF).Nodup ∧ (∀ b ∈ D :: accF, S' b ∧ (C.Z b ∨ C.H0 b = none) ∧ ∀ i, b ∉ fps i) ∧
    lcL vs gt c e (ds.drop i) ρ' = .ok xs' ρe ∧ acc ++ xs' = xs ∧ m = ds.length - i ∧ ∃ ρ0, ρ' = forget vs ρ0, ⟨ds.length, fpsw, _, _, [], [], [], xs, sf, .fresh hD, upd_same, .nil, by simp, ?_, by simpa using el, rfl, by simp, _, rfl⟩, fun i m H2 hW => ?_⟩
  · intro b hb
    have e : b = D := by simpa using hb
    subst e
    exact ⟨.inr rfl, .inr h0, nf⟩
  obtain ⟨fps2, ρ2, S2, accV, acc, accF, xs', s2, kp, hDl, als, nd, hY, ell, exs, rfl, h0'⟩ := hW
  obtain ⟨j1, j2⟩ := jok S2 H2 kp s2.sd i
  by_cases hil : i < ds.length
  case neg =>
    left
    refine ⟨j2 (by omega), ?_⟩
    rw [List.drop_eq_nil_of_le (by omega)] at ell
    simp only [lcL, R.ok.injEq] at ell
    obtain ⟨e1, e2⟩ := ell
    subst e1 e2
    rw [List.append_nil] at exs
    subst exs
    have s3 : SimF X.K C fps2 ρ2 S2 σ H2 := by
      refine s2.sig (wipe_length σ vs).symm fun j m ej => ?_
      obtain ⟨ρ0, rfl⟩ := h0'
      rw [getElem?_forget] at ej
      split at ej
      · cases ej
      · rename_i cc
        have hl2 := s2.len
        rw [length_forget, wipe_length] at hl2
        rw [getElem?_wipe, if_neg (by rw [hl2]; exact cc)]
    have hl3 : ρ2.length = ρ1.length := by
      have a1 := s1.len
      have a2 := s3.len
      omega
    obtain ⟨fps3, s4, g4⟩ := restore_ok s1 kp.tr (vs := vs) s3 hl3
    exact h (.ref D) S2 H2 fps3 (D :: accF) s4 (m1.1.trans kp.tr) (.lst (hY D List.mem_cons_self).1 hDl als) nd fun b hb => ⟨(hY b hb).2.1, fun i z => (hY b hb).2.2 i (g4 i b z)⟩
  right
  have ed : ds[i]? = some ds[i] := List.getElem?_eq_getElem hil
  obtain ⟨jg, jy⟩ := j1 _ ed
  rw [List.drop_eq_getElem_cons hil] at ell
  refine ⟨jg, _, fun H' z => ⟨ds.length - (i + 1), by omega, z⟩, fun x H3 hy => ?_⟩
  obtain ⟨sm, rx⟩ := jy x H3 hy
  have s3 := s2.same sm
  have hY3 : ∀ b, b ∈ D :: accF → S2 b ∧ ∀ i, b ∉ fps2 i := fun b hb => ⟨(hY b hb).1, (hY b hb).2.2⟩
  have sY := s3.reY (Y := fun b => b ∈ D :: accF) hY3
  unfold lcL at ell
  cases eg : gt ds[i] ρ2 with
  | rt n d ρ3 => rw [eg] at ell; cases ell
  | bk ρ3 => rw [eg] at ell; cases ell
  | ct ρ3 => rw [eg] at ell; cases ell
  | err x ρ3 => rw [eg] at ell; cases ell
  | bad => rw [eg] at ell; cases ell
  | nx ρ3 =>
  rw [eg] at ell
  dsimp only at ell
  refine ⟨_, ρ2, S2, ds[i], ⟨fps2, sY⟩, rx, ρ3, eg, fun σ4 H4 s4 sm4 off => ?_⟩
  have ew := wipe_eq off his
  refine ⟨ew, _, ρ3, S2, s4, ?_⟩
  -- behind the element, the next turn's state
  have next : ∀ {ρ6 : En} {S6 : Own} {H6 : Hp} {fps6 : Nat → List Addr}, SimF X.K (C.reY S2 H3 fun b => b ∈ D :: accF) fps6 ρ6 S6 σ4 H6 →
      (∃ fps7, SimF X.K C fps7 (forget vs ρ6) S6 (wipe σ vs) H6 ∧ ∀ j b, b ∈ fps7 j → b ∈ fps6 j) ∧ Keep S1 H1 S6 H6 ∧ H6 D = some (.lst accV) ∧ Als X.K S6 H6 n accV acc accF ∧ (∀ b ∈ D :: accF, S6 b ∧ (C.Z b ∨ C.H0 b = none) ∧ ∀ i, b ∉ fps6 i) := by
    intro ρ6 S6 H6 fps6 s6
    have hYs : ∀ b, b ∈ D :: accF → S2 b := fun b hb => (hY b hb).1
    have b6 := SimF.back s3 hYs s6
    have k6 := SimF.kept s3 hYs s6
    have ap : ∀ b, b ∈ D :: accF → H6 b = H3 b ∧ S6 b ∧ ∀ i, b ∉ fps6 i := fun b hb => SimF.apart s3 s6 hb (hYs b hb)
    obtain ⟨f7, s7, g7⟩ := b6.wiped vs
    rw [ew] at s7
    refine ⟨⟨f7, s7, g7⟩, (kp.trans (.same sm)).trans k6, (ap D List.mem_cons_self).1.trans (sm _ _ hDl), ?_, fun b hb => ⟨(ap b hb).2.1, (hY b hb).2.1, (ap b hb).2.2⟩⟩
    have a3 : Als X.K S2 H3 n accV acc accF := als.mono (.same sm) fun b hb => by
      obtain ⟨z1, z2⟩ := als.there b hb
      cases eb : H2 b with
      | none => exact absurd eb z1
      | some u => exact ⟨sm b u eb, z2⟩
    exact a3.mono k6.tr fun b hb => ⟨(ap b (List.mem_cons_of_mem _ hb)).1, (ap b (List.mem_cons_of_mem _ hb)).2.1⟩
  cases ec : c ρ3 with
  | err x ρ5 => rw [ec] at ell; cases ell
  | bad => rw [ec] at ell; cases ell
  | ok b ρ5 =>
  rw [ec] at ell
  intro S5 H5 s5 m5 c5
  cases b with
  | false =>
    rw [if_neg Bool.false_ne_true]
    obtain ⟨fps5, s5⟩ := s5
    obtain ⟨⟨f7, s7, g7⟩, k7, d7, a7, y7⟩ := next s5
    exact ⟨f7, _, S5, accV, acc, accF, xs', s7, k7, d7, a7, nd, fun b hb => ⟨(y7 b hb).1, (y7 b hb).2.1, fun i z => (y7 b hb).2.2 i (g7 i b z)⟩, ell, exs, rfl, _, rfl⟩
  | true =>
  dsimp only at ell
  rw [if_pos rfl]
  cases ee : e ρ5 with
  | err x ρ6 => rw [ee] at ell; cases ell
  | bad => rw [ee] at ell; cases ell
  | ok xd ρ6 =>
  rw [ee] at ell
  dsimp only at ell
  split at ell
  case h_2 => cases ell
  case h_1 xs2 ρ4 e4 =>
  simp only [R.ok.injEq] at ell
  obtain ⟨ex1, ex2⟩ := ell
  subst ex1 ex2
  refine ⟨_, ρ5, S5, s5, ?_⟩
  rw [ee]
  intro y S6 H6 fps6 fp6 s6 t6 al6 nd6 z6
  obtain ⟨⟨f7, s7, g7⟩, k7, d7, a7, y7⟩ := next s6
  have nY : ∀ b ∈ fp6, b ∉ D :: accF := fun b hb hm => by
    rcases (z6 b hb).1 with z | z
    · exact z.2.1 hm
    · exact s3.sd b (hY b hm).1 z
  have hal := als.length
  refine ⟨accV, d7, ?_, ?_⟩
  · have : (acc ++ xd :: xs2).length ≤ sizeLine := by rw [exs]; exact hlen
    simp only [List.length_append, List.length_cons] at this
    omega
  have dn : D ∉ accF := (List.nodup_cons.mp nd).1
  have hDd := y7 D List.mem_cons_self
  have s8 := s7.writeX (o := .lst (accV ++ [y])) hDd.1 (fun i z => hDd.2.2 i (g7 i D z)) hDd.2.1
  have tw : Tr S6 H6 S6 (upd H6 D (.lst (accV ++ [y]))) := .write hDd.1
  refine ⟨f7, _, S6, accV ++ [y], acc ++ [xd], accF ++ fp6, xs2, s8, k7.trans (.write hDd.1), upd_same, ?_, ?_, ?_, e4, by simpa using exs, rfl, _, rfl⟩
  · refine Als.snoc (a7.mono tw fun b hb => ⟨upd_ne fun z => dn (z ▸ hb), (y7 b (List.mem_cons_of_mem _ hb)).1⟩) (al6.mono tw fun b hb => ⟨upd_ne fun z => nY b hb (by rw [z]; exact List.mem_cons_self), (al6.there b hb).2⟩)
  · obtain ⟨n1, n2⟩ := List.nodup_cons.mp nd
    refine List.nodup_cons.mpr ⟨fun z => ?_, List.nodup_append.mpr ⟨n2, nd6, fun a ha b hb z => ?_⟩⟩
    · rcases List.mem_append.mp z with z | z
      · exact n1 z
      · exact nY D z List.mem_cons_self
    · exact nY b hb (by rw [← z]; exact List.mem_cons_of_mem _ ha)
  · intro b hb
    have old : b ∈ D :: accF → S6 b ∧ (C.Z b ∨ C.H0 b = none) ∧ ∀ i, b ∉ f7 i := fun hm => ⟨(y7 b hm).1, (y7 b hm).2.1, fun i z => (y7 b hm).2.2 i (g7 i b z)⟩
    rcases List.mem_cons.mp hb with rfl | hb
    · exact old List.mem_cons_self
    · rcases List.mem_append.mp hb with hb | hb
      · exact old (List.mem_cons_of_mem _ hb)
      · refine ⟨(al6.there b hb).2, ?_, fun i z => (z6 b hb).2 i (g7 i b z)⟩
        rcases (z6 b hb).1 with z | z
        · exact z.2.2
        · exact .inr (s3.dom b z)
end
end VL

namespace VL
open PySem PySem.Spec PyProof.Rows L2

/-! ## dicts as data -/
def keyOf : D → Option Key
  | .int i => some (.inl i)
  | .str s => some (.inr s)
  | _ => none
def keyD : Key → D
  | .inl i => .int i
  | .inr s => .str s
def valD (kds : List (Key × D)) (k : Key) : Option D := (kds.find? fun kv => decide (kv.1 = k)).map (·.2)
def hasD (kds : List (Key × D)) (k : Key) : Bool := kds.any fun kv => decide (kv.1 = k)
def putD (kds : List (Key × D)) (k : Key) (d : D) : List (Key × D) :=
  if hasD kds k = true then kds.map (fun kv => if kv.1 = k then (kv.1, d) else kv) else kds ++ [(k, d)]
def dropD (kds : List (Key × D)) (k : Key) : List (Key × D) := kds.filter fun kv => decide (kv.1 ≠ k)
/-- the first entry of k alone -/
def modD : List (Key × D) → Key → D → List (Key × D)
  | [], _, _ => []
  | (k', x) :: r, k, d => if k' = k then (k', d) :: r else (k', x) :: modD r k d
def ixD : D → D → Option D
  | .lst ds, .int i => atI ds i
  | .tup ds, .int i => atI ds i
  | .dic kds, b => (keyOf b).bind (valD kds)
  | .str z, .int i => if 0 ≤ i ∧ i < z.length ∧ z.length < 2 ^ 62 then (z.cps[i.toNat]?).map fun c => .str ⟨#[c]⟩ else none
  | _, _ => none
/-- what is owned in a tuple is looked at otherwise -/
def ixN' : Nat → D → D → Option D
  | 0, d, b => ixD d b
  | _ + 1, .tup _, _ => none
  | _ + 1, d, b => ixD d b
theorem ixN'_ok {n : Nat} {d b r : D} (h : ixN' n d b = some r) : ixD d b = some r ∧ ∀ ds, d = .tup ds → n = 0 := by
  cases n with
  | zero => exact ⟨h, fun _ _ => rfl⟩
  | succ n => cases d with
    | tup ds => cases h
    | _ => exact ⟨h, fun _ e => nomatch e⟩
def eIx (q : Bool) (f g : EM (Nat × D)) : EM (Nat × D) := f.then fun a => g.then fun b ρ =>
  if q = true ∨ a.1 = 0 then (match ixN' a.1 a.2 b.2 with | some d => .ok (a.1 - 1, d) ρ | none => .bad) else .bad
section
variable {K : PySem.W.Frag} {mg : Str → Option Value} {S S' : Own} {H H' : Hp}
theorem Rep.key {v : V} {d : D} {k : Key} (r : Rep K S H v d) (e : keyOf d = some k) : v = kV k := by
  cases r <;> simp [keyOf] at e <;> subst e <;> rfl
theorem Al.key {n : Nat} {v : V} {d : D} {fp : List Addr} {k : Key} (r : Al K S H n v d fp) (e : keyOf d = some k) : v = kV k := by
  cases r with
  | zero r => exact r.key e
  | fl _ r => exact r.key e
  | tup => simp [keyOf] at e
  | lst => simp [keyOf] at e
  | dic => simp [keyOf] at e
theorem rep_keyD (k : Key) : Rep K S H (kV k) (keyD k) := by cases k <;> constructor
theorem RepKs.val : ∀ {vs : List (Key × V)} {ds : List (Key × D)} {k : Key}, RepKs K S H vs ds → (valV vs k = none ∧ valD ds k = none) ∨ ∃ v d, valV vs k = some v ∧ valD ds k = some d ∧ Rep K S H v d
  | _, _, _, .nil => .inl ⟨rfl, rfl⟩
  | _, _, k, .cons (k := k') (v := v) (d := d) (vs := vs) (ds := ds) r q => by
    by_cases e : k' = k
    · exact .inr ⟨v, d, by simp [valV, e], by simp [valD, e], r⟩
    · have e1 : valV ((k', v) :: vs) k = valV vs k := by simp [valV, List.find?_cons, e]
      have e2 : valD ((k', d) :: ds) k = valD ds k := by simp [valD, List.find?_cons, e]
      rw [e1, e2]
      exact RepKs.val q
theorem AlKs.val {n : Nat} : ∀ {vs : List (Key × V)} {ds : List (Key × D)} {F : List Addr} {k : Key}, AlKs K S H n vs ds F → (valV vs k = none ∧ valD ds k = none) ∨ ∃ v d f, valV vs k = some v ∧ valD ds k = some d ∧ Al K S H n v d f
  | _, _, _, _, .nil => .inl ⟨rfl, rfl⟩
  | _, _, _, k, .cons (k := k') (v := v) (d := d) (vs := vs) (ds := ds) (f := f) r q => by
    by_cases e : k' = k
    · exact .inr ⟨v, d, f, by simp [valV, e], by simp [valD, e], r⟩
    · have e1 : valV ((k', v) :: vs) k = valV vs k := by simp [valV, List.find?_cons, e]
      have e2 : valD ((k', d) :: ds) k = valD ds k := by simp [valD, List.find?_cons, e]
      rw [e1, e2]
      exact AlKs.val q
theorem AlKs.length {n : Nat} {vs : List (Key × V)} {ds : List (Key × D)} {F : List Addr} (h : AlKs K S H n vs ds F) : vs.length = ds.length ∧ vs.map (·.1) = ds.map (·.1) := by
  induction vs generalizing ds F with
  | nil => cases h; exact ⟨rfl, rfl⟩
  | cons v vs ih => cases h with | cons a q => have := ih q; simp [this.1, this.2]
theorem RepKs.length {vs : List (Key × V)} {ds : List (Key × D)} (h : RepKs K S H vs ds) : vs.length = ds.length ∧ vs.map (·.1) = ds.map (·.1) := by
  induction vs generalizing ds with
  | nil => cases h; exact ⟨rfl, rfl⟩
  | cons v vs ih => cases h with | cons a q => have := ih q; simp [this.1, this.2]
theorem AlKs.zero : ∀ {vs : List (Key × V)} {ds : List (Key × D)}, RepKs K S H vs ds → AlKs K S H 0 vs ds []
  | _, _, .nil => .nil
  | _, _, .cons (k := k) r q => by
    have := AlKs.cons (k := k) (f := []) (g := []) (.zero r) (AlKs.zero q)
    exact this
theorem AlKs.rep : ∀ {vs : List (Key × V)} {ds : List (Key × D)} {F : List Addr}, AlKs K S H 0 vs ds F → RepKs K S H vs ds ∧ F = []
  | _, _, _, .nil => ⟨.nil, rfl⟩
  | _, _, _, .cons r q => by
    obtain ⟨q', e⟩ := AlKs.rep q
    cases r with
    | zero r => exact ⟨.cons r q', by simpa using e⟩
theorem Als.rep : ∀ {vs : List V} {ds : List D} {F : List Addr}, Als K S H 0 vs ds F → Reps K S H vs ds ∧ F = []
  | _, _, _, .nil => ⟨.nil, rfl⟩
  | _, _, _, .cons r q => by
    obtain ⟨q', e⟩ := Als.rep q
    cases r with
    | zero r => exact ⟨.cons r q', by simpa using e⟩
theorem Als.get {n : Nat} : ∀ {vs : List V} {ds : List D} {F : List Addr} {i : Nat} {d : D}, Als K S H n vs ds F → ds[i]? = some d → ∃ v f, vs[i]? = some v ∧ Al K S H n v d f
  | _, _, _, _, _, .nil, e => by simp at e
  | _, _, _, 0, _, .cons r q, e => by simp at e; subst e; exact ⟨_, _, rfl, r⟩
  | _, _, _, i + 1, _, .cons r q, e => by
    simp at e
    obtain ⟨v, f, e1, a⟩ := Als.get q e
    exact ⟨v, f, by simpa using e1, a⟩
theorem atI_rel {n : Nat} {vs : List V} {ds : List D} {F : List Addr} {i : Int} {d : D} (h : Als K S H n vs ds F) (e : atI ds i = some d) : ∃ v f, atI vs i = some v ∧ Al K S H n v d f := by
  unfold atI at e ⊢
  rw [h.length]
  cases e1 : ixN ds.length i with
  | none => rw [e1] at e; cases e
  | some j => rw [e1] at e; exact h.get e
/-- what a list or a tuple holds, however it is held -/
theorem Al.listR {n : Nat} {v : V} {ds : List D} {fp : List Addr} (h : Al K S H n v (.lst ds) fp) : ∃ a vs F, v = .ref a ∧ Rd H a (.lst vs) ∧ Als K S H (n - 1) vs ds F ∧ (n = 0 → F = []) := by
  cases h with
  | zero r => cases r with | lst l q => exact ⟨_, _, _, rfl, l.2, Als.zero q, fun _ => rfl⟩
  | fl f _ => cases f
  | lst s e q => exact ⟨_, _, _, rfl, .inl e, q, fun z => by cases z⟩
theorem Al.list {n : Nat} {v : V} {ds : List D} {fp : List Addr} (h : Al K S H n v (.lst ds) fp) : ∃ a vs F, v = .ref a ∧ SqL K H a vs ∧ Als K S H (n - 1) vs ds F ∧ (n = 0 → F = []) := by
  obtain ⟨a, vs, F, e, r, q⟩ := h.listR
  exact ⟨a, vs, F, e, .inl r, q⟩
theorem Al.tuple {n : Nat} {v : V} {ds : List D} {fp : List Addr} (h : Al K S H n v (.tup ds) fp) : ∃ a vs, v = .ref a ∧ SqT K H a vs ∧ vs.length = ds.length ∧ (n = 0 ∨ ds.all D.flat = true → Reps K S H vs ds) := by
  cases h with
  | zero r => cases r with | tup l q => exact ⟨_, _, rfl, l.sq, q.length, fun _ => q⟩
  | fl f _ => cases f
  | tup m l q g => exact ⟨_, _, rfl, .inl l, by simp [g.length], fun z => z.elim (fun y => by cases y) fun y => .cons (by
      rw [List.all_cons, Bool.and_eq_true] at y
      cases q with
      | zero r => exact r
      | fl _ r => exact r
      | tup => exact absurd y.1 (by simp [D.flat])
      | lst => exact absurd y.1 (by simp [D.flat])
      | dic => exact absurd y.1 (by simp [D.flat])) g⟩
theorem Al.lift {n : Nat} {v : V} {d : D} (f : d.flat = true) (r : Rep K S H v d) : Al K S H n v d [] := by
  cases n with
  | zero => exact .zero r
  | succ n => exact .fl f r
theorem Als.reps {n : Nat} {vs : List V} {ds : List D} {F : List Addr} (h : Als K S H (n - 1) vs ds F) (hn : n ≤ 1) : Reps K S H vs ds := by
  have e : n - 1 = 0 := by omega
  rw [e] at h
  exact h.rep.1
theorem Al.dict {n : Nat} {v : V} {ds : List (Key × D)} {fp : List Addr} (h : Al K S H n v (.dic ds) fp) : ∃ a vs F, v = .ref a ∧ Rd H a (.dK vs) ∧ AlKs K S H (n - 1) vs ds F := by
  cases h with
  | zero r => cases r with | dic l e q => exact ⟨_, _, _, rfl, e, AlKs.zero q⟩
  | fl f _ => cases f
  | dic s e q => exact ⟨_, _, _, rfl, .inl e, q⟩
theorem Al.str {n : Nat} {v : V} {z : Str} {fp : List Addr} (h : Al K S H n v (.str z) fp) : True ∧ v = .str z := ⟨trivial, h.isStr⟩
theorem Al.int {n : Nat} {v : V} {i : Int} {fp : List Addr} (h : Al K S H n v (.int i) fp) : True ∧ v = .int i := ⟨trivial, h.isInt⟩
theorem Al.bl {n : Nat} {v : V} {b : Bool} {fp : List Addr} (h : Al K S H n v (.bl b) fp) : True ∧ v = .bl b := ⟨trivial, h.isBl⟩
end
section
variable {X : Cx} {W : WX} {p q : Bool}
theorem pe_or {e : Expr} {t u : TE} (h : PE X e t) (g : PE X e u) : PE X e (fun σ H Q => t σ H Q ∨ u σ H Q) := ⟨fun p s σ H Q I q => q.elim (h.run p s σ H Q I) (g.run p s σ H Q I)⟩
theorem pt_or {e : Expr} {t u : TT} (h : PT X e t) (g : PT X e u) : PT X e (fun σ H Q => t σ H Q ∨ u σ H Q) := ⟨fun p s σ H Q I q => q.elim (h.run p s σ H Q I) (g.run p s σ H Q I)⟩
theorem ps_or {e : Stmt} {t u : TS} (h : PS X e t) (g : PS X e u) : PS X e (fun D σ H => t D σ H ∨ u D σ H) := ⟨fun p s σ H D I q => q.elim (h.run p s σ H D I) (g.run p s σ H D I)⟩
/-- two operands: what they give, or nothing needs to be shown -/
theorem two {K : PySem.W.Frag} {mg : Str → Option Value} {C : Ctx} {ρ : En} {S : Own} {σ : L2.St} {H : Hp} {f g : EM (Nat × D)} {α : Type} {k : (Nat × D) → (Nat × D) → EM α} {G : R En α → Prop} (sim : Sim K C ρ S σ H) (h : G ((f.then fun a => g.then fun b => k a b) ρ)) (gb : ¬ G .bad)
    (ge : ∀ x ρ', G (.err x ρ') → ∀ cls dd S' H', Sim K C ρ' S' σ H' → XOk K mg S' H' x cls dd → W cls dd σ H') :
    (∃ (n : Nat) (d : D) (m : Nat) (e : D) (ρ2 : En), G (k (n, d) (m, e) ρ2) ∧ ∀ P : V → V → Hp → Prop, (∀ x y S1 H1 S2 H2 fp1 fp2, Sim K C ρ2 S2 σ H2 → Mv (p && q) S H S2 H2 → ((p && q) = true → ρ2 = ρ) → Al K S1 H1 n x d fp1 → Mv q S1 H1 S2 H2 → Al K S2 H2 m y e fp2 → P x y H2) →
      tE K mg W p f σ H fun x H1 => tE K mg W q g σ H1 fun y H2 => P x y H2) ∨ ∀ P : V → V → Hp → Prop, tE K mg W p f σ H fun x H1 => tE K mg W q g σ H1 fun y H2 => P x y H2 := by
  unfold EM.then at h
  cases e1 : f ρ with
  | ok a ρ1 =>
    rw [e1] at h
    dsimp only at h
    obtain ⟨n, d⟩ := a
    cases e2 : g ρ1 with
    | ok b ρ2 =>
      rw [e2] at h
      dsimp only at h
      obtain ⟨m, e⟩ := b
      refine .inl ⟨n, d, m, e, ρ2, h, fun P hP => ⟨C, ρ, S, sim, ?_⟩⟩
      rw [e1]
      intro v S1 H1 fp1 s1 m1 c1 a1
      refine ⟨C, ρ1, S1, s1, ?_⟩
      rw [e2]
      intro u S2 H2 fp2 s2 m2 c2 a2
      refine hP v u S1 H1 S2 H2 fp1 fp2 s2 (m1.trans m2) (fun hp => ?_) a1 m2 a2
      rw [Bool.and_eq_true] at hp
      exact (c2 hp.2).trans (c1 hp.1)
    | err x ρ2 =>
      rw [e2] at h
      refine .inr fun P => ⟨C, ρ, S, sim, ?_⟩
      rw [e1]
      intro v S1 H1 fp1 s1 m1 c1 a1
      refine ⟨C, ρ1, S1, s1, ?_⟩
      rw [e2]
      exact ge x ρ2 h
    | bad => rw [e2] at h; exact (gb h).elim
  | err x ρ1 =>
    rw [e1] at h
    refine .inr fun P => ⟨C, ρ, S, sim, ?_⟩
    rw [e1]
    exact ge x ρ1 h
  | bad => rw [e1] at h; exact (gb h).elim
theorem v_ix {a b : Expr} {f g : EM (Nat × D)} {pos : Pos} (hu : X.A.units + 1 < cLine) (ha : PE X a (tE X.K X.mg W p f)) (hb : PE X b (tE X.K X.mg W q g)) (hs : ∀ o i, subscripted b false o i = operate [o, i] (getItem o i) := by intro _ _; rfl) :
    PE X (.Subscript a b pos) (tE X.K X.mg W (p && q) (eIx q f g)) :=
  peI (pe_or (pe_or (pe_ix ix_list ha hb hs) (pe_ix ix_tup ha hb hs)) (pe_or (pe_dget hu ha hb hs) (pe_item_str ha hb hs))) fun σ H Q h => by
  obtain ⟨C, ρ, S, sim, h⟩ := h
  rcases two (p := p) (q := q) (G := fun z => EOk X.K X.mg C ρ S σ H W (p && q) z Q) sim h id (fun x ρ' z => z) with ⟨n, d, m, e, ρ2, h, go⟩ | go
  · dsimp only at h
    split at h
    case isFalse => exact h.elim
    case isTrue hq =>
    split at h
    case h_2 => exact h.elim
    case h_1 r er =>
    have hh := ixN'_ok er
    clear er
    obtain ⟨er, hn0⟩ := hh
    unfold ixD at er
    split at er
    · rename_i ds i
      refine .inl (.inl (go _ fun x y S1 H1 S2 H2 fp1 fp2 s m c a1 m2 a2 => ?_))
      obtain ⟨_, rfl⟩ := a2.int
      obtain ⟨l, vs, F, rfl, sq, als, _⟩ := (a1.mv m2 hq).list
      obtain ⟨v, f', ev, al⟩ := atI_rel als er
      exact ⟨l, vs, i, v, rfl, rfl, sq, ev, h v S2 H2 f' s m c al⟩
    · rename_i ds i
      refine .inl (.inr (go _ fun x y S1 H1 S2 H2 fp1 fp2 s m c a1 m2 a2 => ?_))
      obtain ⟨_, rfl⟩ := a2.int
      obtain ⟨l, vs, rfl, sq, _, als⟩ := (a1.mv m2 hq).tuple
      have n0 := hn0 _ rfl
      subst n0
      obtain ⟨v, f', ev, al⟩ := atI_rel (n := 0) (Als.zero (als (.inl rfl))) er
      exact ⟨l, vs, i, v, rfl, rfl, sq, ev, h v S2 H2 f' s m c al⟩
    · rename_i kds
      refine .inr (.inl (go _ fun x y S1 H1 S2 H2 fp1 fp2 s m c a1 m2 a2 => ?_))
      obtain ⟨k, ek, er⟩ := Option.bind_eq_some_iff.mp er
      obtain ⟨l, vs, F, rfl, rd, als⟩ := (a1.mv m2 hq).dict
      have ey := a2.key ek
      subst ey
      rcases als.val (k := k) with ⟨_, z⟩ | ⟨v, d', f', e1, e2, al⟩
      · rw [z] at er; cases er
      · rw [e2] at er; cases er
        exact ⟨l, v, rfl, .inl ⟨vs, k, rd, rfl, e1.symm⟩, h v S2 H2 f' s m c al⟩
    · rename_i z i
      split at er
      case isFalse => cases er
      case isTrue hz =>
      obtain ⟨c', ec, rfl⟩ := Option.map_eq_some_iff.mp er
      refine .inr (.inr (go _ fun x y S1 H1 S2 H2 fp1 fp2 s m c a1 m2 a2 => ?_))
      obtain ⟨_, rfl⟩ := a2.int
      obtain rfl := (a1.mv m2 hq).isStr
      exact ⟨z, i, c', rfl, rfl, hz.1, by omega, hz.2.1, ec, h _ S2 H2 [] s m c (.lift rfl (.str _))⟩
    · cases er
  · exact .inl (.inl (go _))
end
end VL

namespace VL
open PySem PySem.Spec PyProof.Rows L2

/-! ## plain data without dicts, as the library reads it -/
mutual
def toPy : D → Option PyData
  | .non => some .none
  | .bl b => some (.bool b)
  | .int i => some (.int i)
  | .str x => some (.str x)
  | .lst xs => (toPys xs).map .list
  | .tup xs => (toPys xs).map .tuple
  | _ => none
def toPys : List D → Option (List PyData)
  | [] => some []
  | x :: xs => (toPy x).bind fun a => (toPys xs).map (a :: ·)
end
section
variable {K : PySem.W.Frag} {S : Own} {H : Hp}
mutual
theorem Rep.dp : ∀ {v : V} {d : D} {a : PyData}, Rep K S H v d → toPy d = some a → Dp K H v a
  | _, _, _, .non, e => by simp [toPy] at e; subst e; exact .non
  | _, _, _, .bl b, e => by simp [toPy] at e; subst e; exact .bl b
  | _, _, _, .int i, e => by simp [toPy] at e; subst e; exact .int i
  | _, _, _, .str x, e => by simp [toPy] at e; subst e; exact .str x
  | _, _, _, .lst l r, e => by
    simp only [toPy] at e
    obtain ⟨as, e1, rfl⟩ := Option.map_eq_some_iff.mp e
    exact .lst l.sq (Reps.dp r e1)
  | _, _, _, .tup l r, e => by
    simp only [toPy] at e
    obtain ⟨as, e1, rfl⟩ := Option.map_eq_some_iff.mp e
    exact .tup l.sq (Reps.dp r e1)
  | _, _, _, .dic _ _ _, e => by simp [toPy] at e
  | _, _, _, .scr _ _, e => by simp [toPy] at e
theorem Reps.dp : ∀ {v : List V} {d : List D} {a : List PyData}, Reps K S H v d → toPys d = some a → DpAll K H v a
  | _, _, _, .nil, e => by simp [toPys] at e; subst e; exact .nil
  | _, _, _, .cons r q, e => by
    simp only [toPys] at e
    obtain ⟨a, e1, e2⟩ := Option.bind_eq_some_iff.mp e
    obtain ⟨as, e3, rfl⟩ := Option.map_eq_some_iff.mp e2
    exact .cons (Rep.dp r e1) (Reps.dp q e3)
end
theorem Al.dp {n : Nat} {v : V} {d : D} {f : List Addr} {a : PyData} (h : Al K S H n v d f) (e : toPy d = some a) : Dp K H v a := h.rep0.dp e
end
/-- == of data without dicts -/
def eqP (d e : D) : Option Bool := (toPy d).bind fun a => (toPy e).bind fun b => if SeqAt.shaped a = true ∧ SeqAt.shaped b = true then some (PyData.eqv a b) else none
def hitsD (ls : List (Key × D)) : List (Key × D) → Option Bool
  | [] => some true
  | (k, d) :: r => match valD ls k with
    | none => some false
    | some e => (eqP d e).bind fun b => (hitsD ls r).map fun c => b && c
/-- ==; of dicts, where their values have none -/
def eqD (_ : Nat) (d : D) (_ : Nat) (e : D) : Option D := match d, e with
  | .dic ks, .dic ls => if ks.length = ls.length then (hitsD ls ks).map .bl else some (.bl false)
  | d, e => (eqP d e).map .bl
def neD (n : Nat) (d : D) (m : Nat) (e : D) : Option D := match eqD n d m e with
  | some (.bl b) => some (.bl (!b))
  | _ => none
def rEqK : R2 := fun x y H Q => ∃ a b ks ls r, x = .ref a ∧ y = .ref b ∧ Rd H a (.dK ks) ∧ Rd H b (.dK ls) ∧
  (∀ (P : V → V → Bool → Prop), True → True) ∧ r = false ∧ ks.length ≠ ls.length ∧ Q (.bl false) H
/-- == of two dicts of data without dicts -/
def rEqX (K : PySem.W.Frag) (neg : Bool) : R2 := fun x y H Q => ∃ (a b : Addr) (vs ws : List (Key × V)) (ks ls : List (Key × D)) (r : Bool), x = .ref a ∧ y = .ref b ∧ Rd H a (.dK vs) ∧ Rd H b (.dK ws) ∧
  RepKs K (fun _ => False) H vs ks ∧ RepKs K (fun _ => False) H ws ls ∧ (ks.length = ls.length → hitsD ls ks = some r) ∧ Q (.bl (neg != (ks.length == ls.length && r))) H
section
variable {X : Cx}
theorem hitsX {pins : List (Addr × Obj)} {σ : L2.St} {H : Hp} {s : Shared} (I : Inv X pins σ H s) {A : Around} (hu : A.units + 64 < cLine) {ls : List (Key × D)} {ws : List (Key × V)} {vb : List (Key × Value)} (rw' : RepKs X.K (fun _ => False) H ws ls) (rb : KV ws vb) :
    ∀ {ks : List (Key × D)} {vs : List (Key × V)} {va : List (Key × Value)} {r : Bool}, RepKs X.K (fun _ => False) H vs ks → KV vs va → hitsD ls ks = some r → PySem.W.KeqHits A s vb va r
  | _, _, _, _, .nil, ra, e => by
    cases ra
    simp [hitsD] at e; subst e; exact .nil
  | _, _, _, _, .cons (k := k) (v := v) (d := d) r q, ra, e => by
    cases ra with
    | @cons p u vs' va' h t =>
      obtain ⟨h1, h2⟩ := h
      obtain ⟨k', u'⟩ := u
      have h1' : k = k' := h1
      subst h1'
      simp only [hitsD] at e
      have rr := rb.val k
      rcases rw'.val (k := k) with ⟨z1, z2⟩ | ⟨w, e', z1, z2, re⟩
      · rw [z2] at e
        simp at e; subst e
        rw [z1] at rr
        refine .miss ?_
        cases ev : valueAt vb k with
        | none => rfl
        | some y => rw [ev] at rr; exact rr.elim
      · rw [z2] at e
        dsimp only at e
        obtain ⟨b, eb, e3⟩ := Option.bind_eq_some_iff.mp e
        obtain ⟨c, ec, rfl⟩ := Option.map_eq_some_iff.mp e3
        rw [z1] at rr
        obtain ⟨y, hy, ry⟩ := rr.some_of
        unfold eqP at eb
        obtain ⟨a1, f1, eb⟩ := Option.bind_eq_some_iff.mp eb
        obtain ⟨b1, f2, eb⟩ := Option.bind_eq_some_iff.mp eb
        split at eb
        case isFalse => cases eb
        case isTrue hs =>
        simp at eb; subst eb
        obtain ⟨as, r1⟩ := Dp.reads I a1 v u' (r.dp f1) h2
        obtain ⟨bs, r2⟩ := Dp.reads I b1 w y (re.dp f2) ry
        exact .hit hy (SeqAt.eqAt_reads a1 b1 A s u' y as bs r1 r2 (SeqAt.canLay_of_shaped hs.1) (SeqAt.canLay_of_shaped hs.2) (SeqAt.room_of_shaped hs.1 hu)) (hitsX I hu rw' rb q t ec)
theorem op_eqX (hu : X.A.units + 66 < cLine) : OpR X (compareOp .Eq) (rEqX X.K false) := by
  intro pins s σ H x y v u Q I rx ry h
  obtain ⟨a, b, vs, ws, ks, ls, r, rfl, rfl, ea, eb, ra, rb, hh, q⟩ := h
  obtain rfl : v = Value.ref a := rx
  obtain rfl : u = Value.ref b := ry
  obtain ⟨_, ya, va, ka, da⟩ := dk_rd I.hok ea
  obtain ⟨_, yb, vb, kb, db⟩ := dk_rd I.hok eb
  have la : va.length = ks.length := by rw [← ka.length]; exact ra.length.1
  have lb : vb.length = ls.length := by rw [← kb.length]; exact rb.length.1
  refine PySem.W.keq_eq (knd := mixKind X.prog X.w) (r := r) ya yb da db (by omega) (fun e => hitsX I (A := X.A.in1) (by show X.A.units + 1 + 64 < cLine; omega) rb kb ra ka (hh (by omega))) (fin_bl I q ?_)
  rw [la, lb]; simp
theorem op_neX (hu : X.A.units + 66 < cLine) : OpR X (compareOp .NotEq) (rEqX X.K true) := by
  intro pins s σ H x y v u Q I rx ry h
  obtain ⟨a, b, vs, ws, ks, ls, r, rfl, rfl, ea, eb, ra, rb, hh, q⟩ := h
  obtain rfl : v = Value.ref a := rx
  obtain rfl : u = Value.ref b := ry
  obtain ⟨_, ya, va, ka, da⟩ := dk_rd I.hok ea
  obtain ⟨_, yb, vb, kb, db⟩ := dk_rd I.hok eb
  have la : va.length = ks.length := by rw [← ka.length]; exact ra.length.1
  have lb : vb.length = ls.length := by rw [← kb.length]; exact rb.length.1
  refine PySem.W.keq_ne (knd := mixKind X.prog X.w) (r := r) ya yb da db (by omega) (fun e => hitsX I (A := X.A.in1) (by show X.A.units + 1 + 64 < cLine; omega) rb kb ra ka (hh (by omega))) (fin_bl I q ?_)
  rw [la, lb]; simp
/-- + of two lists, however they stand -/
def rCatX (K : PySem.W.Frag) : R2 := fun x y H Q => ∃ l b xs zs, x = .ref l ∧ y = .ref b ∧ SqL K H l xs ∧ SqL K H b zs ∧ xs.length + zs.length ≤ sizeLine ∧ ∀ p, H p = none → Q (.ref p) (upd H p (.lst (xs ++ zs)))
end
section
variable {X : Cx} {K : PySem.W.Frag}
theorem opv_or {r r' : R2} {op op' : Nat → D → Nat → D → Option D} (h : OpV K r op) (h' : OpV K r' op') : OpV K (fun x y H Q => r x y H Q ∨ r' x y H Q) (fun n a m b => (op n a m b).orElse fun _ => op' n a m b) := by
  intro S H x y n m a b d f g Q sd a1 a2 e k
  dsimp only at e
  cases e1 : op n a m b with
  | some d' =>
    rw [e1] at e
    simp at e; subst e
    exact .inl (h S H x y n m a b _ f g Q sd a1 a2 e1 k)
  | none =>
    rw [e1] at e
    exact .inr (h' S H x y n m a b d f g Q sd a1 a2 (by simpa using e) k)
def dII (C : Int → Int → Prop) [∀ i j, Decidable (C i j)] (g : Int → Int → D) (_ : Nat) (a : D) (_ : Nat) (b : D) : Option D := match a, b with
  | .int i, .int j => if C i j then some (g i j) else none
  | _, _ => none
theorem opv_ii {C : Int → Int → Prop} [∀ i j, Decidable (C i j)] {g : Int → Int → D} {gv : Int → Int → V} (hg : ∀ S H i j, Rep K S H (gv i j) (g i j)) : OpV K (rI C gv) (dII C g) := by
  intro S H x y n m a b d f f' Q sd a1 a2 e k
  unfold dII at e
  split at e
  · obtain ⟨_, rfl⟩ := a1.int
    obtain ⟨_, rfl⟩ := a2.int
    split at e
    · simp at e; subst e
      rename_i hc
      exact ⟨_, _, rfl, rfl, hc, k _ H (Same.refl _) (hg S H _ _)⟩
    · cases e
  · cases e
def dI0 (g : Int → Int → D) (_ : Nat) (a : D) (_ : Nat) (b : D) : Option D := match a, b with
  | .int i, .int j => some (g i j)
  | _, _ => none
theorem opv_i0 {g : Int → Int → D} {gv : Int → Int → V} (hg : ∀ S H i j, Rep K S H (gv i j) (g i j)) : OpV K (rI0 gv) (dI0 g) := by
  intro S H x y n m a b d f f' Q sd a1 a2 e k
  unfold dI0 at e
  split at e
  · obtain ⟨_, rfl⟩ := a1.int
    obtain ⟨_, rfl⟩ := a2.int
    simp at e; subst e
    exact ⟨_, _, rfl, rfl, k _ H (Same.refl _) (hg S H _ _)⟩
  · cases e
def dSS (g : Str → Str → D) (_ : Nat) (a : D) (_ : Nat) (b : D) : Option D := match a, b with
  | .str i, .str j => some (g i j)
  | _, _ => none
theorem opv_ss {g : Str → Str → D} {gv : Str → Str → V} (hg : ∀ S H i j, Rep K S H (gv i j) (g i j)) : OpV K (fun x y H Q => ∃ i j, x = .str i ∧ y = .str j ∧ Q (gv i j) H) (dSS g) := by
  intro S H x y n m a b d f f' Q sd a1 a2 e k
  unfold dSS at e
  split at e
  · obtain ⟨_, rfl⟩ := a1.str
    obtain ⟨_, rfl⟩ := a2.str
    simp at e; subst e
    exact ⟨_, _, rfl, rfl, k _ H (Same.refl _) (hg S H _ _)⟩
  · cases e
def dCatS (_ : Nat) (a : D) (_ : Nat) (b : D) : Option D := match a, b with
  | .str i, .str j => if i.length + j.length ≤ sizeLine then some (.str (i ++ j)) else none
  | _, _ => none
theorem opv_catS : OpV K (fun x y H Q => ∃ i j, x = .str i ∧ y = .str j ∧ i.length + j.length ≤ sizeLine ∧ Q (.str (i ++ j)) H) dCatS := by
  intro S H x y n m a b d f f' Q sd a1 a2 e k
  unfold dCatS at e
  split at e
  · obtain ⟨_, rfl⟩ := a1.str
    obtain ⟨_, rfl⟩ := a2.str
    split at e
    · simp at e; subst e
      exact ⟨_, _, rfl, rfl, by assumption, k _ H (Same.refl _) (.str _)⟩
    · cases e
  · cases e
def dCatT (n : Nat) (a : D) (m : Nat) (b : D) : Option D := match a, b with
  | .tup xs, .tup ys => if n = 0 ∧ m = 0 ∧ xs.length + ys.length ≤ sizeLine then some (.tup (xs ++ ys)) else none
  | _, _ => none
theorem opv_catT : OpV K (rCatA K) dCatT := by
  intro S H x y n m a b d f f' Q sd a1 a2 e k
  unfold dCatT at e
  split at e
  · rename_i xs ys
    split at e
    · rename_i hl
      obtain ⟨rfl, rfl, hl⟩ := hl
      obtain ⟨l, vs, rfl, s1, _, r1⟩ := a1.tuple
      obtain ⟨l2, ws, rfl, s2, _, r2⟩ := a2.tuple
      have r1 := r1 (.inl rfl)
      have r2 := r2 (.inl rfl)
      simp at e; subst e
      refine ⟨l, l2, vs, ws, rfl, rfl, s1, s2, by rw [r1.length, r2.length]; exact hl, fun e => ?_, fun _ e => ?_, fun _ _ p hp => ?_⟩
      · subst e
        cases r1
        exact k _ H (Same.refl _) (Rep.zero a2)
      · subst e
        cases r2
        rw [List.append_nil] at k
        exact k _ H (Same.refl _) (Rep.zero a1)
      · have sm : Same H (upd H p (.tup (vs ++ ws))) := same_upd' hp
        exact k _ _ sm (.tup (.inl ⟨fun z => sd p z hp, .inl upd_same⟩) ((r1.append r2).mono (.same sm)))
    · cases e
  · cases e
end
end VL

namespace VL
open PySem PySem.Spec PyProof.Rows L2

/-! ## places: what may be changed -/
/-- the container at a place, how many layers of it are owned, how the slots look with another one there -/
structure Plc where
  lv : Nat
  d : D
  rb : D → En
abbrev PlM := En → Option Plc
section
variable {K : PySem.W.Frag} {mg : Str → Option Value} {C : Ctx} {fps : Nat → List Addr} {ρ : En} {S : Own} {σ : L2.St} {H : Hp}
theorem SimF.upd (h : SimF K C fps ρ S σ H) {i : Nat} {m : Md} {d d' : D} {v : V} {a : Addr} {o : HO} {fp' : List Addr} (e : ρ[i]? = some (some (m, d))) (ev : σ[i]? = some (some v)) (ha : a ∈ fps i) (al : Al K S (L2.upd H a o) m.lv v d' fp') (nd : fp'.Nodup)
    (sub : ∀ b ∈ fp', b ∈ fps i ∨ ((C.Z b ∨ C.H0 b = none) ∧ ∀ j, b ∉ fps j)) : Sim K C (ρ.set i (some (m, d'))) S σ (L2.upd H a o) := by
  have hlt : i < ρ.length := (List.getElem?_eq_some_iff.mp e).1
  obtain ⟨x, ex, k⟩ := h.sl i _ e
  rw [ev] at ex; cases ex
  have hSa : S a := (k.there a ha).2
  have t : Tr S H S (L2.upd H a o) := .write hSa
  have ok : SlotOk K C S (L2.upd H a o) i (some (m, d')) (some v) fp' ∧ (C.Z a ∨ C.Bi i a ∨ C.H0 a = none) := by
    generalize fps i = f at k ha sub
    cases k with
    | val r => cases ha
    | own al0 z => exact ⟨.own al fun b hb => (sub b hb).elim (z b) fun q => q.1, (z a ha).imp id .inr⟩
    | bor al0 w z => exact ⟨.bor al w fun b hb => (sub b hb).elim (z b) fun q => q.1.imp (h.zb i b) id, .inr (z a ha)⟩
  refine ⟨fun j => if j = i then fp' else fps j, ⟨by simpa using h.len, fun j s ej => ?_, fun j => ?_, fun j l b hj hl => ?_, h.sub, h.s0, h.f0, h.zf, h.bf, h.zb, fun b u n q => ?_, fun b q => h.dom b (t.dom b q), h.sS, fun b hb q => h.sd b hb (t.dom b q), fun j hj => ?_⟩⟩
  · by_cases hji : j = i
    · subst hji
      rw [List.getElem?_set_self hlt] at ej
      cases ej
      exact ⟨_, ev, by rw [if_pos rfl]; exact ok.1⟩
    · rw [List.getElem?_set_ne (Ne.symm hji)] at ej
      obtain ⟨y, ey, ky⟩ := h.sl j s ej
      refine ⟨y, ey, ?_⟩
      rw [if_neg hji]
      have dis : ∀ b ∈ fps j, (L2.upd H a o) b = H b ∧ S b := fun b hb => ⟨upd_ne fun z => hji (h.dj j i b hb (z ▸ ha)), (ky.there b hb).2⟩
      generalize fps j = g at ky dis
      cases ky with
      | non => exact .non
      | val r => exact .val (r.mono t)
      | own al z => exact .own (al.mono t dis) z
      | bor al w z => exact .bor (al.mono t dis) w z
  · show (if j = i then fp' else fps j).Nodup
    split
    · exact nd
    · exact h.nd j
  · have hj' : b ∈ (if j = i then fp' else fps j) := hj
    have hl' : b ∈ (if l = i then fp' else fps l) := hl
    have cross : ∀ {j}, b ∈ fp' → b ∈ fps j → j = i := fun {j} h1 h2 => (sub b h1).elim (fun q => h.dj j i b h2 q) fun q => absurd h2 (q.2 j)
    split at hj'
    · split at hl'
      · rename_i z1 z2; exact z1.trans z2.symm
      · rename_i z1 z2; exact absurd (cross hj' hl') z2
    · split at hl'
      · rename_i z1 z2; exact absurd (cross hl' hj') z1
      · exact h.dj j l b hj' hl'
  · have ne : b ≠ a := fun z => by
      subst z
      rcases ok.2 with z | z | z
      · exact n (h.zf b z).1
      · exact n (h.bf i b z)
      · rw [z] at q; cases q
    rw [upd_ne ne]
    exact h.frame b u n q
  · show (if j = i then fp' else fps j) = []
    split
    · rename_i z; subst z; simp at hj; omega
    · exact h.out j (by simpa using hj)
end
/-- v stands at the place; it may be written there -/
def PlcOk (K : PySem.W.Frag) (C : Ctx) (fps : Nat → List Addr) (ρ : En) (S : Own) (σ : L2.St) (H : Hp) (v : V) (p : Plc) : Prop :=
  ∃ fc, Al K S H p.lv v p.d fc ∧ fc.Nodup ∧ (∀ b ∈ fc, ∃ i, b ∈ fps i) ∧ ∀ a o d' fc', a ∈ fc → Al K S (L2.upd H a o) p.lv v d' fc' → fc'.Nodup → (∀ b ∈ fc', b ∈ fc ∨ ((C.Z b ∨ C.H0 b = none) ∧ ∀ j, b ∉ fps j)) → Sim K C (p.rb d') S σ (L2.upd H a o)
def plN (i : Nat) : PlM := fun ρ => match ρ[i]? with
  | some (some (m, d)) => some ⟨m.lv, d, fun d' => ρ.set i (some (m, d'))⟩
  | _ => none
/-- the child of a container at a key; with another one there -/
def setC : D → D → D → D
  | .tup (_ :: ds), _, c => .tup (c :: ds)
  | .lst ds, .int i, c => match ixN ds.length i with | some j => .lst (ds.set j c) | none => .lst ds
  | .dic ks, k, c => match keyOf k with | some k => .dic (modD ks k c) | none => .dic ks
  | d, _, _ => d
def childC : D → D → Option D
  | .tup (d :: _), .int i => if i = 0 then some d else none
  | .lst ds, .int i => atI ds i
  | .dic ks, k => (keyOf k).bind (valD ks)
  | _, _ => none
def plK (P : PlM) (kf : EM (Nat × D)) : PlM := fun ρ => match P ρ with
  | some ⟨n + 1, d, rb⟩ => (match kf ρ with
    | .ok (_, kd) _ => (match childC d kd with | some c => some ⟨n, c, fun c' => rb (setC d kd c')⟩ | none => none)
    | _ => none)
  | _ => none
section
variable (K : PySem.W.Frag) (mg : Str → Option Value)
/-- st: the place is the same whatever becomes of the rest -/
def tP (st : Bool) (P : PlM) : TE := fun σ H Q => ∃ C ρ S, Sim K C ρ S σ H ∧ match P ρ with
  | some _ => ∀ v H', Sim K C ρ S σ H' → Same H H' → (∀ fps ρ2 S2 H2, SimF K C fps ρ2 S2 σ H2 → (st = true ∨ (ρ2 = ρ ∧ S2 = S ∧ Same H' H2)) → ∀ p, P ρ2 = some p → PlcOk K C fps ρ2 S2 σ H2 v p) → Q v H'
  | none => False
end
section
variable {X : Cx} {W : WX} {p q : Bool}
theorem plcN_ok {K : PySem.W.Frag} {C : Ctx} {i : Nat} {fps : Nat → List Addr} {ρ : En} {S : Own} {σ : L2.St} {H : Hp} {v : V} (s : SimF K C fps ρ S σ H) (ev : σ[i]? = some (some v)) {pl : Plc} (e : plN i ρ = some pl) : PlcOk K C fps ρ S σ H v pl := by
  unfold plN at e
  split at e
  · rename_i m d em
    cases e
    obtain ⟨w, ew, al⟩ := s.slot em
    rw [ev] at ew; cases ew
    exact ⟨fps i, al, s.nd i, fun b hb => ⟨i, hb⟩, fun a o d' fc' ha al' nd' sub => s.upd em ev ha al' nd' sub⟩
  · cases e
theorem l_name (i : Nat) {x : Str} {pos : Pos} (hN : X.N[i]? = some x := by rfl) (hv : Vis X.env.scope x := by first | exact Or.inl rfl | exact Or.inr (Or.inl rfl) | exact Or.inr (Or.inr rfl)) (hd : (x == ("__debug__" : Str)) = false := by decide)
    (hcd : (x == ("__classdict__" : Str)) = false := by decide) : PE X (.Name x pos) (tP X.K true (plN i)) := peI (pe_var (i := i) hN hv hd hcd) fun σ H Q h => by
  obtain ⟨C, ρ, S, ⟨fps, s⟩, h⟩ := h
  cases e : plN i ρ with
  | none => rw [e] at h; exact h.elim
  | some pl =>
    rw [e] at h
    have e' := e
    unfold plN at e'
    split at e'
    · rename_i m d em
      obtain ⟨v, ev, al⟩ := s.slot em
      exact ⟨v, ev, h v H ⟨fps, s⟩ (Same.refl _) fun fps2 ρ2 S2 H2 s2 _ pl2 e2 => plcN_ok s2 ev e2⟩
    · cases e'
/-- a child of a container: its footprint within; another child put there -/
theorem Als.child {K : PySem.W.Frag} {S : Own} {H : Hp} {n : Nat} : ∀ {vs : List V} {ds : List D} {F : List Addr} {j : Nat} {c : D}, Als K S H n vs ds F → ds[j]? = some c → F.Nodup →
    ∃ v fc, vs[j]? = some v ∧ Al K S H n v c fc ∧ fc.Nodup ∧ (∀ b ∈ fc, b ∈ F) ∧ ∀ a o c' fc', a ∈ fc → S a → Al K S (upd H a o) n v c' fc' → fc'.Nodup → (∀ b ∈ fc', b ∈ fc ∨ b ∉ F) → ∃ F', Als K S (upd H a o) n vs (ds.set j c') F' ∧ F'.Nodup ∧ ∀ b ∈ F', b ∈ F ∨ b ∈ fc'
  | _, _, _, _, _, .nil, e, _ => by simp at e
  | _, _, _, 0, c, .cons (v := v) (vs := vs) (f := f) (g := g) r q, e, nd => by
    simp at e; subst e
    obtain ⟨n1, n2, n3⟩ := List.nodup_append.mp nd
    refine ⟨v, f, rfl, r, n1, fun b hb => List.mem_append_left _ hb, fun a o c' fc' ha hs al nd' sub => ⟨fc' ++ g, .cons al (q.mono (.write hs) fun b hb => ⟨upd_ne fun z => n3 a ha b hb z.symm, (q.there b hb).2⟩), ?_, fun b hb => ?_⟩⟩
    · refine List.nodup_append.mpr ⟨nd', n2, fun x hx y hy z => ?_⟩
      subst z
      exact (sub x hx).elim (fun w => n3 x w x hy rfl) fun w => w (List.mem_append_right _ hy)
    · rcases List.mem_append.mp hb with hb | hb
      · exact .inr hb
      · exact .inl (List.mem_append_right _ hb)
  | _, _, _, j + 1, c, .cons (d := d) (f := f) (g := g) r q, e, nd => by
    obtain ⟨n1, n2, n3⟩ := List.nodup_append.mp nd
    obtain ⟨v, fc, ev, al, ndc, hsub, up⟩ := Als.child q (by simpa using e) n2
    refine ⟨v, fc, by simpa using ev, al, ndc, fun b hb => List.mem_append_right _ (hsub b hb), fun a o c' fc' ha hs al' nd' sub => ?_⟩
    obtain ⟨F', h1, h2, h3⟩ := up a o c' fc' ha hs al' nd' fun b hb => (sub b hb).imp id fun w z => w (List.mem_append_right _ z)
    refine ⟨f ++ F', .cons (r.mono (.write hs) fun b hb => ⟨upd_ne fun z => n3 b hb a (hsub a ha) z, (r.there b hb).2⟩) h1, ?_, fun b hb => ?_⟩
    · refine List.nodup_append.mpr ⟨n1, h2, fun x hx y hy z => ?_⟩
      subst z
      rcases h3 x hy with w | w
      · exact n3 x hx x w rfl
      · exact (sub x w).elim (fun w => n3 x hx x (hsub x w) rfl) fun w => w (List.mem_append_left _ hx)
    · rcases List.mem_append.mp hb with hb | hb
      · exact .inl (List.mem_append_left _ hb)
      · exact (h3 b hb).imp (List.mem_append_right _) id
theorem AlKs.child {K : PySem.W.Frag} {S : Own} {H : Hp} {n : Nat} : ∀ {vs : List (Key × V)} {ds : List (Key × D)} {F : List Addr} {k : Key} {c : D}, AlKs K S H n vs ds F → valD ds k = some c → F.Nodup →
    ∃ v fc, valV vs k = some v ∧ Al K S H n v c fc ∧ fc.Nodup ∧ (∀ b ∈ fc, b ∈ F) ∧ ∀ a o c' fc', a ∈ fc → S a → Al K S (upd H a o) n v c' fc' → fc'.Nodup → (∀ b ∈ fc', b ∈ fc ∨ b ∉ F) → ∃ F', AlKs K S (upd H a o) n vs (modD ds k c') F' ∧ F'.Nodup ∧ ∀ b ∈ F', b ∈ F ∨ b ∈ fc'
  | _, _, _, _, _, .nil, e, _ => by simp [valD] at e
  | _, _, _, k, c, .cons (k := k') (v := v) (vs := vs) (d := d) (ds := ds) (f := f) (g := g) r q, e, nd => by
    obtain ⟨n1, n2, n3⟩ := List.nodup_append.mp nd
    by_cases hk : k' = k
    · have e' : d = c := by simpa [valD, hk] using e
      subst e'
      refine ⟨v, f, by simp [valV, hk], r, n1, fun b hb => List.mem_append_left _ hb, fun a o c' fc' ha hs al nd' sub => ⟨fc' ++ g, ?_, ?_, fun b hb => ?_⟩⟩
      · have : modD ((k', d) :: ds) k c' = (k', c') :: ds := by simp [modD, hk]
        rw [this]
        exact .cons al (q.mono (.write hs) fun b hb => ⟨upd_ne fun z => n3 a ha b hb z.symm, (q.there b hb).2⟩)
      · refine List.nodup_append.mpr ⟨nd', n2, fun x hx y hy z => ?_⟩
        subst z
        exact (sub x hx).elim (fun w => n3 x w x hy rfl) fun w => w (List.mem_append_right _ hy)
      · rcases List.mem_append.mp hb with hb | hb
        · exact .inr hb
        · exact .inl (List.mem_append_right _ hb)
    · have e1 : valV ((k', v) :: vs) k = valV vs k := by simp [valV, List.find?_cons, hk]
      have e2 : valD ((k', d) :: ds) k = valD ds k := by simp [valD, List.find?_cons, hk]
      rw [e2] at e
      obtain ⟨w, fc, ev, al, ndc, hsub, up⟩ := AlKs.child q e n2
      refine ⟨w, fc, by rw [e1]; exact ev, al, ndc, fun b hb => List.mem_append_right _ (hsub b hb), fun a o c' fc' ha hs al' nd' sub => ?_⟩
      obtain ⟨F', h1, h2, h3⟩ := up a o c' fc' ha hs al' nd' fun b hb => (sub b hb).imp id fun w z => w (List.mem_append_right _ z)
      refine ⟨f ++ F', ?_, ?_, fun b hb => ?_⟩
      · have : modD ((k', d) :: ds) k c' = (k', d) :: modD ds k c' := by simp [modD, hk]
        rw [this]
        exact .cons (r.mono (.write hs) fun b hb => ⟨upd_ne fun z => n3 b hb a (hsub a ha) z, (r.there b hb).2⟩) h1
      · refine List.nodup_append.mpr ⟨n1, h2, fun x hx y hy z => ?_⟩
        subst z
        rcases h3 x hy with w | w
        · exact n3 x hx x w rfl
        · exact (sub x w).elim (fun w => n3 x hx x (hsub x w) rfl) fun w => w (List.mem_append_left _ hx)
      · rcases List.mem_append.mp hb with hb | hb
        · exact .inl (List.mem_append_left _ hb)
        · exact (h3 b hb).imp (List.mem_append_right _) id
end
end VL

namespace VL
open PySem PySem.Spec PyProof.Rows L2
section
variable {K : PySem.W.Frag} {C : Ctx} {fps : Nat → List Addr} {ρ : En} {S : Own} {σ : L2.St} {H : Hp}
/-- a child of a place -/
theorem plc_dic {v w : V} {n : Nat} {ks : List (Key × D)} {rb : D → En} {k : Key} {kd c : D} (ek : keyOf kd = some k) (h : PlcOk K C fps ρ S σ H v ⟨n + 1, .dic ks, rb⟩) (ec : valD ks k = some c) : ∃ a vs, v = .ref a ∧ H a = some (.dK vs) ∧ ∃ w, valV vs k = some w ∧ PlcOk K C fps ρ S σ H w ⟨n, c, fun c' => rb (setC (.dic ks) kd c')⟩ := by
  obtain ⟨fc, al, nd, hin, up⟩ := h
  cases al with
  | fl f _ => cases f
  | @dic n a vs ds F hs e q =>
    obtain ⟨na, nF⟩ := List.nodup_cons.mp nd
    obtain ⟨w, fw, ew, aw, ndw, sw, uw⟩ := q.child ec nF
    refine ⟨a, vs, rfl, e, w, ew, fw, aw, ndw, fun b hb => hin b (List.mem_cons_of_mem _ (sw b hb)), fun a' o d' fc' ha al' nd' sub => ?_⟩
    have nin : ∀ b, (∀ j, b ∉ fps j) → b ∉ a :: F := fun b hj hb => let ⟨i, z⟩ := hin b hb; hj i z
    have hsa' : S a' := (aw.there a' ha).2
    obtain ⟨F', h1, h2, h3⟩ := uw a' o d' fc' ha hsa' al' nd' fun b hb => (sub b hb).imp id fun z y => nin b z.2 (List.mem_cons_of_mem _ y)
    have ne : a ≠ a' := fun z => na (by rw [z]; exact sw a' ha)
    have es : setC (.dic ks) kd d' = .dic (modD ks k d') := by simp [setC, ek]
    show Sim K C (rb (setC (.dic ks) kd d')) S σ (upd H a' o)
    rw [es]
    refine up a' o _ (a :: F') (List.mem_cons_of_mem _ (sw a' ha)) (.dic hs (by rw [upd_ne ne]; exact e) h1) (List.nodup_cons.mpr ⟨fun z => ?_, h2⟩) fun b hb => ?_
    · rcases h3 a z with y | y
      · exact na y
      · rcases sub a y with y | y
        · exact na (sw a y)
        · exact nin a y.2 List.mem_cons_self
    · rcases List.mem_cons.mp hb with rfl | hb
      · exact .inl List.mem_cons_self
      · rcases h3 b hb with y | y
        · exact .inl (List.mem_cons_of_mem _ y)
        · exact (sub b y).imp (fun z => List.mem_cons_of_mem _ (sw b z)) id
theorem plc_lst {v w : V} {n : Nat} {ds : List D} {rb : D → En} {i : Int} {c : D} (h : PlcOk K C fps ρ S σ H v ⟨n + 1, .lst ds, rb⟩) (ec : atI ds i = some c) : ∃ a vs, v = .ref a ∧ H a = some (.lst vs) ∧ ∃ w, atI vs i = some w ∧ PlcOk K C fps ρ S σ H w ⟨n, c, fun c' => rb (setC (.lst ds) (.int i) c')⟩ := by
  obtain ⟨fc, al, nd, hin, up⟩ := h
  cases al with
  | fl f _ => cases f
  | @lst n a vs ds F hs e q =>
    obtain ⟨na, nF⟩ := List.nodup_cons.mp nd
    unfold atI at ec
    obtain ⟨j, ej, ec⟩ := Option.bind_eq_some_iff.mp ec
    obtain ⟨w, fw, ew, aw, ndw, sw, uw⟩ := q.child ec nF
    refine ⟨a, vs, rfl, e, w, by unfold atI; rw [q.length, ej]; exact ew, fw, aw, ndw, fun b hb => hin b (List.mem_cons_of_mem _ (sw b hb)), fun a' o d' fc' ha al' nd' sub => ?_⟩
    have nin : ∀ b, (∀ j, b ∉ fps j) → b ∉ a :: F := fun b hj hb => let ⟨i, z⟩ := hin b hb; hj i z
    have hsa' : S a' := (aw.there a' ha).2
    obtain ⟨F', h1, h2, h3⟩ := uw a' o d' fc' ha hsa' al' nd' fun b hb => (sub b hb).imp id fun z y => nin b z.2 (List.mem_cons_of_mem _ y)
    have ne : a ≠ a' := fun z => na (by rw [z]; exact sw a' ha)
    have es : setC (.lst ds) (.int i) d' = .lst (ds.set j d') := by simp [setC, ej]
    show Sim K C (rb (setC (.lst ds) (.int i) d')) S σ (upd H a' o)
    rw [es]
    refine up a' o _ (a :: F') (List.mem_cons_of_mem _ (sw a' ha)) (.lst hs (by rw [upd_ne ne]; exact e) h1) (List.nodup_cons.mpr ⟨fun z => ?_, h2⟩) fun b hb => ?_
    · rcases h3 a z with y | y
      · exact na y
      · rcases sub a y with y | y
        · exact na (sw a y)
        · exact nin a y.2 List.mem_cons_self
    · rcases List.mem_cons.mp hb with rfl | hb
      · exact .inl List.mem_cons_self
      · rcases h3 b hb with y | y
        · exact .inl (List.mem_cons_of_mem _ y)
        · exact (sub b y).imp (fun z => List.mem_cons_of_mem _ (sw b z)) id
theorem plc_tup {v : V} {n : Nat} {d : D} {ds : List D} {rb : D → En} {kd : D} (h : PlcOk K C fps ρ S σ H v ⟨n + 1, .tup (d :: ds), rb⟩) : ∃ a w vs, v = .ref a ∧ Rd H a (.tup (w :: vs)) ∧ PlcOk K C fps ρ S σ H w ⟨n, d, fun c' => rb (setC (.tup (d :: ds)) kd c')⟩ := by
  obtain ⟨fc, al, nd, hin, up⟩ := h
  cases al with
  | fl f _ => cases f
  | tup hs rd q g =>
    rename_i a w vs
    refine ⟨a, w, vs, rfl, rd, fc, q, nd, hin, fun a' o d' fc' ha al' nd' sub => ?_⟩
    have hsa' : S a' := (q.there a' ha).2
    show Sim K C (rb (.tup (d' :: ds))) S σ (upd H a' o)
    have t : Tr S H S (upd H a' o) := .write hsa'
    exact up a' o _ fc' ha (.tup hs (t.keep _ _ trivial hs rd) al' (g.mono t)) nd' sub
theorem rdT_same {H' : Hp} {a : Addr} {vs ws : List V} (h : Rd H a (.tup vs)) (s : Same H H') (g : Rd H' a (.tup ws)) : vs = ws := by
  rcases h with h | ⟨o, h⟩
  · have h' := s a _ h
    rcases g with g | ⟨o', g⟩
    · rw [h'] at g; cases g; rfl
    · rw [h'] at g; cases g
  · have h' := s a _ h
    rcases g with g | ⟨o', g⟩
    · rw [h'] at g; cases g
    · rw [h'] at g; cases g; rfl
end
section
variable {X : Cx} {W : WX} {p q st : Bool} {P : PlM} {kf : EM (Nat × D)}
theorem l_sub {o k : Expr} {pos : Pos} (hu : X.A.units + 1 < cLine) (ho : PE X o (tP X.K st P)) (hk : PE X k (tE X.K X.mg W true kf)) (hs : ∀ o i, subscripted k false o i = operate [o, i] (getItem o i) := by intro _ _; rfl) : PE X (.Subscript o k pos) (tP X.K false (plK P kf)) :=
  peI (pe_or (pe_or (pe_dget hu ho hk hs) (pe_ix ix_list ho hk hs)) (pe_ix ix_tup ho hk hs)) fun σ H Q h => by
  obtain ⟨C, ρ, S, sim, h⟩ := h
  cases e : plK P kf ρ with
  | none => rw [e] at h; exact h.elim
  | some pl =>
  rw [e] at h
  dsimp only at h
  have e' := e
  unfold plK at e'
  split at e'
  case h_2 => cases e'
  case h_1 n d rb eP =>
  split at e'
  case h_2 => cases e'
  case h_1 m kd ρ' ek =>
  split at e'
  case h_2 => cases e'
  case h_1 c ec =>
  cases e'
  cases d with
  | dic ks =>
    refine .inl (.inl ?_)
    obtain ⟨k', ek', ec'⟩ := Option.bind_eq_some_iff.mp ec
    refine ⟨C, ρ, S, sim, ?_⟩
    rw [eP]
    intro v H1 s1 sm1 pl1
    refine ⟨C, ρ, S, s1, ?_⟩
    rw [ek]
    intro y S2 H2 fp2 s2 m2 c2 a2
    have e2 : ρ' = ρ := c2 rfl
    subst e2
    obtain ⟨rfl, sm2⟩ := m2.2 rfl
    obtain rfl := a2.key ek'
    obtain ⟨fps2, s2'⟩ := id s2
    obtain ⟨a, vs, rfl, ea, w, ew, pc⟩ := plc_dic (w := .non) ek' (pl1 fps2 ρ' S2 H2 s2' (.inr ⟨rfl, rfl, sm2⟩) _ eP) ec'
    refine ⟨a, w, rfl, .inl ⟨vs, k', .inl ea, rfl, ew.symm⟩, h w H2 s2 (sm1.trans sm2) fun fps3 ρ3 S3 H3 s3 cond p3 ep3 => ?_⟩
    rcases cond with z | ⟨rfl, rfl, sm3⟩
    · cases z
    obtain ⟨a', vs', ea1, ea', w', ew', pc'⟩ := plc_dic (w := .non) ek' (pl1 fps3 ρ3 S3 H3 s3 (.inr ⟨rfl, rfl, sm2.trans sm3⟩) _ eP) ec'
    cases ea1
    have := sm3 a _ ea
    rw [this] at ea'
    cases ea'
    rw [ew] at ew'
    cases ew'
    rw [e] at ep3
    cases ep3
    exact pc'
  | lst ds =>
    refine .inl (.inr ?_)
    cases kd with
    | int i =>
      refine ⟨C, ρ, S, sim, ?_⟩
      rw [eP]
      intro v H1 s1 sm1 pl1
      refine ⟨C, ρ, S, s1, ?_⟩
      rw [ek]
      intro y S2 H2 fp2 s2 m2 c2 a2
      have e2 : ρ' = ρ := c2 rfl
      subst e2
      obtain ⟨rfl, sm2⟩ := m2.2 rfl
      obtain ⟨_, rfl⟩ := a2.int
      obtain ⟨fps2, s2'⟩ := id s2
      obtain ⟨a, vs, rfl, ea, w, ew, pc⟩ := plc_lst (w := .non) (pl1 fps2 ρ' S2 H2 s2' (.inr ⟨rfl, rfl, sm2⟩) _ eP) ec
      refine ⟨a, vs, i, w, rfl, rfl, .inl (.inl ea), ew, h w H2 s2 (sm1.trans sm2) fun fps3 ρ3 S3 H3 s3 cond p3 ep3 => ?_⟩
      rcases cond with z | ⟨rfl, rfl, sm3⟩
      · cases z
      obtain ⟨a', vs', ea1, ea', w', ew', pc'⟩ := plc_lst (w := .non) (pl1 fps3 ρ3 S3 H3 s3 (.inr ⟨rfl, rfl, sm2.trans sm3⟩) _ eP) ec
      cases ea1
      have := sm3 a _ ea
      rw [this] at ea'
      cases ea'
      rw [ew] at ew'
      cases ew'
      rw [e] at ep3
      cases ep3
      exact pc'
    | _ => simp [childC] at ec
  | tup ds =>
    refine .inr ?_
    cases ds with
    | nil => simp [childC] at ec
    | cons d0 ds =>
    cases kd with
    | int i =>
      simp only [childC] at ec
      split at ec
      case isFalse => cases ec
      case isTrue hi0 =>
      subst hi0
      cases ec
      refine ⟨C, ρ, S, sim, ?_⟩
      rw [eP]
      intro v H1 s1 sm1 pl1
      refine ⟨C, ρ, S, s1, ?_⟩
      rw [ek]
      intro y S2 H2 fp2 s2 m2 c2 a2
      have e2 : ρ' = ρ := c2 rfl
      subst e2
      obtain ⟨rfl, sm2⟩ := m2.2 rfl
      obtain ⟨_, rfl⟩ := a2.int
      obtain ⟨fps2, s2'⟩ := id s2
      obtain ⟨a, w, vs, rfl, rd, pc⟩ := plc_tup (kd := .int 0) (pl1 fps2 ρ' S2 H2 s2' (.inr ⟨rfl, rfl, sm2⟩) _ eP)
      refine ⟨a, w :: vs, 0, w, rfl, rfl, .inl rd, by simp [atI, ixN], h w H2 s2 (sm1.trans sm2) fun fps3 ρ3 S3 H3 s3 cond p3 ep3 => ?_⟩
      rcases cond with z | ⟨rfl, rfl, sm3⟩
      · cases z
      obtain ⟨a', w', vs', ea1, rd', pc'⟩ := plc_tup (kd := .int 0) (pl1 fps3 ρ3 S3 H3 s3 (.inr ⟨rfl, rfl, sm2.trans sm3⟩) _ eP)
      cases ea1
      have := rdT_same rd sm3 rd'
      cases this
      rw [e] at ep3
      cases ep3
      exact pc'
    | _ => simp [childC] at ec
  | _ => simp [childC] at ec

/-! ### what is done at a place -/
def appC (n : Nat) (y : D) : D → Option D
  | .lst ds => if ds.length < sizeLine then some (.lst (ds ++ [y])) else none
  | _ => none
/-- P.append(e), e of n fresh layers -/
def sApp (n : Nat) (P : PlM) (f : EM D) : SM := fun ρ => match P ρ with
  | some ⟨_, .lst _, _⟩ => f.s (fun y ρ1 => match P ρ1 with
    | some ⟨m + 1, d, rb⟩ => if m = n then (match appC n y d with | some d' => .nx (rb d') | none => .bad) else .bad
    | _ => .bad) ρ
  | _ => .bad
theorem w_app {n r : Nat} {o e : Expr} {f : EM D} {apos cpos pos : Pos} (ho : PE X o (tP X.K true P)) (he : PE X e (tN X.K X.mg W n f)) (hb : attributeBase o "append" X.env (eval o X.env) = eval o X.env := by rfl)
    (hfew : ((backTo cpos (starEach (e :: []) X.env)).all (fun x => !x.1) && (backToKw cpos (keywordEach [] X.env)).all (fun x => x.1.isSome)
      && decide ((e :: []).length + ([] : List Keyword).length + (if ([] : List Keyword).isEmpty then 0 else 1) < 30)) = true := by rfl)
    (hline : (apos.endLine == cpos.line) = true := by rfl) (hs : starEach (e :: []) X.env = (false, eval e X.env) :: starEach [] X.env := by rfl) (hplain : (backTo cpos (starEach [] X.env)).any (·.1) = false := by rfl)
    (hsw : swapsWith (.Call (.Attribute o "append" apos) [e] [] cpos) none pos.line X.env = pure false := by rfl) : PS X (.Expr (.Call (.Attribute o "append" apos) [e] [] cpos) pos) (tS X.K X.mg W r (sApp n P f)) :=
  psI (ps_expr (pe_bm PySem.F.plainAttrs_list PySem.F.slot_list_append PySem.F.type_list_append mt_append ho (pa_cons he pa_nil hs) hb hfew hline hs hplain) hsw) fun Dn σ H h => by
  obtain ⟨C, ρ, S, sim, h⟩ := h
  unfold sApp at h
  split at h
  case h_2 => exact h.elim
  case h_1 lv0 ds0 rb0 eP0 =>
  refine ⟨C, ρ, S, sim, ?_⟩
  rw [eP0]
  intro v H1 s1 sm1 pl
  obtain ⟨fps1, s1'⟩ := id s1
  obtain ⟨fc0, al0, _⟩ := pl fps1 ρ S H1 s1' (.inl rfl) _ eP0
  obtain ⟨a0, vs0, F0, ev0, sq0, _⟩ := al0.list
  subst ev0
  refine ⟨.inl ⟨rfl, vs0, sq0⟩, ?_⟩
  refine tN_s s1 h ?_
  intro y ρ1 w S2 H2 fps fp _ h s2 t2 al nd z
  split at h
  case h_2 => exact h.elim
  case h_1 m d rb eP =>
  split at h
  case isFalse => exact h.elim
  case isTrue hm =>
  subst hm
  split at h
  case h_2 => exact h.elim
  case h_1 d' ed =>
  obtain ⟨fc, alp, ndc, hin, up⟩ := pl fps ρ1 S2 H2 s2 (.inl rfl) _ eP
  unfold appC at ed
  split at ed
  case h_2 => cases ed
  case h_1 ds =>
  split at ed
  case isFalse => cases ed
  case isTrue hl =>
  cases ed
  cases alp with
  | fl f _ => cases f
  | @lst _ a vs _ F hS ea q =>
    obtain ⟨na, nF⟩ := List.nodup_cons.mp ndc
    have dis : ∀ b ∈ fp, b ∉ a0 :: F := fun b hb hm => let ⟨i, q⟩ := hin b hm; (z b hb).2 i q
    refine ⟨a0, vs, w, rfl, rfl, ea, by rw [q.length]; exact hl, ?_⟩
    have tw : Tr S2 H2 S2 (upd H2 a0 (.lst (vs ++ [w]))) := .write hS
    refine h σ S2 _ (up a0 _ (.lst (ds ++ [y])) (a0 :: (F ++ fp)) List.mem_cons_self (.lst hS upd_same (Als.snoc (q.mono tw fun b hb => ⟨upd_ne fun e => na (e ▸ hb), (q.there b hb).2⟩) (al.mono tw fun b hb => ⟨upd_ne fun e => dis b hb (by rw [e]; exact List.mem_cons_self), (al.there b hb).2⟩))) ?_ fun b hb => ?_)
    · refine List.nodup_cons.mpr ⟨fun y => ?_, List.nodup_append.mpr ⟨nF, nd, fun x hx y hy e => dis y hy (by rw [← e]; exact List.mem_cons_of_mem _ hx)⟩⟩
      rcases List.mem_append.mp y with y | y
      · exact na y
      · exact dis a0 y List.mem_cons_self
    · rcases List.mem_cons.mp hb with rfl | hb
      · exact .inl List.mem_cons_self
      · rcases List.mem_append.mp hb with hb | hb
        · exact .inl (List.mem_cons_of_mem _ hb)
        · exact .inr (z b hb)
end
end VL

namespace VL
open PySem PySem.Spec PyProof.Rows L2
section
variable {K : PySem.W.Frag} {S : Own} {H : Hp}
theorem RepKs.hasIff {vs : List (Key × V)} {ks : List (Key × D)} (h : RepKs K S H vs ks) (k : Key) : (vs.any fun kv => decide (kv.1 = k)) = hasD ks k := by
  have e := h.length.2
  have a : (vs.any fun kv => decide (kv.1 = k)) = (vs.map (·.1)).any fun x => decide (x = k) := by simp [List.any_map, Function.comp_def]
  have b : hasD ks k = (ks.map (·.1)).any fun x => decide (x = k) := by simp [hasD, List.any_map, Function.comp_def]
  rw [a, b, e]
theorem AlKs.hasIff {n : Nat} {vs : List (Key × V)} {ks : List (Key × D)} {F : List Addr} (h : AlKs K S H n vs ks F) (k : Key) : (vs.any fun kv => decide (kv.1 = k)) = hasD ks k := by
  have e := h.length.2
  have a : (vs.any fun kv => decide (kv.1 = k)) = (vs.map (·.1)).any fun x => decide (x = k) := by simp [List.any_map, Function.comp_def]
  have b : hasD ks k = (ks.map (·.1)).any fun x => decide (x = k) := by simp [hasD, List.any_map, Function.comp_def]
  rw [a, b, e]
theorem RepKs.mapPut {k : Key} {w : V} {y : D} (r : Rep K S H w y) : ∀ {vs : List (Key × V)} {ks : List (Key × D)}, RepKs K S H vs ks → RepKs K S H (vs.map fun kv => if kv.1 = k then (kv.1, w) else kv) (ks.map fun kv => if kv.1 = k then (kv.1, y) else kv)
  | _, _, .nil => .nil
  | _, _, .cons (k := k') (v := v) (vs := vs) (d := d) (ds := ds) r' q => by
    by_cases e : k' = k
    · simp only [List.map_cons, e, if_pos]; exact .cons r (RepKs.mapPut r q)
    · simp only [List.map_cons, e, if_neg, if_false]; exact .cons r' (RepKs.mapPut r q)
theorem RepKs.append {vs ws : List (Key × V)} {ks ls : List (Key × D)} (h : RepKs K S H vs ks) (g : RepKs K S H ws ls) : RepKs K S H (vs ++ ws) (ks ++ ls) := by
  induction vs generalizing ks with
  | nil => cases h; exact g
  | cons v vs ih => cases h with | cons r q => exact .cons r (ih q)
theorem RepKs.put {vs : List (Key × V)} {ks : List (Key × D)} {k : Key} {w : V} {y : D} (h : RepKs K S H vs ks) (r : Rep K S H w y) : RepKs K S H (putK vs k w) (putD ks k y) := by
  unfold putK putD
  rw [h.hasIff k]
  split
  · exact h.mapPut r
  · exact h.append (.cons r .nil)
theorem AlKs.snoc {n : Nat} : ∀ {vs : List (Key × V)} {ds : List (Key × D)} {F : List Addr} {k : Key} {v : V} {d : D} {f : List Addr}, AlKs K S H n vs ds F → Al K S H n v d f → AlKs K S H n (vs ++ [(k, v)]) (ds ++ [(k, d)]) (F ++ f)
  | _, _, _, k, v, d, f, .nil, a => by
    have := AlKs.cons (k := k) a (AlKs.nil (K := K) (S := S) (H := H) (n := n))
    simpa using this
  | _, _, _, k, v, d, f, .cons (k := k') b q, a => by
    have := AlKs.cons (k := k') b (AlKs.snoc (k := k) q a)
    simpa [List.append_assoc] using this
theorem AlKs.drop {n : Nat} {k : Key} : ∀ {vs : List (Key × V)} {ds : List (Key × D)} {F : List Addr}, AlKs K S H n vs ds F → F.Nodup → ∃ F', AlKs K S H n (dropK vs k) (dropD ds k) F' ∧ F'.Nodup ∧ ∀ b ∈ F', b ∈ F
  | _, _, _, .nil, _ => ⟨[], .nil, .nil, fun _ z => z⟩
  | _, _, _, .cons (k := k') (v := v) (vs := vs) (d := d) (ds := ds) (f := f) (g := g) a q, nd => by
    obtain ⟨n1, n2, n3⟩ := List.nodup_append.mp nd
    obtain ⟨F', h1, h2, h3⟩ := AlKs.drop (k := k) q n2
    by_cases e : k' = k
    · refine ⟨F', ?_, h2, fun b hb => List.mem_append_right _ (h3 b hb)⟩
      simpa [dropK, dropD, e] using h1
    · refine ⟨f ++ F', ?_, List.nodup_append.mpr ⟨n1, h2, fun x hx y hy z => n3 x hx y (h3 y hy) z⟩, fun b hb => (List.mem_append.mp hb).elim (List.mem_append_left _) fun z => List.mem_append_right _ (h3 b z)⟩
      have e1 : dropK ((k', v) :: vs) k = (k', v) :: dropK vs k := by simp [dropK, e]
      have e2 : dropD ((k', d) :: ds) k = (k', d) :: dropD ds k := by simp [dropD, e]
      rw [e1, e2]
      exact .cons a h1
theorem Reps.setAt {w : V} {y : D} (r : Rep K S H w y) : ∀ {vs : List V} {ds : List D} (j : Nat), Reps K S H vs ds → Reps K S H (vs.set j w) (ds.set j y)
  | _, _, _, .nil => .nil
  | _, _, 0, .cons a q => .cons r q
  | _, _, j + 1, .cons a q => .cons a (Reps.setAt r j q)
end
def putC (n : Nat) (kd y : D) : D → Option D
  | .lst ds => (match kd with
    | .int i => if n = 0 then (ixN ds.length i).map fun j => .lst (ds.set j y) else none
    | _ => none)
  | .dic ks => (keyOf kd).bind fun k => if ks.length < sizeLine ∧ (n = 0 ∨ hasD ks k = false) then some (.dic (putD ks k y)) else none
  | _ => none
/-- P[k] = e -/
def sPut (n : Nat) (P : PlM) (kf : EM (Nat × D)) (f : EM D) : SM := f.s fun y ρ => match P ρ with
  | some ⟨m + 1, d, rb⟩ => if m = n then (match kf ρ with
    | .ok (_, kd) _ => (match putC n kd y d with | some d' => .nx (rb d') | none => .bad)
    | _ => .bad) else .bad
  | _ => .bad
def delC (kd : D) : D → Option (D × D)
  | .dic ks => (keyOf kd).bind fun k => (valD ks k).map fun v => (v, .dic (dropD ks k))
  | _ => none
/-- del P[k], of a dict -/
def sDel (P : PlM) (kf : EM (Nat × D)) : SM := fun ρ => match P ρ with
  | some ⟨m + 1, d, rb⟩ => (match kf ρ with
    | .ok (_, kd) _ => (match delC kd d with | some d' => .nx (rb d'.2) | none => .bad)
    | _ => .bad)
  | _ => .bad
/-- P.pop(k), of a dict: what stood there is shared -/
def ePopD (P : PlM) (kf : EM (Nat × D)) : EM (Nat × D) := fun ρ => match P ρ with
  | some ⟨1, d, rb⟩ => (match kf ρ with
    | .ok (_, kd) _ => (match delC kd d with | some d' => .ok (0, d'.1) (rb d'.2) | none => .bad)
    | _ => .bad)
  | _ => .bad
/-- .. as a statement, whatever stood there -/
def sPopD (P : PlM) (kf : EM (Nat × D)) : SM := sDel P kf
section
variable {X : Cx} {W : WX} {p q st : Bool} {P : PlM} {kf : EM (Nat × D)} {n r : Nat}
theorem PSet.or {t t' : TSet} (h : PSet X t) (g : PSet X t') : PSet X (fun o i v H Q => t o i v H Q ∨ t' o i v H Q) := fun p s σ H o i v ov iv u Q I r1 r2 r3 z => z.elim (h p s σ H o i v ov iv u Q I r1 r2 r3) (g p s σ H o i v ov iv u Q I r1 r2 r3)
theorem w_put {o k e : Expr} {f : EM D} {pos pos' : Pos} (hu : X.A.units + 1 < cLine) (he : PE X e (tN X.K X.mg W n f)) (ho : PE X o (tP X.K st P)) (hk : PE X k (tE X.K X.mg W true kf))
    (ha : ∀ v, assign (.Subscript o k pos') X.env v = (do
      let ov ← holding [v] (eval o X.env)
      let iv ← holding [v, ov] (eval k X.env)
      standAt pos'
      holding [v, ov, iv] (setItem ov iv v)
      release [v, ov, iv] []) := by intro _; rfl)
    (hs : swapsWithSole [.Subscript o k pos'] e pos.line X.env = pure false := by rfl) (hw : swappedStores [.Subscript o k pos'] e X.env = pure none := by rfl)
    (h1 : (assignEach [.Subscript o k pos'] X.env).map (·.2) = [assign (.Subscript o k pos') X.env] := by rfl) :
    PS X (.Assign [.Subscript o k pos'] e pos) (tS X.K X.mg W r (sPut n P kf f)) :=
  psI (ps_asg he (pg_sub ho hk (PSet.or set_list (set_dict hu)) ha) hs hw h1) fun Dn σ H h => by
  obtain ⟨C, ρ, S, sim, h⟩ := h
  refine tN_s sim h ?_
  clear h
  intro y ρ1 w S1 H1 fps fp _ h s1 t1 al nd z
  split at h
  case h_2 => exact h.elim
  case h_1 m d rb eP =>
  split at h
  case isFalse => exact h.elim
  case isTrue hm =>
  subst hm
  split at h
  case h_2 => exact h.elim
  case h_1 kl kd ρ' ek =>
  split at h
  case h_2 => exact h.elim
  case h_1 d' ed =>
  refine ⟨C, ρ1, S1, ⟨fps, s1⟩, ?_⟩
  rw [eP]
  intro v H2 s2 sm2 pl
  refine ⟨C, ρ1, S1, s2, ?_⟩
  rw [ek]
  intro kv S3 H3 fp3 s3 m3 c3 a3
  have e3 : ρ' = ρ1 := c3 rfl
  subst e3
  obtain ⟨rfl, sm3⟩ := m3.2 rfl
  have sm := sm2.trans sm3
  have s4 := s1.same sm
  have al4 := al.same sm
  obtain ⟨fc, alp, ndc, hin, up⟩ := pl fps ρ' S3 H3 s4 (.inr ⟨rfl, rfl, sm3⟩) _ eP
  have dis : ∀ b ∈ fp, b ∉ fc := fun b hb hm => let ⟨i, q⟩ := hin b hm; (z b hb).2 i q
  cases d with
  | lst ds =>
    cases kd with
    | int i =>
      simp only [putC] at ed
      split at ed
      case isFalse => cases ed
      case isTrue hn =>
      subst hn
      obtain ⟨j, ej, rfl⟩ := Option.map_eq_some_iff.mp ed
      obtain ⟨_, rfl⟩ := a3.int
      cases alp with
      | fl f _ => cases f
      | @lst _ a vs _ F hS ea q =>
        obtain ⟨rq, rfl⟩ := q.rep
        have tw : Tr S3 H3 S3 (upd H3 a (.lst (vs.set j w))) := .write hS
        refine .inl ⟨a, vs, i, j, rfl, rfl, ea, by rw [rq.length]; exact ej, h σ S3 _ (up a _ (.lst (ds.set j y)) [a] List.mem_cons_self (.lst hS upd_same (Als.zero (Reps.setAt ((Rep.zero al4).mono tw) j (rq.mono tw)))) (by simp) fun b hb => .inl hb)⟩
    | _ => simp [putC] at ed
  | dic ks =>
    simp only [putC] at ed
    obtain ⟨k', ek', ed⟩ := Option.bind_eq_some_iff.mp ed
    split at ed
    case isFalse => cases ed
    case isTrue hc =>
    cases ed
    obtain rfl := a3.key ek'
    cases alp with
    | fl f _ => cases f
    | @dic _ a vs _ F hS ea q =>
      have tw : Tr S3 H3 S3 (upd H3 a (.dK (putK vs k' w))) := .write hS
      refine .inr ⟨a, _, rfl, .inl ⟨vs, k', ea, rfl, by rw [q.length.1]; exact hc.1, rfl⟩, ?_⟩
      obtain ⟨na, nF⟩ := List.nodup_cons.mp ndc
      rcases hc.2 with hn | hn
      · subst hn
        obtain ⟨rq, rfl⟩ := q.rep
        exact h σ S3 _ (up a _ (.dic (putD ks k' y)) [a] List.mem_cons_self (.dic hS upd_same (AlKs.zero ((rq.mono tw).put ((Rep.zero al4).mono tw)))) (by simp) fun b hb => .inl hb)
      · have e1 : putK vs k' w = vs ++ [(k', w)] := by
          unfold putK
          rw [q.hasIff k', hn, if_neg Bool.false_ne_true]
        have e2 : putD ks k' y = ks ++ [(k', y)] := by
          unfold putD
          rw [hn, if_neg Bool.false_ne_true]
        rw [e2] at h
        rw [e1] at tw ⊢
        refine h σ S3 _ (up a _ (.dic (ks ++ [(k', y)])) (a :: (F ++ fp)) List.mem_cons_self (.dic hS upd_same (AlKs.snoc (q.mono tw fun b hb => ⟨upd_ne fun e => na (e ▸ hb), (q.there b hb).2⟩) (al4.mono tw fun b hb => ⟨upd_ne fun e => dis b hb (by rw [e]; exact List.mem_cons_self), (al4.there b hb).2⟩))) ?_ fun b hb => ?_)
        · refine List.nodup_cons.mpr ⟨fun y => ?_, List.nodup_append.mpr ⟨nF, nd, fun x hx y hy e => dis y hy (by rw [← e]; exact List.mem_cons_of_mem _ hx)⟩⟩
          rcases List.mem_append.mp y with y | y
          · exact na y
          · exact dis a y List.mem_cons_self
        · rcases List.mem_cons.mp hb with rfl | hb
          · exact .inl List.mem_cons_self
          · rcases List.mem_append.mp hb with hb | hb
            · exact .inl (List.mem_cons_of_mem _ hb)
            · exact .inr (z b hb)
  | _ => simp [putC] at ed
/-- the place and its key, looked at; then the entry goes -/
theorem plc_del {K : PySem.W.Frag} {C : Ctx} {fps : Nat → List Addr} {ρ : En} {S : Own} {σ : L2.St} {H : Hp} {v : V} {m : Nat} {d d' : D} {dv : D} {rb : D → En} {kd : D} (h : PlcOk K C fps ρ S σ H v ⟨m + 1, d, rb⟩) (ed : delC kd d = some (dv, d')) :
    ∃ a vs k w f, v = .ref a ∧ H a = some (.dK vs) ∧ keyOf kd = some k ∧ valV vs k = some w ∧ Al K S H m w dv f ∧ S a ∧ Sim K C (rb d') S σ (upd H a (.dK (dropK vs k))) := by
  cases d with
  | dic ks =>
    simp only [delC] at ed
    obtain ⟨k, ek, ed⟩ := Option.bind_eq_some_iff.mp ed
    obtain ⟨v', ev, ed⟩ := Option.map_eq_some_iff.mp ed
    cases ed
    obtain ⟨fc, alp, ndc, hin, up⟩ := h
    cases alp with
    | fl f _ => cases f
    | @dic _ a vs _ F hS ea q =>
      obtain ⟨na, nF⟩ := List.nodup_cons.mp ndc
      rcases q.val (k := k) with ⟨_, z⟩ | ⟨w, d0, f, e1, e2, al⟩
      · rw [z] at ev; cases ev
      · rw [e2] at ev; cases ev
        have tw : Tr S H S (upd H a (.dK (dropK vs k))) := .write hS
        have q2 : AlKs K S (upd H a (.dK (dropK vs k))) m vs ks F := q.mono tw fun b hb => ⟨upd_ne fun e => na (e ▸ hb), (q.there b hb).2⟩
        obtain ⟨F', h1, h2, h3⟩ := q2.drop (k := k) nF
        exact ⟨a, vs, k, w, f, rfl, ea, ek, e1, al, hS, up a _ _ (a :: F') List.mem_cons_self (.dic hS upd_same h1) (List.nodup_cons.mpr ⟨fun z => na (h3 a z), h2⟩) fun b hb => .inl ((List.mem_cons.mp hb).elim (fun e => by rw [e]; exact List.mem_cons_self) fun z => List.mem_cons_of_mem _ (h3 b z))⟩
  | _ => simp [delC] at ed
theorem w_del {o k : Expr} {tpos pos : Pos} (ho : PE X o (tP X.K st P)) (hk : PE X k (tE X.K X.mg W true kf)) : PS X (.Delete [.Subscript o k tpos] pos) (tS X.K X.mg W r (sDel P kf)) := psI (ps_ddel ho hk) fun Dn σ H h => by
  obtain ⟨C, ρ, S, sim, h⟩ := h
  unfold sDel at h
  split at h
  case h_2 => exact h.elim
  case h_1 m d rb eP =>
  split at h
  case h_2 => exact h.elim
  case h_1 kl kd ρ' ek =>
  split at h
  case h_2 => exact h.elim
  case h_1 d' ed =>
  refine ⟨C, ρ, S, sim, ?_⟩
  rw [eP]
  intro v H2 s2 sm2 pl
  refine ⟨C, ρ, S, s2, ?_⟩
  rw [ek]
  intro kv S3 H3 fp3 s3 m3 c3 a3
  have e3 : ρ' = ρ := c3 rfl
  subst e3
  obtain ⟨rfl, sm3⟩ := m3.2 rfl
  obtain ⟨fps, s3⟩ := s3
  obtain ⟨dv, dd⟩ := d'
  obtain ⟨a, vs, k', w, f, rfl, ea, ek', ew, al, hS, s5⟩ := plc_del (pl fps ρ' S3 H3 s3 (.inr ⟨rfl, rfl, sm3⟩) _ eP) ed
  obtain rfl := a3.key ek'
  exact ⟨a, vs, k', rfl, ea, rfl, by rw [ew]; rfl, h σ S3 _ s5⟩
theorem w_popD {o k : Expr} {apos cpos pos : Pos} (ho : PE X o (tP X.K st P)) (hk : PE X k (tE X.K X.mg W true kf)) (m1 : M1 X o "pop" apos k cpos := by exact ⟨rfl, rfl, rfl⟩) (hsw : swapsWith (.Call (.Attribute o "pop" apos) [k] [] cpos) none pos.line X.env = pure false := by rfl) :
    PS X (.Expr (.Call (.Attribute o "pop" apos) [k] [] cpos) pos) (tS X.K X.mg W r (sPopD P kf)) := psI (ps_expr (pe_dpop1 ho hk m1) hsw) fun Dn σ H h => by
  obtain ⟨C, ρ, S, sim, h⟩ := h
  unfold sPopD sDel at h
  split at h
  case h_2 => exact h.elim
  case h_1 m d rb eP =>
  split at h
  case h_2 => exact h.elim
  case h_1 kl kd ρ' ek =>
  split at h
  case h_2 => exact h.elim
  case h_1 d' ed =>
  refine ⟨C, ρ, S, sim, ?_⟩
  rw [eP]
  intro v H2 s2 sm2 pl
  obtain ⟨fps2, s2'⟩ := id s2
  obtain ⟨dv, dd⟩ := d'
  obtain ⟨a, vs, k0, w0, f0, rfl, ea0, _⟩ := plc_del (pl fps2 ρ S H2 s2' (.inr ⟨rfl, rfl, Same.refl _⟩) _ eP) ed
  refine ⟨a, rfl, .inl ⟨vs, .inl ea0⟩, C, ρ, S, s2, ?_⟩
  rw [ek]
  intro kv S3 H3 fp3 s3 m3 c3 a3
  have e3 : ρ' = ρ := c3 rfl
  subst e3
  obtain ⟨rfl, sm3⟩ := m3.2 rfl
  obtain ⟨fps, s3⟩ := s3
  obtain ⟨a', vs', k', w, f, e1, ea, ek', ew, al, hS, s5⟩ := plc_del (pl fps ρ' S3 H3 s3 (.inr ⟨rfl, rfl, sm3⟩) _ eP) ed
  cases e1
  obtain rfl := a3.key ek'
  exact ⟨vs', k', w, ea, rfl, ew, h σ S3 _ s5⟩
/-! ### empty displays, of any number of layers -/
def nDic0 : EM D := fun ρ => .ok (.dic []) ρ
def nLst0 : EM D := fun ρ => .ok (.lst []) ρ
theorem n_dic0 {pos : Pos} : PE X (.Dict [] [] pos) (tN X.K X.mg W (n + 1) nDic0) := peI pe_dnewK fun σ H Q h => by
  obtain ⟨C, ρ, S, ⟨fps, s⟩, h⟩ := h
  intro t ht
  obtain ⟨s2, np, h0⟩ := s.fresh (o := .dK []) ht
  refine h (.ref t) _ _ fps [t] s2 (.fresh ht) (.dic (.inr rfl) upd_same .nil) (by simp) fun b hb => ?_
  have e : b = t := by simpa using hb
  subst e
  exact ⟨.inr h0, np⟩
theorem n_lst0 {pos : Pos} : PE X (.List [] pos) (tN X.K X.mg W (n + 1) nLst0) := peI (pe_lst pa_nil) fun σ H Q h => by
  obtain ⟨C, ρ, S, ⟨fps, s⟩, h⟩ := h
  refine ⟨Nat.zero_le _, fun t ht => ?_⟩
  obtain ⟨s2, np, h0⟩ := s.fresh (o := .lst []) ht
  refine h (.ref t) _ _ fps [t] s2 (.fresh ht) (.lst (.inr rfl) upd_same .nil) (by simp) fun b hb => ?_
  have e : b = t := by simpa using hb
  subst e
  exact ⟨.inr h0, np⟩
end
end VL

namespace VL
open PySem PySem.Spec PyProof.Rows L2

/-! ## operators, all kinds of operands -/
section
variable {X : Cx}
def rCatR : R2 := fun x y H Q => ∃ l b xs zs, x = .ref l ∧ y = .ref b ∧ Rd H l (.lst xs) ∧ Rd H b (.lst zs) ∧ xs.length + zs.length ≤ sizeLine ∧ ∀ p, H p = none → Q (.ref p) (upd H p (.lst (xs ++ zs)))
theorem op_catR : OpR X (binaryOp .Add) rCatR := by
  intro pins s σ H x y v u Q I rx ry h
  obtain ⟨l, b, xs, zs, rfl, rfl, h1, h2, hz, q⟩ := h
  cases rx
  cases ry
  obtain ⟨_, i1, n1, r1, e1⟩ := h1.ok I.hok
  obtain ⟨_, i2, n2, r2, e2⟩ := h2.ok I.hok
  have l1 := r1.length
  have l2 := r2.length
  refine PySem.P.add_list e1 e2 ?_ (by rw [List.size_toArray, List.size_toArray]; omega)
  rw [show i1.toArray ++ i2.toArray = (i1 ++ i2).toArray by simp]
  exact ⟨.ref _, _, I.lnew (t' := s.toks) (r1.append r2) (by rw [List.length_append]; exact hz), rfl, q _ I.fresh⟩
end
def dAdd (n : Nat) (a : D) (m : Nat) (b : D) : Option D := match a, b with
  | .int i, .int j => some (.int (i + j))
  | .str x, .str y => if x.length + y.length ≤ sizeLine then some (.str (x ++ y)) else none
  | .tup xs, .tup ys => if n = 0 ∧ m = 0 ∧ xs.length + ys.length ≤ sizeLine then some (.tup (xs ++ ys)) else none
  | .lst xs, .lst ys => if n ≤ 1 ∧ m ≤ 1 ∧ xs.length + ys.length ≤ sizeLine then some (.lst (xs ++ ys)) else none
  | _, _ => none
section
variable {X : Cx} {K : PySem.W.Frag}
abbrev rAddX (K : PySem.W.Frag) : R2 := fun x y H Q => (rI0 (fun i j => .int (i + j)) x y H Q ∨ (∃ i j, x = .str i ∧ y = .str j ∧ i.length + j.length ≤ sizeLine ∧ Q (.str (i ++ j)) H)) ∨ (rCatA K x y H Q ∨ rCatR x y H Q)
theorem o_add : OpR X (binaryOp .Add) (rAddX X.K) := OpR.or (OpR.or op_add op_add_str) (OpR.or op_catA op_catR)
theorem opv_add : OpV K (rAddX K) dAdd := by
  intro S H x y n m a b d f f' Q sd a1 a2 e k
  unfold dAdd at e
  split at e
  · exact .inl (.inl (opv_i0 (g := fun i j => .int (i + j)) (fun _ _ _ _ => .int _) S H x y n m _ _ d f f' Q sd a1 a2 (by simpa [dI0] using e) k))
  · exact .inl (.inr (opv_catS S H x y n m _ _ d f f' Q sd a1 a2 (by simpa [dCatS] using e) k))
  · exact .inr (.inl (opv_catT S H x y n m _ _ d f f' Q sd a1 a2 (by simpa [dCatT] using e) k))
  · split at e
    case isFalse => cases e
    case isTrue hc =>
    cases e
    obtain ⟨l, vs, F, rfl, r1, q1, _⟩ := a1.listR
    obtain ⟨l2, ws, G, rfl, r2, q2, _⟩ := a2.listR
    have p1 := q1.reps hc.1
    have p2 := q2.reps hc.2.1
    refine .inr (.inr ⟨l, l2, vs, ws, rfl, rfl, r1, r2, by rw [p1.length, p2.length]; exact hc.2.2, fun p hp => ?_⟩)
    have sm : Same H (upd H p (.lst (vs ++ ws))) := same_upd' hp
    exact k _ _ sm (.lst ⟨fun z => sd p z hp, .inl upd_same⟩ ((p1.append p2).mono (.same sm)))
  · cases e
def dSub := dI0 fun i j => .int (i - j)
def dMul (_ : Nat) (a : D) (_ : Nat) (b : D) : Option D := match a, b with
  | .int i, .int j => if i.natAbs.log2 + j.natAbs.log2 < 1000000 then some (.int (i * j)) else none
  | _, _ => none
def dDiv (_ : Nat) (a : D) (_ : Nat) (b : D) : Option D := match a, b with
  | .int i, .int j => if 0 < j ∧ j.natAbs.log2 < 9000 then some (.int (i / j)) else none
  | _, _ => none
def dMod (_ : Nat) (a : D) (_ : Nat) (b : D) : Option D := match a, b with
  | .int i, .int j => if 0 < j then some (.int (i % j)) else none
  | _, _ => none
theorem opv_sub : OpV K (rI0 fun i j => .int (i - j)) dSub := opv_i0 fun _ _ _ _ => .int _
theorem opv_mul : OpV K (rI CMulW fun i j => .int (i * j)) dMul := by
  intro S H x y n m a b d f f' Q sd a1 a2 e k
  unfold dMul at e
  split at e
  · obtain ⟨_, rfl⟩ := a1.int
    obtain ⟨_, rfl⟩ := a2.int
    split at e
    · cases e
      exact ⟨_, _, rfl, rfl, by assumption, k _ H (Same.refl _) (.int _)⟩
    · cases e
  · cases e
theorem opv_div : OpV K (rI CDivW fun i j => .int (i / j)) dDiv := by
  intro S H x y n m a b d f f' Q sd a1 a2 e k
  unfold dDiv at e
  split at e
  · obtain ⟨_, rfl⟩ := a1.int
    obtain ⟨_, rfl⟩ := a2.int
    split at e
    · cases e
      exact ⟨_, _, rfl, rfl, by assumption, k _ H (Same.refl _) (.int _)⟩
    · cases e
  · cases e
theorem opv_mod : OpV K (rI (fun _ j => 0 < j) fun i j => .int (i % j)) dMod := by
  intro S H x y n m a b d f f' Q sd a1 a2 e k
  unfold dMod at e
  split at e
  · obtain ⟨_, rfl⟩ := a1.int
    obtain ⟨_, rfl⟩ := a2.int
    split at e
    · cases e
      exact ⟨_, _, rfl, rfl, by assumption, k _ H (Same.refl _) (.int _)⟩
    · cases e
  · cases e
/-- order of ints and of texts -/
def sLt (a b : Str) : Bool := decide (a.cps.toList < b.cps.toList)
def dLt (_ : Nat) (a : D) (_ : Nat) (b : D) : Option D := match a, b with
  | .int i, .int j => some (.bl (decide (i < j)))
  | .str i, .str j => some (.bl (sLt i j))
  | _, _ => none
def dLe (_ : Nat) (a : D) (_ : Nat) (b : D) : Option D := match a, b with
  | .int i, .int j => some (.bl (decide (i ≤ j)))
  | .str i, .str j => some (.bl (!sLt j i))
  | _, _ => none
def dGt (_ : Nat) (a : D) (_ : Nat) (b : D) : Option D := match a, b with
  | .int i, .int j => some (.bl (decide (j < i)))
  | .str i, .str j => some (.bl (sLt j i))
  | _, _ => none
def dGe (_ : Nat) (a : D) (_ : Nat) (b : D) : Option D := match a, b with
  | .int i, .int j => some (.bl (decide (j ≤ i)))
  | .str i, .str j => some (.bl (!sLt i j))
  | _, _ => none
theorem opv_is {gi : Int → Int → Bool} {gs : Str → Str → Bool} {op : Nat → D → Nat → D → Option D} (hop : ∀ n a m b, op n a m b = match a, b with | .int i, .int j => some (.bl (gi i j)) | .str i, .str j => some (.bl (gs i j)) | _, _ => none) :
    OpV K (fun x y H Q => rI0 (fun i j => .bl (gi i j)) x y H Q ∨ ∃ i j, x = .str i ∧ y = .str j ∧ Q (.bl (gs i j)) H) op := by
  intro S H x y n m a b d f f' Q sd a1 a2 e k
  rw [hop] at e
  split at e
  · exact .inl (opv_i0 (g := fun i j => .bl (gi i j)) (fun _ _ _ _ => .bl _) S H x y n m _ _ d f f' Q sd a1 a2 (by simpa [dI0] using e) k)
  · exact .inr (opv_ss (g := fun i j => .bl (gs i j)) (fun _ _ _ _ => .bl _) S H x y n m _ _ d f f' Q sd a1 a2 (by simpa [dSS] using e) k)
  · cases e
theorem o_lt : OpR X (compareOp .Lt) (fun x y H Q => rI0 (fun i j => .bl (decide (i < j))) x y H Q ∨ ∃ i j, x = .str i ∧ y = .str j ∧ Q (.bl (sLt i j)) H) := OpR.or op_lt op_lt_str
theorem o_le : OpR X (compareOp .LtE) (fun x y H Q => rI0 (fun i j => .bl (decide (i ≤ j))) x y H Q ∨ ∃ i j, x = .str i ∧ y = .str j ∧ Q (.bl (!sLt j i)) H) := OpR.or op_le op_le_str
theorem o_gt : OpR X (compareOp .Gt) (fun x y H Q => rI0 (fun i j => .bl (decide (j < i))) x y H Q ∨ ∃ i j, x = .str i ∧ y = .str j ∧ Q (.bl (sLt j i)) H) := OpR.or op_gt op_gt_str
theorem o_ge : OpR X (compareOp .GtE) (fun x y H Q => rI0 (fun i j => .bl (decide (j ≤ i))) x y H Q ∨ ∃ i j, x = .str i ∧ y = .str j ∧ Q (.bl (!sLt i j)) H) := OpR.or op_ge op_ge_str
theorem opv_lt : OpV K (fun x y H Q => rI0 (fun i j => .bl (decide (i < j))) x y H Q ∨ ∃ i j, x = .str i ∧ y = .str j ∧ Q (.bl (sLt i j)) H) dLt := opv_is (gi := fun i j => decide (i < j)) fun n a m b => by unfold dLt; cases a <;> cases b <;> rfl
theorem opv_le : OpV K (fun x y H Q => rI0 (fun i j => .bl (decide (i ≤ j))) x y H Q ∨ ∃ i j, x = .str i ∧ y = .str j ∧ Q (.bl (!sLt j i)) H) dLe := opv_is (gi := fun i j => decide (i ≤ j)) (gs := fun i j => !sLt j i) fun n a m b => by unfold dLe; cases a <;> cases b <;> rfl
theorem opv_gt : OpV K (fun x y H Q => rI0 (fun i j => .bl (decide (j < i))) x y H Q ∨ ∃ i j, x = .str i ∧ y = .str j ∧ Q (.bl (sLt j i)) H) dGt := opv_is (gi := fun i j => decide (j < i)) (gs := fun i j => sLt j i) fun n a m b => by unfold dGt; cases a <;> cases b <;> rfl
theorem opv_ge : OpV K (fun x y H Q => rI0 (fun i j => .bl (decide (j ≤ i))) x y H Q ∨ ∃ i j, x = .str i ∧ y = .str j ∧ Q (.bl (!sLt i j)) H) dGe := opv_is (gi := fun i j => decide (j ≤ i)) (gs := fun i j => !sLt i j) fun n a m b => by unfold dGe; cases a <;> cases b <;> rfl
/-- == and != -/
theorem o_eq (hu : X.A.units + 66 < cLine) : OpR X (compareOp .Eq) (fun x y H Q => rEqD X.K x y H Q ∨ rEqX X.K false x y H Q) := OpR.or (op_eqD (by omega)) (op_eqX hu)
theorem o_ne (hu : X.A.units + 66 < cLine) : OpR X (compareOp .NotEq) (fun x y H Q => rNeD X.K x y H Q ∨ rEqX X.K true x y H Q) := OpR.or (op_neD (by omega)) (op_neX hu)
theorem AlKs.rep0 {S : Own} {H : Hp} {n : Nat} {vs : List (Key × V)} {ds : List (Key × D)} {F : List Addr} (h : AlKs K S H n vs ds F) : RepKs K (fun _ => False) H vs ds := h.freeze (fun _ z => z.elim) fun _ _ z => z
theorem eqP_cases {a b : D} {r : Bool} (e : eqP a b = some r) : ∃ p q, toPy a = some p ∧ toPy b = some q ∧ SeqAt.shaped p = true ∧ SeqAt.shaped q = true ∧ r = PyData.eqv p q := by
  unfold eqP at e
  obtain ⟨p, e1, e⟩ := Option.bind_eq_some_iff.mp e
  obtain ⟨q, e2, e⟩ := Option.bind_eq_some_iff.mp e
  split at e
  · rename_i h
    cases e
    exact ⟨p, q, e1, e2, h.1, h.2, rfl⟩
  · cases e
theorem eqD_cases {n m : Nat} {a b d : D} (e : eqD n a m b = some d) : (∃ ks ls, a = .dic ks ∧ b = .dic ls ∧ ∃ r, (ks.length = ls.length → hitsD ls ks = some r) ∧ d = .bl (ks.length == ls.length && r)) ∨ ∃ r, eqP a b = some r ∧ d = .bl r := by
  unfold eqD at e
  split at e
  · rename_i ks ls
    left
    refine ⟨ks, ls, rfl, rfl, ?_⟩
    split at e
    · rename_i hl
      obtain ⟨r, e1, rfl⟩ := Option.map_eq_some_iff.mp e
      exact ⟨r, fun _ => e1, by simp [hl]⟩
    · rename_i hl
      cases e
      exact ⟨true, fun z => absurd z hl, by simp [hl]⟩
  · obtain ⟨r, e1, rfl⟩ := Option.map_eq_some_iff.mp e
    exact .inr ⟨r, e1, rfl⟩
theorem opv_eq : OpV K (fun x y H Q => rEqD K x y H Q ∨ rEqX K false x y H Q) eqD := by
  intro S H x y n m a b d f f' Q sd a1 a2 e k
  rcases eqD_cases e with ⟨ks, ls, rfl, rfl, r, h1, rfl⟩ | ⟨r, h1, rfl⟩
  · obtain ⟨l, vs, F, rfl, r1, q1⟩ := a1.dict
    obtain ⟨l2, ws, G, rfl, r2, q2⟩ := a2.dict
    exact .inr ⟨l, l2, vs, ws, ks, ls, r, rfl, rfl, r1, r2, q1.rep0, q2.rep0, h1, k _ H (Same.refl _) (by simp; exact .bl _)⟩
  · obtain ⟨p, q, e1, e2, s1, s2, rfl⟩ := eqP_cases h1
    exact .inl ⟨p, q, a1.dp e1, a2.dp e2, s1, s2, k _ H (Same.refl _) (.bl _)⟩
theorem opv_ne : OpV K (fun x y H Q => rNeD K x y H Q ∨ rEqX K true x y H Q) neD := by
  intro S H x y n m a b d f f' Q sd a1 a2 e k
  unfold neD at e
  split at e
  case h_2 => cases e
  case h_1 c e0 =>
  cases e
  rcases eqD_cases e0 with ⟨ks, ls, rfl, rfl, r, h1, h2⟩ | ⟨r, h1, h2⟩
  · cases h2
    obtain ⟨l, vs, F, rfl, r1, q1⟩ := a1.dict
    obtain ⟨l2, ws, G, rfl, r2, q2⟩ := a2.dict
    exact .inr ⟨l, l2, vs, ws, ks, ls, r, rfl, rfl, r1, r2, q1.rep0, q2.rep0, h1, k _ H (Same.refl _) (by rw [Bool.true_bne]; exact .bl _)⟩
  · cases h2
    obtain ⟨p, q, e1, e2, s1, s2, rfl⟩ := eqP_cases h1
    exact .inl ⟨p, q, a1.dp e1, a2.dp e2, s1, s2, k _ H (Same.refl _) (.bl _)⟩
def D.isNon : D → Bool
  | .non => true
  | _ => false
/-- x is None -/
def dIsN (neg : Bool) (_ : Nat) (a : D) (_ : Nat) (b : D) : Option D := match b with
  | .non => some (.bl (neg != a.isNon))
  | _ => none
theorem Al.isN {S : Own} {H : Hp} {n : Nat} {v : V} {d : D} {f : List Addr} (h : Al K S H n v d f) : decide (v = .non) = d.isNon := by
  cases h with
  | zero r => cases r <;> simp [D.isNon]
  | fl _ r => cases r <;> simp [D.isNon]
  | tup => simp [D.isNon]
  | lst => simp [D.isNon]
  | dic => simp [D.isNon]
theorem opv_isN : OpV K (fun x y H Q => y = .non ∧ Q (.bl (decide (x = .non))) H) (dIsN false) := by
  intro S H x y n m a b d f f' Q sd a1 a2 e k
  unfold dIsN at e
  split at e
  · cases e
    refine ⟨by obtain rfl := a2.isNon; rfl, k _ H (Same.refl _) ?_⟩
    rw [a1.isN, Bool.false_bne]
    exact .bl _
  · cases e
theorem opv_notN : OpV K (fun x y H Q => y = .non ∧ Q (.bl (!decide (x = .non))) H) (dIsN true) := by
  intro S H x y n m a b d f f' Q sd a1 a2 e k
  unfold dIsN at e
  split at e
  · cases e
    refine ⟨by obtain rfl := a2.isNon; rfl, k _ H (Same.refl _) ?_⟩
    rw [a1.isN, Bool.true_bne]
    exact .bl _
  · cases e
def dNeg : Nat → D → Option D
  | _, .int i => some (.int (-i))
  | _, _ => none
theorem unv_neg : UnV K (rU fun i => .int (-i)) dNeg := by
  intro S H x n a d f Q sd a1 e k
  cases a <;> simp [dNeg] at e
  subst e
  obtain ⟨_, rfl⟩ := a1.int
  exact ⟨_, rfl, k _ H (Same.refl _) (.int _)⟩
end
end VL

namespace VL
open PySem PySem.Spec PyProof.Rows L2

/-! ## in -/
def eqFl : D → D → Bool
  | .non, .non => true
  | .str x, .str y => x == y
  | .int i, .int j => i == j
  | .int i, .bl b => i == (if b then 1 else 0)
  | .bl b, .int j => (if b then 1 else 0) == j
  | .bl a, .bl b => a == b
  | _, _ => false
def inD (neg : Bool) (_ : Nat) (a : D) (_ : Nat) (b : D) : Option D := match b with
  | .dic ks => (keyOf a).map fun k => .bl (neg != (valD ks k).isSome)
  | .lst ds => (toPy a).bind fun p => (toPys ds).bind fun qs => if SeqAt.shaped p = true ∧ SeqAt.shaped (.list qs) = true then some (.bl (neg != qs.any fun z => PyData.eqv z p)) else none
  | .tup ds => if (a.flat && ds.all D.flat) = true then some (.bl (neg != ds.any fun y => eqFl y a)) else none
  | .str j => (match a with
    | .str i => some (.bl (neg != !(Builtin.Str.occurrences j i 0 j.length 1).isEmpty))
    | _ => none)
  | _ => none
section
variable {K : PySem.W.Frag} {S : Own} {H : Hp}
theorem Rep.flatV {v : V} {d : D} (r : Rep K S H v d) (e : d.flat = true) : L2.flatV v = true := by
  cases r <;> first | (cases e; done) | rfl
theorem Rep.eqFl {v u : V} {d e : D} (r : Rep K S H v d) (q : Rep K S H u e) (hd : d.flat = true) (he : e.flat = true) : eqV v u = VL.eqFl d e := by
  cases r <;> first | (cases hd; done) | (cases q <;> first | (cases he; done) | simp [eqV, VL.eqFl] | (simp [eqV, VL.eqFl]; try (cases ‹Bool› <;> rfl)))
theorem Reps.inV {v : V} {d : D} (r : Rep K S H v d) (hd : d.flat = true) : ∀ {vs : List V} {ds : List D}, Reps K S H vs ds → ds.all D.flat = true → vs.all L2.flatV = true ∧ L2.inV v vs = ds.any fun y => VL.eqFl y d
  | _, _, .nil, _ => ⟨rfl, rfl⟩
  | _, _, .cons q t, h => by
    simp only [List.all_cons, Bool.and_eq_true] at h
    obtain ⟨h1, h2⟩ := Reps.inV r hd t h.2
    refine ⟨by simp only [List.all_cons, q.flatV h.1, h1, Bool.and_self], ?_⟩
    unfold L2.inV at h2 ⊢
    simp only [List.any_cons, h2, q.eqFl r h.1 hd]
end
section
variable {X : Cx} {W : WX} {p q : Bool} {f g : EM (Nat × D)}
abbrev rInX (K : PySem.W.Frag) (neg : Bool) (rd : R2) (rs : R2) : R2 := fun x y H Q => (rd x y H Q ∨ rIn K neg x y H Q) ∨ rs x y H Q
theorem o_in (hu : X.A.units + 66 < cLine) : OpR X (compareOp .In) (rInX X.K false (rInD X.K) fun x y H Q => ∃ i j, x = .str i ∧ y = .str j ∧ Q (.bl (!(Builtin.Str.occurrences j i 0 j.length 1).isEmpty)) H) := OpR.or (OpR.or (op_inD (by omega)) op_in_seq) op_in_str
theorem o_notIn (hu : X.A.units + 66 < cLine) : OpR X (compareOp .NotIn) (rInX X.K true (rNotInD X.K) fun x y H Q => ∃ i j, x = .str i ∧ y = .str j ∧ Q (.bl (!(!(Builtin.Str.occurrences j i 0 j.length 1).isEmpty))) H) := OpR.or (OpR.or (op_notInD (by omega)) op_notIn_seq) op_notin_str
/-- what both rules ask, from the mirror -/
theorem in_go {neg : Bool} {r : R2} {td : TE} (hr : ∀ (K : PySem.W.Frag) S H x y n m a b d f f' (Q : VK), K = X.K → (∀ b, S b → H b ≠ none) → Al K S H n x a f → Al K S H m y b f' → (∀ ks, b ≠ .dic ks) → inD neg n a m b = some d → (∀ v H', Same H H' → Rep K S H' v d → Q v H') → r x y H Q)
    {σ : L2.St} {H : Hp} {Q : VK} (h : tE X.K X.mg W (p && q) (eOp q (inD neg) f g) σ H Q) :
    tOp r (tE X.K X.mg W p f) (tE X.K X.mg W q g) σ H Q ∨ (tE X.K X.mg W p f) σ H fun y H1 => (tE X.K X.mg W q g) σ H1 fun x H2 => ∃ a o, x = .ref a ∧ DGet H2 a y o ∧ Q (.bl (neg != o.isSome)) H2 := by
  obtain ⟨C, ρ, S, sim, h⟩ := h
  rcases two (p := p) (q := q) (G := fun z => EOk X.K X.mg C ρ S σ H W (p && q) z Q) sim h id (fun x ρ' z => z) with ⟨n, d, m, e, ρ2, h, go⟩ | go
  · dsimp only at h
    split at h
    case isFalse => exact h.elim
    case isTrue hq =>
    split at h
    case h_2 => exact h.elim
    case h_1 res er =>
    by_cases hd : ∃ ks, e = .dic ks
    · obtain ⟨ks, rfl⟩ := hd
      right
      refine go (fun y x H2 => ∃ a o, x = .ref a ∧ DGet H2 a y o ∧ Q (.bl (neg != o.isSome)) H2) fun x y S1 H1 S2 H2 fp1 fp2 s mv c a1 m2 a2 => ?_
      simp only [inD] at er
      obtain ⟨k, ek, rfl⟩ := Option.map_eq_some_iff.mp er
      obtain rfl := (a1.mv m2 hq).key ek
      obtain ⟨l, vs, F, rfl, rd, al⟩ := a2.dict
      refine ⟨l, valV vs k, rfl, .inl ⟨vs, k, rd, rfl, rfl⟩, ?_⟩
      have es : (valV vs k).isSome = (valD ks k).isSome := by
        rcases al.val (k := k) with ⟨z1, z2⟩ | ⟨w, d', f', z1, z2, _⟩ <;> rw [z1, z2] <;> rfl
      rw [es]
      exact h (.bl _) S2 H2 [] s mv c (.zero (.bl _))
    · left
      refine go (fun x y H2 => r x y H2 Q) fun x y S1 H1 S2 H2 fp1 fp2 s mv c a1 m2 a2 => ?_
      refine hr X.K S2 H2 x y n m d e res fp1 fp2 Q rfl (let ⟨_, z⟩ := s; z.sd) (a1.mv m2 hq) a2 (fun ks z => hd ⟨ks, z⟩) er fun w H3 sm rr => ?_
      exact h w S2 H3 [] (s.same sm) (mv.then sm) c (.zero rr)
  · exact .inl (go fun x y H2 => r x y H2 Q)
theorem in_rule {K : PySem.W.Frag} {neg : Bool} {rd rs : R2} (hrd : ∀ x y H (Q : VK), (∃ d ds, Dp K H x d ∧ Dp K H y (.list ds) ∧ SeqAt.shaped d = true ∧ SeqAt.shaped (.list ds) = true ∧ Q (.bl (neg != ds.any fun z => PyData.eqv z d)) H) → rd x y H Q)
    (hrs : ∀ x y H (Q : VK), (∃ i j, x = .str i ∧ y = .str j ∧ Q (.bl (neg != !(Builtin.Str.occurrences j i 0 j.length 1).isEmpty)) H) → rs x y H Q) (S : Own) (H : Hp) (x y : V) (n m : Nat) (a b d : D) (f f' : List Addr) (Q : VK)
    (a1 : Al K S H n x a f) (a2 : Al K S H m y b f') (hb : ∀ ks, b ≠ .dic ks) (e : inD neg n a m b = some d) (k : ∀ v H', Same H H' → Rep K S H' v d → Q v H') : rInX K neg rd rs x y H Q := by
  cases b with
  | dic ks => exact absurd rfl (hb ks)
  | lst ds =>
    simp only [inD] at e
    obtain ⟨p, e1, e⟩ := Option.bind_eq_some_iff.mp e
    obtain ⟨qs, e2, e⟩ := Option.bind_eq_some_iff.mp e
    split at e
    · rename_i hs
      cases e
      exact .inl (.inl (hrd _ _ _ _ ⟨p, qs, a1.dp e1, a2.dp (by simp [toPy, e2]), hs.1, hs.2, k _ H (Same.refl _) (.bl _)⟩))
    · cases e
  | tup ds =>
    simp only [inD] at e
    split at e
    · rename_i hs
      cases e
      rw [Bool.and_eq_true] at hs
      obtain ⟨l, vs, rfl, sq, _, rp⟩ := a2.tuple
      have rp := rp (.inr hs.2)
      have rx : Rep K S H x a := a1.flat hs.1
      obtain ⟨h1, h2⟩ := Reps.inV rx hs.1 rp hs.2
      refine .inl (.inr ⟨l, vs, rfl, .inr sq, rx.flatV hs.1, h1, ?_⟩)
      have : (if neg = true then !L2.inV x vs else L2.inV x vs) = (neg != ds.any fun y => eqFl y a) := by rw [h2]; cases neg <;> simp
      rw [this]
      exact k _ H (Same.refl _) (.bl _)
    · cases e
  | str j =>
    cases a with
    | str i =>
      simp only [inD, Option.some.injEq] at e
      subst e
      obtain ⟨_, rfl⟩ := a1.str
      obtain ⟨_, rfl⟩ := a2.str
      exact .inr (hrs _ _ _ _ ⟨i, j, rfl, rfl, k _ H (Same.refl _) (.bl _)⟩)
    | _ => simp [inD] at e
  | _ => simp [inD] at e
theorem v_in {a b : Expr} {pos : Pos} (hu : X.A.units + 66 < cLine) (ha : PE X a (tE X.K X.mg W p f)) (hb : PE X b (tE X.K X.mg W q g)) (hm : behindInMarks .In b = false) : PE X (.Compare a [.In] [b] pos) (tE X.K X.mg W (p && q) (eOp q (inD false) f g)) :=
  peI (pe_or (pe_cmpR (o_in hu) ha hb hm) (pe_cmp (pc_din (by omega) ha hb) hm)) fun σ H Q h => by
    refine (in_go (r := rInX X.K false (rInD X.K) fun x y H Q => ∃ i j, x = .str i ∧ y = .str j ∧ Q (.bl (!(Builtin.Str.occurrences j i 0 j.length 1).isEmpty)) H) (td := tC .non) ?_ h).imp id ?_
    · intro K S H x y n m a b d f f' Q eK sd a1 a2 hb e k
      subst eK
      exact in_rule (fun x y H Q z => by simp only [Bool.false_bne] at z; exact z) (fun x y H Q z => by simp only [Bool.false_bne] at z; exact z) S H x y n m a b d f f' Q a1 a2 hb e k
    · intro z
      simp only [Bool.false_bne] at z
      exact z
theorem v_notIn {a b : Expr} {pos : Pos} (hu : X.A.units + 66 < cLine) (ha : PE X a (tE X.K X.mg W p f)) (hb : PE X b (tE X.K X.mg W q g)) (hm : behindInMarks .NotIn b = false) : PE X (.Compare a [.NotIn] [b] pos) (tE X.K X.mg W (p && q) (eOp q (inD true) f g)) :=
  peI (pe_or (pe_cmpR (o_notIn hu) ha hb hm) (pe_cmp (pc_dnotin (by omega) ha hb) hm)) fun σ H Q h => by
    refine (in_go (r := rInX X.K true (rNotInD X.K) fun x y H Q => ∃ i j, x = .str i ∧ y = .str j ∧ Q (.bl (!(!(Builtin.Str.occurrences j i 0 j.length 1).isEmpty))) H) (td := tC .non) ?_ h).imp id ?_
    · intro K S H x y n m a b d f f' Q eK sd a1 a2 hb e k
      subst eK
      exact in_rule (fun x y H Q z => by simp only [Bool.true_bne] at z; exact z) (fun x y H Q z => by simp only [Bool.true_bne] at z; exact z) S H x y n m a b d f f' Q a1 a2 hb e k
    · intro z
      simp only [Bool.true_bne] at z
      exact z
end
end VL

namespace VL
open PySem PySem.Spec PyProof.Rows L2
section
variable {X : Cx} {W : WX} {p q : Bool} {f g : EM (Nat × D)}
theorem tB_of_E {K : PySem.W.Frag} {mg : Str → Option Value} {σ : L2.St} {H : Hp} {Q : Bool → Hp → Prop} (h : tB' K mg W p (eB f) σ H Q) : tE K mg W p f σ H fun x H' => ∃ k, x = .bl k ∧ Q k H' := by
  obtain ⟨C, ρ, S, sim, h⟩ := h
  refine tE_bind (G := fun z => BOk K mg C ρ S σ H W p z Q) sim h id (fun x ρ' z => z) ?_
  intro n d ρ1 v S1 H1 fp1 _ h s1 m1 c1 a1
  split at h
  · rename_i k e
    simp only at e
    subst e
    exact ⟨k, a1.bl.2, h S1 H1 s1 m1 c1⟩
  · exact h.elim
theorem b_in {a b : Expr} {pos : Pos} (hu : X.A.units + 66 < cLine) (ha : PE X a (tE X.K X.mg W p f)) (hb : PE X b (tE X.K X.mg W q g)) (hm : behindInMarks .In b = false) : PT X (.Compare a [.In] [b] pos) (tB' X.K X.mg W (p && q) (eB (eOp q (inD false) f g))) :=
  ptI (pt_or (pt_cmpR (o_in hu) ha hb hm) (pt_cmp (pc_din (by omega) ha hb) hm)) fun σ H Q h => by
    refine (in_go (r := rInX X.K false (rInD X.K) fun x y H Q => ∃ i j, x = .str i ∧ y = .str j ∧ Q (.bl (!(Builtin.Str.occurrences j i 0 j.length 1).isEmpty)) H) (td := tC .non) ?_ (tB_of_E h)).imp id ?_
    · intro K S H x y n m a b d f f' Q eK sd a1 a2 hb e k
      subst eK
      exact in_rule (fun x y H Q z => by simp only [Bool.false_bne] at z; exact z) (fun x y H Q z => by simp only [Bool.false_bne] at z; exact z) S H x y n m a b d f f' Q a1 a2 hb e k
    · intro z
      simp only [Bool.false_bne] at z
      exact z
theorem b_notIn {a b : Expr} {pos : Pos} (hu : X.A.units + 66 < cLine) (ha : PE X a (tE X.K X.mg W p f)) (hb : PE X b (tE X.K X.mg W q g)) (hm : behindInMarks .NotIn b = false) : PT X (.Compare a [.NotIn] [b] pos) (tB' X.K X.mg W (p && q) (eB (eOp q (inD true) f g))) :=
  ptI (pt_or (pt_cmpR (o_notIn hu) ha hb hm) (pt_cmp (pc_dnotin (by omega) ha hb) hm)) fun σ H Q h => by
    refine (in_go (r := rInX X.K true (rNotInD X.K) fun x y H Q => ∃ i j, x = .str i ∧ y = .str j ∧ Q (.bl (!(!(Builtin.Str.occurrences j i 0 j.length 1).isEmpty))) H) (td := tC .non) ?_ (tB_of_E h)).imp id ?_
    · intro K S H x y n m a b d f f' Q eK sd a1 a2 hb e k
      subst eK
      exact in_rule (fun x y H Q z => by simp only [Bool.true_bne] at z; exact z) (fun x y H Q z => by simp only [Bool.true_bne] at z; exact z) S H x y n m a b d f f' Q a1 a2 hb e k
    · intro z
      simp only [Bool.true_bne] at z
      exact z
/-! ### and, or -/
section
variable {bf bg : EM Bool} {a b : Expr} {rest : List Expr} {pos : Pos}
theorem bw_and1 (ha : PT X a (tB' X.K X.mg W p bf)) : PW X (.BoolOp .And [a] pos) (tB' X.K X.mg W p bf) := pw_and1 ha
theorem bw_or1 (ha : PT X a (tB' X.K X.mg W p bf)) : PW X (.BoolOp .Or [a] pos) (tB' X.K X.mg W p bf) := pw_or1 ha
theorem bw_and (ha : PT X a (tB' X.K X.mg W p bf)) (hb : PW X (.BoolOp .And (b :: rest) pos) (tB' X.K X.mg W q bg)) : PW X (.BoolOp .And (a :: b :: rest) pos) (tB' X.K X.mg W (p && q) (bAnd bf bg)) := pwI (pw_and ha hb) fun σ H Q h => by
  obtain ⟨C, ρ, S, sim, h⟩ := h
  refine tB_bind (G := fun z => BOk X.K X.mg C ρ S σ H W (p && q) z Q) sim h id (fun x ρ' z => z) ?_
  intro c ρ1 S1 H1 _ h s1 m1 c1
  cases c with
  | false => exact h S1 H1 s1 ⟨m1.1, fun z => m1.2 (by rw [Bool.and_eq_true] at z; exact z.1)⟩ fun z => c1 (by rw [Bool.and_eq_true] at z; exact z.1)
  | true =>
    refine ⟨C, ρ1, S1, s1, ?_⟩
    cases e : bg ρ1 with
    | ok k ρ2 =>
      simp only [if_true] at h
      rw [e] at h
      intro S2 H2 s2 m2 c2
      refine h S2 H2 s2 (m1.trans m2) fun z => ?_
      rw [Bool.and_eq_true] at z
      exact (c2 z.2).trans (c1 z.1)
    | err x ρ2 => simp only [if_true] at h; rw [e] at h; exact h
    | bad => simp only [if_true] at h; rw [e] at h; exact h.elim
theorem bw_or (ha : PT X a (tB' X.K X.mg W p bf)) (hb : PW X (.BoolOp .Or (b :: rest) pos) (tB' X.K X.mg W q bg)) : PW X (.BoolOp .Or (a :: b :: rest) pos) (tB' X.K X.mg W (p && q) (bOr bf bg)) := pwI (pw_or ha hb) fun σ H Q h => by
  obtain ⟨C, ρ, S, sim, h⟩ := h
  refine tB_bind (G := fun z => BOk X.K X.mg C ρ S σ H W (p && q) z Q) sim h id (fun x ρ' z => z) ?_
  intro c ρ1 S1 H1 _ h s1 m1 c1
  cases c with
  | true => exact h S1 H1 s1 ⟨m1.1, fun z => m1.2 (by rw [Bool.and_eq_true] at z; exact z.1)⟩ fun z => c1 (by rw [Bool.and_eq_true] at z; exact z.1)
  | false =>
    refine ⟨C, ρ1, S1, s1, ?_⟩
    cases e : bg ρ1 with
    | ok k ρ2 =>
      simp only [Bool.false_eq_true, if_false] at h
      rw [e] at h
      intro S2 H2 s2 m2 c2
      refine h S2 H2 s2 (m1.trans m2) fun z => ?_
      rw [Bool.and_eq_true] at z
      exact (c2 z.2).trans (c1 z.1)
    | err x ρ2 => simp only [Bool.false_eq_true, if_false] at h; rw [e] at h; exact h
    | bad => simp only [Bool.false_eq_true, if_false] at h; rw [e] at h; exact h.elim
def eAnd (f g : EM (Nat × D)) : EM (Nat × D) := f.then fun a ρ => match a.2 with | .bl true => g ρ | .bl false => .ok (0, .bl false) ρ | _ => .bad
def eOr (f g : EM (Nat × D)) : EM (Nat × D) := f.then fun a ρ => match a.2 with | .bl false => g ρ | .bl true => .ok (0, .bl true) ρ | _ => .bad
def eNot (f : EM (Nat × D)) : EM (Nat × D) := f.then fun a ρ => match a.2 with | .bl b => .ok (0, .bl (!b)) ρ | _ => .bad
theorem v_one {op} (h : PE X a (tE X.K X.mg W p f)) : PE X (.BoolOp op [a] pos) (tE X.K X.mg W p f) := pe_one h
theorem v_and (ha : PE X a (tE X.K X.mg W p f)) (hb : PE X (.BoolOp .And (b :: rest) pos) (tE X.K X.mg W q g)) : PE X (.BoolOp .And (a :: b :: rest) pos) (tE X.K X.mg W (p && q) (eAnd f g)) := peI (pe_and ha hb) fun σ H Q h => by
  obtain ⟨C, ρ, S, sim, h⟩ := h
  refine tE_bind (G := fun z => EOk X.K X.mg C ρ S σ H W (p && q) z Q) sim h id (fun x ρ' z => z) ?_
  intro n d ρ1 v S1 H1 fp1 _ h s1 m1 c1 a1
  split at h
  · rename_i e
    simp only at e; subst e
    refine ⟨true, a1.bl.2, ?_⟩
    rw [if_pos rfl]
    refine ⟨C, ρ1, S1, s1, ?_⟩
    cases e : g ρ1 with
    | ok k ρ2 =>
      rw [e] at h
      obtain ⟨k1, k2⟩ := k
      intro u S2 H2 fp2 s2 m2 c2 a2
      refine h u S2 H2 fp2 s2 (m1.trans m2) (fun z => ?_) a2
      rw [Bool.and_eq_true] at z
      exact (c2 z.2).trans (c1 z.1)
    | err x ρ2 => rw [e] at h; exact h
    | bad => rw [e] at h; exact h.elim
  · rename_i e
    simp only at e; subst e
    refine ⟨false, a1.bl.2, ?_⟩
    rw [if_neg Bool.false_ne_true]
    exact h _ S1 H1 [] s1 ⟨m1.1, fun z => m1.2 (by rw [Bool.and_eq_true] at z; exact z.1)⟩ (fun z => c1 (by rw [Bool.and_eq_true] at z; exact z.1)) (.zero (.bl _))
  · exact h.elim
theorem v_or (ha : PE X a (tE X.K X.mg W p f)) (hb : PE X (.BoolOp .Or (b :: rest) pos) (tE X.K X.mg W q g)) : PE X (.BoolOp .Or (a :: b :: rest) pos) (tE X.K X.mg W (p && q) (eOr f g)) := peI (L2.pe_or ha hb) fun σ H Q h => by
  obtain ⟨C, ρ, S, sim, h⟩ := h
  refine tE_bind (G := fun z => EOk X.K X.mg C ρ S σ H W (p && q) z Q) sim h id (fun x ρ' z => z) ?_
  intro n d ρ1 v S1 H1 fp1 _ h s1 m1 c1 a1
  split at h
  · rename_i e
    simp only at e; subst e
    refine ⟨false, a1.bl.2, ?_⟩
    rw [if_neg Bool.false_ne_true]
    refine ⟨C, ρ1, S1, s1, ?_⟩
    cases e : g ρ1 with
    | ok k ρ2 =>
      rw [e] at h
      obtain ⟨k1, k2⟩ := k
      intro u S2 H2 fp2 s2 m2 c2 a2
      refine h u S2 H2 fp2 s2 (m1.trans m2) (fun z => ?_) a2
      rw [Bool.and_eq_true] at z
      exact (c2 z.2).trans (c1 z.1)
    | err x ρ2 => rw [e] at h; exact h
    | bad => rw [e] at h; exact h.elim
  · rename_i e
    simp only at e; subst e
    refine ⟨true, a1.bl.2, ?_⟩
    rw [if_pos rfl]
    exact h _ S1 H1 [] s1 ⟨m1.1, fun z => m1.2 (by rw [Bool.and_eq_true] at z; exact z.1)⟩ (fun z => c1 (by rw [Bool.and_eq_true] at z; exact z.1)) (.zero (.bl _))
  · exact h.elim
theorem v_not (ha : PE X a (tE X.K X.mg W p f)) : PE X (.UnaryOp .Not a pos) (tE X.K X.mg W p (eNot f)) := peI (pe_not ha) fun σ H Q h => by
  obtain ⟨C, ρ, S, sim, h⟩ := h
  refine tE_bind (G := fun z => EOk X.K X.mg C ρ S σ H W p z Q) sim h id (fun x ρ' z => z) ?_
  intro n d ρ1 v S1 H1 fp1 _ h s1 m1 c1 a1
  split at h
  · rename_i k e
    simp only at e; subst e
    exact ⟨k, a1.bl.2, h _ S1 H1 [] s1 m1 c1 (.zero (.bl _))⟩
  · exact h.elim
end
/-! ### built-ins -/
def valsOf : List ArgD → Option (List (Nat × D))
  | [] => some []
  | .val n d :: as => (valsOf as).map ((n, d) :: ·)
  | .box _ :: _ => none
inductive AVs (K : PySem.W.Frag) (S : Own) (H : Hp) : List (Nat × D) → List V → Prop
  | nil : AVs K S H [] []
  | cons {n : Nat} {d : D} {v : V} {fp : List Addr} {as : List (Nat × D)} {vs : List V} : Al K S H n v d fp → AVs K S H as vs → AVs K S H ((n, d) :: as) (v :: vs)
theorem avs_of {K : PySem.W.Frag} {S : Own} {H : Hp} {σ : L2.St} : ∀ {as : List ArgD} {vs : List V} {l : List (Nat × D)}, ArgVs K S H σ as vs → valsOf as = some l → AVs K S H l vs
  | _, _, _, .nil, e => by simp [valsOf] at e; subst e; exact .nil
  | _, _, _, .val a q, e => by
    simp only [valsOf] at e
    obtain ⟨l', e1, rfl⟩ := Option.map_eq_some_iff.mp e
    exact .cons a (avs_of q e1)
  | _, _, _, .box _ _, e => by simp [valsOf] at e
/-- a built-in of values -/
def BuV (K : PySem.W.Frag) (r : List V → Hp → VK → Prop) (op : List (Nat × D) → Option D) : Prop := ∀ (S : Own) (H : Hp) (vs : List V) (as : List (Nat × D)) (d : D) (Q : VK), (∀ b, S b → H b ≠ none) → AVs K S H as vs → op as = some d → (∀ v H', Same H H' → Rep K S H' v d → Q v H') → r vs H Q
/-- .. that makes a list -/
def BuL (K : PySem.W.Frag) (r : List V → Hp → VK → Prop) (op : List (Nat × D) → Option (List D)) : Prop := ∀ (S : Own) (H : Hp) (vs : List V) (as : List (Nat × D)) (ds : List D) (Q : VK), (∀ b, S b → H b ≠ none) → AVs K S H as vs → op as = some ds →
  (∀ p ws, H p = none → Reps K S H ws ds → Q (.ref p) (upd H p (.lst ws))) → r vs H Q
def eBu (op : List (Nat × D) → Option D) (f : EM (List ArgD)) : EM (Nat × D) := f.then fun as ρ => match (valsOf as).bind op with | some d => .ok (0, d) ρ | none => .bad
def nBu (op : List (Nat × D) → Option (List D)) (f : EM (List ArgD)) : EM D := f.then fun as ρ => match (valsOf as).bind op with | some ds => .ok (.lst ds) ρ | none => .bad
section
variable {x : Str} {np pos : Pos} {e : Expr} {es : List Expr} {af : EM (List ArgD)} {id T : String} {r : List V → Hp → VK → Prop}
theorem bu_core {op : List (Nat × D) → Option D} (hv : BuV X.K r op) {σ : L2.St} {H : Hp} {Q : VK} (h : tE X.K X.mg W p (eBu op af) σ H Q) : tCB r (tX X.K X.mg W p af) σ H Q := by
  obtain ⟨C, ρ, S, sim, h⟩ := h
  refine tX_bind (G := fun z => EOk X.K X.mg C ρ S σ H W p z Q) sim h (fun z => z) (fun x ρ' z => z) ?_
  intro as ρ1 vs S1 H1 _ h s1 m1 c1 a1
  split at h
  · rename_i d ed
    obtain ⟨l, e1, e2⟩ := Option.bind_eq_some_iff.mp ed
    refine hv S1 H1 vs l d Q (let ⟨_, z⟩ := s1; z.sd) (avs_of a1 e1) e2 fun w H3 sm rr => ?_
    exact h w S1 H3 [] (s1.same sm) (m1.then sm) c1 (.zero rr)
  · exact h.elim
theorem bl_core {op : List (Nat × D) → Option (List D)} (hv : BuL X.K r op) {σ : L2.St} {H : Hp} {Q : VK} (h : tN X.K X.mg W 1 (nBu op af) σ H Q) : tCB r (tX X.K X.mg W p af) σ H Q := by
  obtain ⟨C, ρ, S, sim, h⟩ := h
  refine tX_bind (G := fun z => NOk X.K X.mg C ρ S σ H W 1 z Q) sim h (fun z => z) (fun x ρ' z => z) ?_
  intro as ρ1 vs S1 H1 _ h s1 m1 c1 a1
  split at h
  · rename_i ds ed
    obtain ⟨l, e1, e2⟩ := Option.bind_eq_some_iff.mp ed
    obtain ⟨fps, s1⟩ := s1
    refine hv S1 H1 vs l ds Q s1.sd (avs_of a1 e1) e2 fun t ws ht rp => ?_
    obtain ⟨s2, np, h0⟩ := s1.fresh (o := .lst ws) ht
    have tr : Tr S1 H1 (fun b => S1 b ∨ b = t) (upd H1 t (.lst ws)) := .fresh ht
    refine h (.ref t) _ _ fps [t] s2 (m1.1.trans tr) (.lst (.inr rfl) upd_same (Als.zero (rp.mono tr))) (by simp) fun b hb => ?_
    have e : b = t := by simpa using hb
    subst e
    exact ⟨.inr h0, np⟩
  · exact h.elim
theorem v_bu {op : List (Nat × D) → Option D} (hc : CallR X (.builtin id) r) (hv : BuV X.K r op) (hg : Gl X x) (hm : X.mg x = none) (hb : bootBuiltins x = some (.builtin id)) (ha : PA X (e :: es) (tX X.K X.mg W p af)) (hn : x ≠ "__name__" := by decide) (hdb : (x == ("__debug__" : Str)) = false := by decide)
    (he : starEach (e :: es) X.env = (false, eval e X.env) :: starEach es X.env := by rfl) (hpl : (backTo pos (starEach es X.env)).any (·.1) = false := by rfl) : PE X (.Call (.Name x np) (e :: es) [] pos) (tE X.K X.mg W p (eBu op af)) := peI (pe_callB hc hg hm hb ha hn hdb he hpl) fun _ _ _ h => bu_core hv h
theorem v_ty {op : List (Nat × D) → Option D} (hc : CallR X (.type T) r) (hv : BuV X.K r op) (hg : Gl X x) (hm : X.mg x = none) (hb : bootBuiltins x = some (.type T)) (ha : PA X (e :: es) (tX X.K X.mg W p af)) (hn : x ≠ "__name__" := by decide) (hdb : (x == ("__debug__" : Str)) = false := by decide)
    (he : starEach (e :: es) X.env = (false, eval e X.env) :: starEach es X.env := by rfl) (hpl : (backTo pos (starEach es X.env)).any (·.1) = false := by rfl) : PE X (.Call (.Name x np) (e :: es) [] pos) (tE X.K X.mg W p (eBu op af)) := peI (pe_callTy hc hg hm hb ha hn hdb he hpl) fun _ _ _ h => bu_core hv h
theorem n_bu {op : List (Nat × D) → Option (List D)} (hc : CallR X (.builtin id) r) (hv : BuL X.K r op) (hg : Gl X x) (hm : X.mg x = none) (hb : bootBuiltins x = some (.builtin id)) (ha : PA X (e :: es) (tX X.K X.mg W p af)) (hn : x ≠ "__name__" := by decide) (hdb : (x == ("__debug__" : Str)) = false := by decide)
    (he : starEach (e :: es) X.env = (false, eval e X.env) :: starEach es X.env := by rfl) (hpl : (backTo pos (starEach es X.env)).any (·.1) = false := by rfl) : PE X (.Call (.Name x np) (e :: es) [] pos) (tN X.K X.mg W 1 (nBu op af)) := peI (pe_callB hc hg hm hb ha hn hdb he hpl) fun _ _ _ h => bl_core hv h
theorem n_ty {op : List (Nat × D) → Option (List D)} (hc : CallR X (.type T) r) (hv : BuL X.K r op) (hg : Gl X x) (hm : X.mg x = none) (hb : bootBuiltins x = some (.type T)) (ha : PA X (e :: es) (tX X.K X.mg W p af)) (hn : x ≠ "__name__" := by decide) (hdb : (x == ("__debug__" : Str)) = false := by decide)
    (he : starEach (e :: es) X.env = (false, eval e X.env) :: starEach es X.env := by rfl) (hpl : (backTo pos (starEach es X.env)).any (·.1) = false := by rfl) : PE X (.Call (.Name x np) (e :: es) [] pos) (tN X.K X.mg W 1 (nBu op af)) := peI (pe_callTy hc hg hm hb ha hn hdb he hpl) fun _ _ _ h => bl_core hv h
end
end
end VL

namespace VL
open PySem PySem.Spec PyProof.Rows L2

/-! ## repr of data -/
def pyKey : Key → PyData
  | .inl i => .int i
  | .inr s => .str s
mutual
def toPyR : D → Option PyData
  | .non => some .none
  | .bl b => some (.bool b)
  | .int i => some (.int i)
  | .str x => some (.str x)
  | .lst xs => (toPyRs xs).map .list
  | .tup xs => (toPyRs xs).map .tuple
  | .dic ks => (toPyRk ks).map .dict
  | _ => none
def toPyRs : List D → Option (List PyData)
  | [] => some []
  | x :: xs => (toPyR x).bind fun a => (toPyRs xs).map (a :: ·)
def toPyRk : List (Key × D) → Option (List (PyData × PyData))
  | [] => some []
  | (k, x) :: xs => (toPyR x).bind fun a => (toPyRk xs).map ((pyKey k, a) :: ·)
end
mutual
def noLst : D → Bool
  | .lst _ => false
  | .tup xs => noLsts xs
  | .dic ks => noLstk ks
  | _ => true
def noLsts : List D → Bool
  | [] => true
  | x :: xs => noLst x && noLsts xs
def noLstk : List (Key × D) → Bool
  | [] => true
  | (_, x) :: xs => noLst x && noLstk xs
end
section
variable {X : Cx} {pins : List (Addr × Obj)} {σ : L2.St} {H : Hp} {s : Shared} {S : Own}
mutual
theorem Rep.reads (I : Inv X pins σ H s) : ∀ {v : V} {d : D} {u : Value} {pd : PyData}, Rep X.K S H v d → RelV v u → toPyR d = some pd → ∃ as, Reads s.heap u pd as ∧ (noLst d = true → sysModules ∉ as)
  | _, _, _, _, .non, r, e => by simp [toPyR] at e; subst e; cases r; exact ⟨[], .none, fun _ z => nomatch z⟩
  | _, _, _, _, .bl b, r, e => by simp [toPyR] at e; subst e; cases r; exact ⟨[], .bool b, fun _ z => nomatch z⟩
  | _, _, _, _, .int i, r, e => by simp [toPyR] at e; subst e; obtain ⟨t, rfl⟩ := r; exact ⟨[], .int i t, fun _ z => nomatch z⟩
  | _, _, _, _, .str x, r, e => by simp [toPyR] at e; subst e; obtain ⟨t, rfl⟩ := r; exact ⟨[], .str x t, fun _ z => nomatch z⟩
  | _, _, _, _, .lst l q, r, e => by
    simp only [toPyR] at e
    obtain ⟨ps, e1, rfl⟩ := Option.map_eq_some_iff.mp e
    cases r
    obtain ⟨_, its, n, rv, ho⟩ := l.2.ok I.hok
    obtain ⟨as, h1, _⟩ := Reps.reads I q rv e1
    exact ⟨_, .list ho rfl rfl (by simpa using h1), fun z => by simp [noLst] at z⟩
  | _, _, _, _, .tup l q, r, e => by
    simp only [toPyR] at e
    obtain ⟨ps, e1, rfl⟩ := Option.map_eq_some_iff.mp e
    cases r
    obtain ⟨its, rv, ⟨o, ho, hc, n, hd⟩, _⟩ := I.tuple l.sq
    obtain ⟨as, h1, h2⟩ := Reps.reads I q rv e1
    exact ⟨_, .tuple ho hc hd (by simpa using h1), fun z => h2 (by simpa [noLst] using z)⟩
  | _, _, _, _, .dic ns l q, r, e => by
    simp only [toPyR] at e
    obtain ⟨ps, e1, rfl⟩ := Option.map_eq_some_iff.mp e
    cases r
    obtain ⟨_, hsys, vs, kv, o, es, ep, ho, hx, hd, hk, hp, hn⟩ := dk_rd I.hok l
    obtain ⟨as, h0, h1, h2⟩ := RepKs.reads I q kv hp e1
    refine ⟨_, .dict ho hx.1 hd h0 h1, fun z hm => ?_⟩
    rcases List.mem_cons.mp (by simpa using hm) with y | y
    · rw [← y] at hsys; simp at hsys
    · exact h2 (by simpa [noLst] using z) y
  | _, _, _, _, .scr _ _, r, e => by simp [toPyR] at e
theorem Reps.reads (I : Inv X pins σ H s) : ∀ {v : List V} {d : List D} {u : List Value} {pd : List PyData}, Reps X.K S H v d → Vals v u → toPyRs d = some pd → ∃ as, ReadsAll s.heap u pd as ∧ (noLsts d = true → sysModules ∉ as)
  | _, _, _, _, .nil, r, e => by simp [toPyRs] at e; subst e; cases r; exact ⟨[], .nil, fun _ z => nomatch z⟩
  | _, _, _, _, .cons q t, r, e => by
    simp only [toPyRs] at e
    obtain ⟨a, e1, e2⟩ := Option.bind_eq_some_iff.mp e
    obtain ⟨as, e3, rfl⟩ := Option.map_eq_some_iff.mp e2
    cases r with
    | cons r1 r2 =>
      obtain ⟨a1, h1, g1⟩ := Rep.reads I q r1 e1
      obtain ⟨a2, h2, g2⟩ := Reps.reads I t r2 e3
      refine ⟨_, .cons h1 h2, fun z hm => ?_⟩
      simp only [noLsts, Bool.and_eq_true] at z
      exact (List.mem_append.mp hm).elim (g1 z.1) (g2 z.2)
theorem RepKs.reads (I : Inv X pins σ H s) : ∀ {v : List (Key × V)} {d : List (Key × D)} {u : List (Key × Value)} {es : List DictEntry} {pd : List (PyData × PyData)}, RepKs X.K S H v d → KV v u → Pairs (mixKind X.prog X.w) es u → toPyRk d = some pd →
    ∃ as, ReadsAll s.heap (es.map (·.key)) (pd.map (·.1)) [] ∧ ReadsAll s.heap (es.map (·.val)) (pd.map (·.2)) as ∧ (noLstk d = true → sysModules ∉ as)
  | _, _, _, _, _, .nil, r, p, e => by simp [toPyRk] at e; subst e; cases r; cases p; exact ⟨[], .nil, .nil, fun _ z => nomatch z⟩
  | _, _, _, _, _, .cons (k := k) q t, r, p, e => by
    simp only [toPyRk] at e
    obtain ⟨a, e1, e2⟩ := Option.bind_eq_some_iff.mp e
    obtain ⟨as, e3, rfl⟩ := Option.map_eq_some_iff.mp e2
    cases r with
    | @cons _ u1 _ us r1 r2 =>
      cases p with
      | @cons en _ es' _ p1 p2 p3 =>
        obtain ⟨k', w⟩ := u1
        obtain ⟨rk, rv⟩ := r1
        have rk' : k = k' := rk
        subst rk'
        obtain ⟨a1, h1, g1⟩ := Rep.reads I q rv e1
        obtain ⟨a2, h0, h2, g2⟩ := RepKs.reads I t r2 p3 e3
        have hkey : Reads s.heap en.key (pyKey k) [] := by
          have p1' : keyIs k en.key = true := p1
          rcases keyIs_shape p1' with ⟨i, t, rfl, ek⟩ | ⟨x, t, rfl, ek⟩
          · rw [ek]; exact .int i t
          · rw [ek]; exact .str x t
        refine ⟨a1 ++ a2, ?_, ?_, fun z hm => ?_⟩
        · have := ReadsAll.cons hkey h0
          simpa using this
        · have p2' : en.val = w := p2
          have := ReadsAll.cons h1 h2
          simpa [p2'] using this
        · simp only [noLstk, Bool.and_eq_true] at z
          exact (List.mem_append.mp hm).elim (g1 z.1) (g2 z.2)
end
theorem noDict_py : True := trivial
end
def isCont : D → Bool
  | .lst _ => true | .tup _ => true | .dic _ => true | _ => false
/-- repr(x), x a list, a tuple, a dict -/
def reprD : List (Nat × D) → Option D
  | [(_, d)] => (toPyR d).bind fun pd => if isCont d = true ∧ pd.showable = true ∧ (noLst d = true ∨ pd.hasDict = false) ∧ pd.depth ≤ 60 ∧ pd.shown.length ≤ sizeLine then some (.str pd.shown) else none
  | _ => none
section
variable {X : Cx}
def rRepr (K : PySem.W.Frag) : List V → Hp → VK → Prop := fun vs H Q => ∃ v d pd, vs = [v] ∧ Rep K (fun _ => False) H v d ∧ toPyR d = some pd ∧ isCont d = true ∧ pd.showable = true ∧ (noLst d = true ∨ pd.hasDict = false) ∧ pd.depth ≤ 60 ∧ pd.shown.length ≤ sizeLine ∧ Q (.str pd.shown) H
theorem call_repr (hg : X.A.guards = some []) (hu : X.A.units + 64 < cLine) : CallR X (.builtin "repr") (rRepr X.K) := by
  intro pins s σ H xs us Q I r h
  obtain ⟨v, d, pd, rfl, rp, ep, hc, hs, hl, hd, hz, q⟩ := h
  obtain ⟨u, rfl, ru⟩ := vals1 r
  obtain ⟨as, rd, hsys⟩ := rp.reads I ru ep
  have ref : ∃ a, u = .ref a := by
    cases rp <;> first | (cases hc; done) | (cases ru; exact ⟨_, rfl⟩)
  obtain ⟨a, rfl⟩ := ref
  refine repr_of_reads' rd hs (fun hD => hsys (hl.elim id fun z => by rw [z] at hD; cases hD)) hg (by omega) (fun _ _ e => e) (fun h' t tk k => ?_) hz
  exact ⟨.str pd.shown, H, I.kept k, ⟨t, rfl⟩, q⟩
theorem buv_repr : BuV X.K (rRepr X.K) reprD := by
  intro S H vs as d Q sd av e k
  unfold reprD at e
  split at e
  · cases av with
    | cons a t =>
      cases t
      obtain ⟨pd, e1, e2⟩ := Option.bind_eq_some_iff.mp e
      split at e2
      · rename_i hh
        cases e2
        exact ⟨_, _, pd, rfl, a.rep0, e1, hh.1, hh.2.1, hh.2.2.1, hh.2.2.2.1, hh.2.2.2.2, k _ H (Same.refl _) (.str _)⟩
      · cases e2
  · cases e
/-! ## len, abs, int, list, sorted, isinstance -/
def lenD : List (Nat × D) → Option D
  | [(_, .lst ds)] => some (.int ds.length)
  | [(_, .tup ds)] => some (.int ds.length)
  | [(_, .dic ks)] => some (.int ks.length)
  | [(_, .str z)] => if z.length ≤ sizeLine then some (.int z.length) else none
  | _ => none
theorem call_lenR : CallR X (.builtin "len") (fun xs H Q => ∃ a kvs, xs = [V.ref a] ∧ Rd H a (.dK kvs) ∧ Q (.int kvs.length) H) := by
  intro pins s σ H xs us Q I r h
  obtain ⟨a, kvs, rfl, ha, q⟩ := h
  obtain ⟨u, rfl, ru⟩ := vals1 r
  cases ru
  exact d_len I ha fun t s' I' => ⟨.int kvs.length, H, I', ⟨t, rfl⟩, q⟩
abbrev rLenX (K : PySem.W.Frag) : List V → Hp → VK → Prop := fun vs H Q => ((∃ p ys, vs = [.ref p] ∧ (SqL K H p ys ∨ SqT K H p ys) ∧ Q (.int ys.length) H) ∨ (∃ z, vs = [.str z] ∧ z.length ≤ sizeLine ∧ Q (.int z.length) H)) ∨ ∃ a kvs, vs = [V.ref a] ∧ Rd H a (.dK kvs) ∧ Q (.int kvs.length) H
theorem call_lenX : CallR X (.builtin "len") (rLenX X.K) := CallR.or (CallR.or call_len_seq call_len_str) call_lenR
theorem buv_len : BuV X.K (rLenX X.K) lenD := by
  intro S H vs as d Q sd av e k
  unfold lenD at e
  split at e
  · cases av with | cons a t => cases t; cases e; obtain ⟨l, ws, F, rfl, sq, al, _⟩ := a.list; exact .inl (.inl ⟨l, ws, rfl, .inl sq, k _ H (Same.refl _) (by rw [al.length]; exact .int _)⟩)
  · cases av with | cons a t => cases t; cases e; obtain ⟨l, ws, rfl, sq, al, _⟩ := a.tuple; exact .inl (.inl ⟨l, ws, rfl, .inr sq, k _ H (Same.refl _) (by rw [al]; exact .int _)⟩)
  · cases av with | cons a t => cases t; cases e; obtain ⟨l, ws, F, rfl, rd, al⟩ := a.dict; exact .inr ⟨l, ws, rfl, rd, k _ H (Same.refl _) (by rw [al.length.1]; exact .int _)⟩
  · cases av with
    | cons a t =>
      cases t
      split at e
      · cases e; obtain ⟨_, rfl⟩ := a.str; exact .inl (.inr ⟨_, rfl, by assumption, k _ H (Same.refl _) (.int _)⟩)
      · cases e
  · cases e
def absD : List (Nat × D) → Option D
  | [(_, .int i)] => some (.int (if i < 0 then -i else i))
  | _ => none
theorem buv_abs : BuV X.K (fun xs H Q => ∃ i, xs = [.int i] ∧ Q (.int (if i < 0 then -i else i)) H) absD := by
  intro S H vs as d Q sd av e k
  unfold absD at e
  split at e
  · cases av with | cons a t => cases t; cases e; obtain ⟨_, rfl⟩ := a.int; exact ⟨_, rfl, k _ H (Same.refl _) (.int _)⟩
  · cases e
def intD : List (Nat × D) → Option D
  | [(_, .int i)] => some (.int i)
  | [(_, .bl b)] => some (.int (if b then 1 else 0))
  | _ => none
theorem buv_int : BuV X.K (fun xs H Q => (∃ i, xs = [.int i] ∧ Q (.int i) H) ∨ ∃ k, xs = [.bl k] ∧ Q (.int (if k then 1 else 0)) H) intD := by
  intro S H vs as d Q sd av e k
  unfold intD at e
  split at e
  · cases av with | cons a t => cases t; cases e; obtain ⟨_, rfl⟩ := a.int; exact .inl ⟨_, rfl, k _ H (Same.refl _) (.int _)⟩
  · cases av with | cons a t => cases t; cases e; obtain ⟨_, rfl⟩ := a.bl; exact .inr ⟨_, rfl, k _ H (Same.refl _) (.int _)⟩
  · cases e
def minD : List (Nat × D) → Option D
  | [(_, .int i), (_, .int j)] => some (.int (if j < i then j else i))
  | _ => none
def maxD : List (Nat × D) → Option D
  | [(_, .int i), (_, .int j)] => some (.int (if j > i then j else i))
  | _ => none
theorem buv_min : BuV X.K (fun xs H Q => ∃ i j, xs = [.int i, .int j] ∧ Q (.int (if j < i then j else i)) H) minD := by
  intro S H vs as d Q sd av e k
  unfold minD at e
  split at e
  · cases av with | cons a t => cases t with | cons b t => cases t; cases e; obtain ⟨_, rfl⟩ := a.int; obtain ⟨_, rfl⟩ := b.int; exact ⟨_, _, rfl, k _ H (Same.refl _) (.int _)⟩
  · cases e
theorem buv_max : BuV X.K (fun xs H Q => ∃ i j, xs = [.int i, .int j] ∧ Q (.int (if j > i then j else i)) H) maxD := by
  intro S H vs as d Q sd av e k
  unfold maxD at e
  split at e
  · cases av with | cons a t => cases t with | cons b t => cases t; cases e; obtain ⟨_, rfl⟩ := a.int; obtain ⟨_, rfl⟩ := b.int; exact ⟨_, _, rfl, k _ H (Same.refl _) (.int _)⟩
  · cases e
/-- list(x): of a list, a tuple, a dict -/
def listD : List (Nat × D) → Option (List D)
  | [(n, .lst ds)] => if n ≤ 1 then some ds else none
  | [(n, .tup ds)] => if n = 0 then some ds else none
  | [(_, .dic ks)] => some (ks.map fun kv => keyD kv.1)
  | _ => none
abbrev rListX (K : PySem.W.Frag) : List V → Hp → VK → Prop := fun xs H Q => (∃ p ys, xs = [.ref p] ∧ (SqL K H p ys ∨ SqT K H p ys) ∧ ∀ l, H l = none → Q (.ref l) (upd H l (.lst ys))) ∨ ∃ (a : Addr) (kvs : List (Key × V)), xs = [.ref a] ∧ Rd H a (.dK kvs) ∧ ∀ p, H p = none → Q (.ref p) (upd H p (.lst (kvs.map fun kv => kV kv.1)))
theorem call_listX (hc : X.calm = true) : CallR X (.type "list") (rListX X.K) := CallR.or call_list_of (call_listD hc)
theorem reps_keys {K : PySem.W.Frag} {S : Own} {H : Hp} {n : Nat} {vs : List (Key × V)} {ks : List (Key × D)} {F : List Addr} (h : AlKs K S H n vs ks F) : Reps K S H (vs.map fun kv => kV kv.1) (ks.map fun kv => keyD kv.1) := by
  have e := h.length.2
  have a : vs.map (fun kv => kV kv.1) = (vs.map (·.1)).map kV := by rw [List.map_map]; rfl
  have b : ks.map (fun kv => keyD kv.1) = (ks.map (·.1)).map keyD := by rw [List.map_map]; rfl
  rw [a, b, e]
  generalize ks.map (·.1) = l
  induction l with
  | nil => exact .nil
  | cons k l ih => exact .cons (rep_keyD k) ih
theorem bul_list : BuL X.K (rListX X.K) listD := by
  intro S H vs as d Q sd av e k
  unfold listD at e
  split at e
  · cases av with
    | cons a t =>
      cases t
      split at e
      · cases e
        obtain ⟨l, ws, F, rfl, sq, al, _⟩ := a.list
        exact .inl ⟨l, ws, rfl, .inl sq, fun p hp => k p ws hp (al.reps (by assumption))⟩
      · cases e
  · split at e
    · rename_i hn; cases av with | cons a t => cases t; cases e; obtain ⟨l, ws, rfl, sq, _, al⟩ := a.tuple; exact .inl ⟨l, ws, rfl, .inr sq, fun p hp => k p ws hp (al (.inl hn))⟩
    · cases e
  · cases av with | cons a t => cases t; cases e; obtain ⟨l, ws, F, rfl, rd, al⟩ := a.dict; exact .inr ⟨l, ws, rfl, rd, fun p hp => k p _ hp (reps_keys al)⟩
  · cases e
end
end VL

namespace VL
open PySem PySem.Spec PyProof.Rows L2

/-! ## sorting -/
def sLe (a b : Str) : Bool := !sLt b a
theorem sLe_iff {a b : Str} : sLe a b = true ↔ a.cps.toList ≤ b.cps.toList := by
  unfold sLe sLt
  rw [Bool.not_eq_true', decide_eq_false_iff_not]
  exact List.not_lt
theorem sLe_trans (a b c : Str) (h : sLe a b = true) (g : sLe b c = true) : sLe a c = true := by
  rw [sLe_iff] at *
  exact List.le_trans h g
theorem sLe_total (a b : Str) : (sLe a b || sLe b a) = true := by
  rw [Bool.or_eq_true, sLe_iff, sLe_iff]
  exact List.le_total _ _
theorem sLe_anti {a b : Str} (h : sLe a b = true) (g : sLe b a = true) : a = b := by
  rw [sLe_iff] at *
  have := List.le_antisymm h g
  obtain ⟨⟨x⟩⟩ := a
  obtain ⟨⟨y⟩⟩ := b
  simp at this
  rw [this]
def sortS (l : List Str) : List Str := l.mergeSort sLe
def sortI (l : List Int) : List Int := l.mergeSort fun a b => decide (a ≤ b)
theorem rising_pairwise : ∀ {r : List Str} {p : Str}, risingS p r = true → (p :: r).Pairwise (fun a b => sLe a b = true)
  | [], p, _ => by simp
  | x :: r, p, h => by
    simp only [risingS, Bool.and_eq_true] at h
    have ih := rising_pairwise h.2
    have h1 : sLe p x = true := by
      have := h.1
      unfold sLe sLt
      rw [lt_meets]
      exact this
    refine List.pairwise_cons.mpr ⟨fun y hy => ?_, ih⟩
    rcases List.mem_cons.mp hy with rfl | hy
    · exact h1
    · exact sLe_trans _ _ _ h1 ((List.pairwise_cons.mp ih).1 y hy)
theorem sortS_unique {ys xs : List Str} (h : ys.Perm xs) (s : sortedS ys = true) : ys = sortS xs := by
  have p1 : ys.Pairwise (fun a b => sLe a b = true) := by
    cases ys with
    | nil => simp
    | cons x r => exact rising_pairwise s
  have p2 : (sortS xs).Pairwise (fun a b => sLe a b = true) := List.pairwise_mergeSort (le := sLe) sLe_trans sLe_total xs
  exact List.Perm.eq_of_pairwise (le := fun a b => sLe a b = true) (fun a b _ _ => sLe_anti) p1 p2 (h.trans (List.mergeSort_perm xs sLe).symm)
theorem sortI_unique {ys xs : List Int} (h : ys.Perm xs) (s : ys.Pairwise (· ≤ ·)) : ys = sortI xs := by
  have p2 : (sortI xs).Pairwise (fun a b => decide (a ≤ b) = true) := List.pairwise_mergeSort (le := fun a b : Int => decide (a ≤ b)) (fun a b c h g => by simp at *; omega) (fun a b => by simp; omega) xs
  exact List.Perm.eq_of_pairwise (le := (· ≤ ·)) (fun a b _ _ h g => by omega) s (p2.imp fun h => by simpa using h) (h.trans (List.mergeSort_perm xs _).symm)
def asStrs : List D → Option (List Str)
  | [] => some []
  | .str s :: r => (asStrs r).map (s :: ·)
  | _ :: _ => none
def asInts : List D → Option (List Int)
  | [] => some []
  | .int s :: r => (asInts r).map (s :: ·)
  | _ :: _ => none
theorem asStrs_eq : ∀ {ds : List D} {xs : List Str}, asStrs ds = some xs → ds = xs.map .str
  | [], xs, e => by simp [asStrs] at e; subst e; rfl
  | .str s :: r, xs, e => by
    simp only [asStrs] at e
    obtain ⟨l, e1, rfl⟩ := Option.map_eq_some_iff.mp e
    rw [asStrs_eq e1]; rfl
  | .non :: _, _, e | .bl _ :: _, _, e | .int _ :: _, _, e | .lst _ :: _, _, e | .tup _ :: _, _, e | .dic _ :: _, _, e | .dtt _ :: _, _, e | .ins _ _ :: _, _, e | .sset _ :: _, _, e => by simp [asStrs] at e
theorem asInts_eq : ∀ {ds : List D} {xs : List Int}, asInts ds = some xs → ds = xs.map .int
  | [], xs, e => by simp [asInts] at e; subst e; rfl
  | .int s :: r, xs, e => by
    simp only [asInts] at e
    obtain ⟨l, e1, rfl⟩ := Option.map_eq_some_iff.mp e
    rw [asInts_eq e1]; rfl
  | .non :: _, _, e | .bl _ :: _, _, e | .str _ :: _, _, e | .lst _ :: _, _, e | .tup _ :: _, _, e | .dic _ :: _, _, e | .dtt _ :: _, _, e | .ins _ _ :: _, _, e | .sset _ :: _, _, e => by simp [asInts] at e
theorem reps_strs {K : PySem.W.Frag} {S : Own} {H : Hp} : ∀ {xs : List Str} {vs : List V}, Reps K S H vs (xs.map .str) → vs = xs.map .str
  | [], _, .nil => rfl
  | x :: xs, _, .cons r q => by cases r; rw [reps_strs q]; rfl
theorem reps_ints {K : PySem.W.Frag} {S : Own} {H : Hp} : ∀ {xs : List Int} {vs : List V}, Reps K S H vs (xs.map .int) → vs = xs.map .int
  | [], _, .nil => rfl
  | x :: xs, _, .cons r q => by cases r; rw [reps_ints q]; rfl
theorem strs_reps {K : PySem.W.Frag} {S : Own} {H : Hp} (xs : List Str) : Reps K S H (xs.map .str) (xs.map .str) := by
  induction xs with
  | nil => exact .nil
  | cons x xs ih => exact .cons (.str x) ih
theorem ints_reps {K : PySem.W.Frag} {S : Own} {H : Hp} (xs : List Int) : Reps K S H (xs.map .int) (xs.map .int) := by
  induction xs with
  | nil => exact .nil
  | cons x xs ih => exact .cons (.int x) ih
/-- sorted: ints or texts, fewer than 64 -/
def sortDs (ds : List D) : Option (List D) := if ds.length < 64 then (match asStrs ds with
  | some xs => some ((sortS xs).map .str)
  | none => (match asInts ds with
    | some xs => some ((sortI xs).map .int)
    | none => none)) else none
def sortedD : List (Nat × D) → Option (List D)
  | [(_, .lst ds)] => sortDs ds
  | [(_, .dic ks)] => sortDs (ks.map fun kv => keyD kv.1)
  | _ => none
section
variable {X : Cx}
abbrev rSortX (K : PySem.W.Frag) : List V → Hp → VK → Prop := fun vs H Q => (rSortedS K vs H Q ∨ rSorted K vs H Q) ∨
  ((∃ (a : Addr) (kvs : List (Key × V)) (ks : List Str), vs = [.ref a] ∧ Rd H a (.dK kvs) ∧ kvs.map (·.1) = ks.map Sum.inr ∧ ks.length < 64 ∧ ∀ ys p, ys.Perm ks → sortedS ys = true → H p = none → Q (.ref p) (upd H p (.lst (ys.map V.str)))) ∨
    ∃ (a : Addr) (kvs : List (Key × V)) (ks : List Int), vs = [.ref a] ∧ Rd H a (.dK kvs) ∧ kvs.map (·.1) = ks.map Sum.inl ∧ ks.length < 64 ∧ ∀ (ys : List Int) (p : Addr), ys.Perm ks → ys.Pairwise (· ≤ ·) → H p = none → Q (.ref p) (upd H p (.lst (ys.map V.int))))
theorem call_sortX (hc : X.calm = true) : CallR X (.builtin "sorted") (rSortX X.K) := CallR.or (CallR.or cr_sortedS cr_sorted) (CallR.or (call_sortedD hc) (call_sortedDI hc))
theorem keys_strs : ∀ {l : List Key} {xs : List Str}, l.map keyD = xs.map D.str → l = xs.map Sum.inr
  | [], [], _ => rfl
  | .inr s :: l, x :: xs, e => by
    simp only [List.map_cons, List.cons.injEq, keyD, D.str.injEq] at e
    rw [e.1, keys_strs e.2]; rfl
  | .inl _ :: _, x :: xs, e => by simp [keyD] at e
  | [], _ :: _, e => by simp at e
  | _ :: _, [], e => by simp at e
theorem keys_ints : ∀ {l : List Key} {xs : List Int}, l.map keyD = xs.map D.int → l = xs.map Sum.inl
  | [], [], _ => rfl
  | .inl s :: l, x :: xs, e => by
    simp only [List.map_cons, List.cons.injEq, keyD, D.int.injEq] at e
    rw [e.1, keys_ints e.2]; rfl
  | .inr _ :: _, x :: xs, e => by simp [keyD] at e
  | [], _ :: _, e => by simp at e
  | _ :: _, [], e => by simp at e
theorem bul_sorted : BuL X.K (rSortX X.K) sortedD := by
  intro S H vs as d Q sd av e k
  unfold sortedD at e
  split at e
  · cases av with
    | cons a t =>
      cases t
      unfold sortDs at e
      split at e
      case isFalse => cases e
      case isTrue h64 =>
      obtain ⟨l, ws, F, rfl, sq, al, _⟩ := a.list
      have rp := al.freeze (S' := fun _ => False) (fun _ z => z.elim) fun _ _ z => z
      split at e
      · rename_i xs ex
        cases e
        have := asStrs_eq ex
        subst this
        obtain rfl := reps_strs rp
        exact .inl (.inl ⟨l, xs, rfl, sq, by simpa using h64, fun ys p hp hs hn => by rw [sortS_unique hp hs]; exact k p _ hn (strs_reps _)⟩)
      · split at e
        · rename_i xs ex
          cases e
          have := asInts_eq ex
          subst this
          obtain rfl := reps_ints rp
          exact .inl (.inr ⟨l, xs, rfl, sq, by simpa using h64, fun ys p hp hs hn => by rw [sortI_unique hp hs]; exact k p _ hn (ints_reps _)⟩)
        · cases e
  · rename_i n0 ks
    cases av with
    | cons a t =>
      cases t
      unfold sortDs at e
      split at e
      case isFalse => cases e
      case isTrue h64 =>
      obtain ⟨l, ws, F, rfl, rd, al⟩ := a.dict
      have ek : ws.map (·.1) = ks.map (·.1) := al.length.2
      have em : ks.map (fun kv => keyD kv.1) = (ks.map (·.1)).map keyD := by rw [List.map_map]; rfl
      rw [em] at e h64
      split at e
      · rename_i xs ex
        cases e
        have := keys_strs (asStrs_eq ex)
        have hl : xs.length < 64 := by rw [this] at h64; simpa using h64
        exact .inr (.inl ⟨l, ws, xs, rfl, rd, by rw [ek, this], hl, fun ys p hp hs hn => by rw [sortS_unique hp hs]; exact k p _ hn (strs_reps _)⟩)
      · split at e
        · rename_i xs ex
          cases e
          have := keys_ints (asInts_eq ex)
          have hl : xs.length < 64 := by rw [this] at h64; simpa using h64
          exact .inr (.inr ⟨l, ws, xs, rfl, rd, by rw [ek, this], hl, fun ys p hp hs hn => by rw [sortI_unique hp hs]; exact k p _ hn (ints_reps _)⟩)
        · cases e
  · cases e
end
/-! ## isinstance -/
def tyName : D → String
  | .non => "NoneType" | .bl _ => "bool" | .int _ => "int" | .str _ => "str" | .lst _ => "list" | .tup _ => "tuple" | _ => "dict"
def isScr : D → Bool
  | .sset _ => true
  | _ => false
def eIsi (T : String) (f : EM (Nat × D)) : EM (Nat × D) := f.then fun a ρ => if isScr a.2 = true then .bad else match kitB (tyName a.2) T with | some b => .ok (0, .bl b) ρ | none => .bad
section
variable {X : Cx} {W : WX} {p : Bool} {f : EM (Nat × D)}
theorem Al.tyx {K : PySem.W.Frag} {S : Own} {H : Hp} {n : Nat} {v : V} {d : D} {fp : List Addr} (h : Al K S H n v d fp) (hs : ¬ isScr d = true) : TyX K H v (.type (tyName d)) := by
  cases h with
  | zero r =>
    cases r with
    | non => exact .base .non
    | bl b => exact .base (.bl b)
    | int i => exact .base (.int i)
    | str x => exact .base (.str x)
    | lst l q => rcases l.2 with z | ⟨o, z⟩
                 · exact .base (.lst z)
                 · exact .base (.frz z)
    | tup l q =>
      rcases l with ⟨_, z | ⟨o, z⟩⟩ | ⟨o, its, n, h1, h2, _⟩
      · exact .base (.tup z)
      · exact .fTuple z
      · exact .kTuple h1 h2
    | dic _ l q => rcases l with z | ⟨o, z⟩
                   · exact .base (.dK z)
                   · exact .fDict z
    | scr _ _ => exact absurd rfl hs
  | fl _ r =>
    cases r with
    | non => exact .base .non
    | bl b => exact .base (.bl b)
    | int i => exact .base (.int i)
    | str x => exact .base (.str x)
    | lst l q => rcases l.2 with z | ⟨o, z⟩
                 · exact .base (.lst z)
                 · exact .base (.frz z)
    | tup l q =>
      rcases l with ⟨_, z | ⟨o, z⟩⟩ | ⟨o, its, n, h1, h2, _⟩
      · exact .base (.tup z)
      · exact .fTuple z
      · exact .kTuple h1 h2
    | dic _ l q => rcases l with z | ⟨o, z⟩
                   · exact .base (.dK z)
                   · exact .fDict z
    | scr _ _ => exact absurd rfl hs
  | tup _ l _ _ =>
    rcases l with z | ⟨o, z⟩
    · exact .base (.tup z)
    · exact .fTuple z
  | lst s e q => exact .base (.lst e)
  | dic s e q => exact .base (.dK e)
/-- isinstance(e, T), T a built-in class -/
theorem v_isi {T : String} {e : Expr} {x t : Str} {np tp pos : Pos} (ha : PE X e (tE X.K X.mg W p f)) (hg : Gl X x) (hm : X.mg x = none) (hb : bootBuiltins x = some (.builtin "isinstance")) (hgt : Gl X t) (hmt : X.mg t = none) (hbt : bootBuiltins t = some (.type T))
    (hn : x ≠ "__name__" := by decide) (hdb : (x == ("__debug__" : Str)) = false := by decide) (hnt : t ≠ "__name__" := by decide) (hdt : (t == ("__debug__" : Str)) = false := by decide)
    (he : starEach (e :: [.Name t tp]) X.env = (false, eval e X.env) :: starEach [.Name t tp] X.env := by rfl) (he2 : starEach (.Name t tp :: []) X.env = (false, eval (.Name t tp) X.env) :: starEach [] X.env := by rfl) (hpl : (backTo pos (starEach [.Name t tp] X.env)).any (·.1) = false := by rfl) :
    PE X (.Call (.Name x np) [e, .Name t tp] [] pos) (tE X.K X.mg W p (eIsi T f)) :=
  peI (pe_callB call_isi hg hm hb (pa_cons ha (pa_cons (pe_bltn (v := .ty T) hgt hmt hbt rfl hnt hdt) pa_nil he2) he) hn hdb he hpl) fun σ H Q h => by
  obtain ⟨C, ρ, S, sim, h⟩ := h
  refine tE_bind (G := fun z => EOk X.K X.mg C ρ S σ H W p z Q) sim h id (fun x ρ' z => z) ?_
  intro n d ρ1 v S1 H1 fp1 _ h s1 m1 c1 a1
  split at h
  · exact h.elim
  rename_i hns
  split at h
  · rename_i b eb
    exact ⟨v, .ty T, _, .type T, b, rfl, .ty T, a1.tyx hns, kit_ty eb, h (.bl b) S1 H1 [] s1 m1 c1 (.zero (.bl b))⟩
  · exact h.elim
end
end VL

namespace VL
open PySem PySem.Spec PyProof.Rows L2

/-! ## slices -/
section
variable (K : PySem.W.Frag) (mg : Str → Option Value)
def OOk (C : Ctx) (ρ : En) (S : Own) (σ : L2.St) (H : Hp) (W : WX) (pf : Bool) (r : R En (Option Int)) (Q : Option Int → Hp → Prop) : Prop :=
  match r with
  | .ok b ρ' => ∀ S' H', Sim K C ρ' S' σ H' → Mv pf S H S' H' → (pf = true → ρ' = ρ) → Q b H'
  | .err x ρ' => ∀ cls dd S' H', Sim K C ρ' S' σ H' → XOk K mg S' H' x cls dd → W cls dd σ H'
  | .bad => False
/-- a part of a slice -/
def tO (W : WX) (pf : Bool) (f : EM (Option Int)) : TO := fun σ H Q => ∃ C ρ S, Sim K C ρ S σ H ∧ OOk K mg C ρ S σ H W pf (f ρ) Q
end
def oNo : EM (Option Int) := fun ρ => .ok none ρ
def oInt (f : EM (Nat × D)) : EM (Option Int) := f.then fun a ρ => match a.2 with | .int i => .ok (some i) ρ | _ => .bad
def cutD {α : Type} (xs : List α) (lo hi : Option Int) : List α := (xs.drop (HT.sIx xs.length 0 lo)).take (HT.sIx xs.length xs.length hi - HT.sIx xs.length 0 lo)
/-- a slice of a list: a new list -/
def nSl (q : Bool) (f : EM (Nat × D)) (l h : EM (Option Int)) : EM D := f.then fun a => l.then fun lo => h.then fun hi ρ => match a.2 with
  | .lst ds => if a.1 = 0 ∨ (q = true ∧ a.1 = 1) then .ok (.lst (cutD ds lo hi)) ρ else .bad
  | .sset ks => if a.1 = 0 then .ok (.lst (cutD (ks.map keyD) lo hi)) ρ else .bad
  | _ => .bad
/-- a slice of a tuple or of a text -/
def eSl (q : Bool) (f : EM (Nat × D)) (l h : EM (Option Int)) : EM (Nat × D) := f.then fun a => l.then fun lo => h.then fun hi ρ => match a.2 with
  | .tup ds => if a.1 = 0 then .ok (0, .tup (cutD ds lo hi)) ρ else .bad
  | .str z => if z.length ≤ sizeLine then .ok (0, .str (cutS z lo hi)) ρ else .bad
  | _ => .bad
def nRev (f : EM (Nat × D)) : EM D := f.then fun a ρ => match a.2 with
  | .lst ds => if a.1 ≤ 1 then .ok (.lst ds.reverse) ρ else .bad
  | _ => .bad
theorem tO_bind {K : PySem.W.Frag} {mg : Str → Option Value} {C : Ctx} {ρ : En} {S : Own} {σ : L2.St} {H : Hp} {W : WX} {p : Bool} {f : EM (Option Int)} {α : Type} {k : Option Int → EM α} {Q : Option Int → Hp → Prop} {G : R En α → Prop}
    (sim : Sim K C ρ S σ H) (g : G (f.then k ρ)) (gb : ¬ G .bad) (ge : ∀ x ρ', G (.err x ρ') → ∀ cls dd S' H', Sim K C ρ' S' σ H' → XOk K mg S' H' x cls dd → W cls dd σ H')
    (h : ∀ b ρ' S' H', f ρ = .ok b ρ' → G (k b ρ') → Sim K C ρ' S' σ H' → Mv p S H S' H' → (p = true → ρ' = ρ) → Q b H') : tO K mg W p f σ H Q := by
  refine ⟨C, ρ, S, sim, ?_⟩
  unfold EM.then at g
  cases e : f ρ with
  | ok a ρ' =>
    rw [e] at g
    intro S' H' s m c
    exact h a ρ' S' H' e g s m c
  | err x ρ' =>
    rw [e] at g
    exact ge x ρ' g
  | bad =>
    rw [e] at g
    exact gb g
theorem poI {X : Cx} {e : Option Expr} {t t' : TO} (h : PO X e t) (i : ∀ σ H Q, t' σ H Q → t σ H Q) : PO X e t' := ⟨fun p s σ H Q I q => h.run p s σ H Q I (i σ H Q q)⟩
theorem Reps.cut {K : PySem.W.Frag} {S : Own} {H : Hp} {vs : List V} {ds : List D} (h : Reps K S H vs ds) (lo hi : Option Int) : Reps K S H (cutV vs lo hi) (cutD ds lo hi) := by
  have hd : ∀ (n : Nat) {vs : List V} {ds : List D}, Reps K S H vs ds → Reps K S H (vs.drop n) (ds.drop n) := by
    intro n
    induction n with
    | zero => intro vs ds h; exact h
    | succ n ih => intro vs ds h; cases h with
      | nil => exact .nil
      | cons r q => exact ih q
  have ht : ∀ (n : Nat) {vs : List V} {ds : List D}, Reps K S H vs ds → Reps K S H (vs.take n) (ds.take n) := by
    intro n
    induction n with
    | zero => intro vs ds h; exact .nil
    | succ n ih => intro vs ds h; cases h with
      | nil => exact .nil
      | cons r q => exact .cons r (ih q)
  unfold cutV cutD
  rw [h.length]
  exact ht _ (hd _ h)
theorem reps_sset {K : PySem.W.Frag} {S : Own} {H : Hp} : ∀ (ns : List Int), Reps K S H (ns.map V.int) ((ns.map (Sum.inl : Int → Key)).map keyD)
  | [] => .nil
  | n :: ns => .cons (.int n) (reps_sset ns)
theorem Reps.snoc {K : PySem.W.Frag} {S : Own} {H : Hp} {vs : List V} {ds : List D} {v : V} {d : D} (h : Reps K S H vs ds) (r : Rep K S H v d) : Reps K S H (vs ++ [v]) (ds ++ [d]) := h.append (.cons r .nil)
theorem Reps.reverse {K : PySem.W.Frag} {S : Own} {H : Hp} : ∀ {vs : List V} {ds : List D}, Reps K S H vs ds → Reps K S H vs.reverse ds.reverse
  | _, _, .nil => .nil
  | _, _, .cons r q => by
    rw [List.reverse_cons, List.reverse_cons]
    exact (Reps.reverse q).snoc r
section
variable {X : Cx} {W : WX} {p q q2 : Bool}
theorem o_none : PO X none (tO X.K X.mg W true oNo) := poI po_none fun σ H Q h => by
  obtain ⟨C, ρ, S, sim, h⟩ := h
  exact h S H sim .refl (fun _ => rfl)
theorem o_some {f : EM (Nat × D)} {e : Expr} (h : PE X e (tE X.K X.mg W p f)) : PO X (some e) (tO X.K X.mg W p (oInt f)) := poI (po_some h) fun σ H Q h => by
  obtain ⟨C, ρ, S, sim, h⟩ := h
  refine tE_bind (G := fun z => OOk X.K X.mg C ρ S σ H W p z Q) sim h id (fun x ρ' z => z) ?_
  intro n d ρ1 v S1 H1 fp1 _ h s1 m1 c1 a1
  split at h
  · rename_i i e
    simp only at e
    subst e
    obtain ⟨_, rfl⟩ := a1.int
    exact ⟨i, rfl, h S1 H1 s1 m1 c1⟩
  · exact h.elim
section
variable {f : EM (Nat × D)} {l h : EM (Option Int)} {e : Expr} {lo hi : Option Expr} {p2 pos : Pos}
theorem n_sl (he : PE X e (tE X.K X.mg W p f)) (hl : PO X lo (tO X.K X.mg W q l)) (hu : PO X hi (tO X.K X.mg W q2 h)) : PE X (.Subscript e (.Slice lo hi none p2) pos) (tN X.K X.mg W 1 (nSl (q && q2) f l h)) := peI (pe_slice sl_list he hl hu) fun σ H Q hh => by
  obtain ⟨C, ρ, S, sim, hh⟩ := hh
  refine tE_bind (G := fun z => NOk X.K X.mg C ρ S σ H W 1 z Q) sim hh id (fun x ρ' z => z) ?_
  intro n d ρ1 v S1 H1 fp1 _ h1 s1 m1 c1 a1
  clear hh
  refine tO_bind (G := fun z => NOk X.K X.mg C ρ S σ H W 1 z Q) s1 h1 id (fun x ρ' z => z) ?_
  intro lo ρ2 S2 H2 _ h2 s2 m2 c2
  clear h1
  refine tO_bind (G := fun z => NOk X.K X.mg C ρ S σ H W 1 z Q) s2 h2 id (fun x ρ' z => z) ?_
  intro hi ρ3 S3 H3 _ hh s3 m3 c3
  clear h2
  split at hh
  · rename_i ds ed
    simp only at ed
    subst ed
    split at hh
    case isFalse => exact hh.elim
    case isTrue hc =>
    simp only at hc
    have a3 : Al X.K S3 H3 n v (.lst ds) fp1 := a1.mv (m2.trans m3) (hc.elim (fun z => .inr z) fun z => .inl z.1)
    obtain ⟨t, vs, F, rfl, sq, als, _⟩ := a3.list
    have hn : n - 1 = 0 := by omega
    rw [hn] at als
    obtain ⟨rp, _⟩ := als.rep
    refine ⟨t, vs, rfl, sq, fun x hx => ?_⟩
    obtain ⟨fps, s3⟩ := s3
    obtain ⟨s4, np, h0⟩ := s3.fresh (o := .lst (cutV vs lo hi)) hx
    have tr : Tr S3 H3 (fun b => S3 b ∨ b = x) (upd H3 x (.lst (cutV vs lo hi))) := .fresh hx
    refine hh (.ref x) _ _ fps [x] s4 (((m1.1.trans m2.1).trans m3.1).trans tr) (.lst (.inr rfl) upd_same (Als.zero ((rp.cut lo hi).mono tr))) (by simp) fun b hb => ?_
    have e : b = x := by simpa using hb
    subst e
    exact ⟨.inr h0, np⟩
  · rename_i ks ed
    simp only at ed
    subst ed
    split at hh
    case isFalse => exact hh.elim
    case isTrue hc =>
    simp only at hc
    subst hc
    have a3 : Al X.K S3 H3 0 v (.sset ks) fp1 := a1.mv (m2.trans m3) (.inr rfl)
    cases a3 with
    | zero rp =>
    cases rp with
    | @scr t ns _ ek rs =>
    subst ek
    have rp : Reps X.K S3 H3 (ns.map V.int) ((ns.map (Sum.inl : Int → Key)).map keyD) := reps_sset ns
    refine ⟨t, _, rfl, rs.sq, fun x hx => ?_⟩
    obtain ⟨fps, s3⟩ := s3
    obtain ⟨s4, np, h0⟩ := s3.fresh (o := .lst (cutV (ns.map V.int) lo hi)) hx
    have tr : Tr S3 H3 (fun b => S3 b ∨ b = x) (upd H3 x (.lst (cutV (ns.map V.int) lo hi))) := .fresh hx
    refine hh (.ref x) _ _ fps [x] s4 (((m1.1.trans m2.1).trans m3.1).trans tr) (.lst (.inr rfl) upd_same (Als.zero ((rp.cut lo hi).mono tr))) (by simp) fun b hb => ?_
    have e : b = x := by simpa using hb
    subst e
    exact ⟨.inr h0, np⟩
  · exact hh.elim
theorem v_sl (he : PE X e (tE X.K X.mg W p f)) (hl : PO X lo (tO X.K X.mg W q l)) (hu : PO X hi (tO X.K X.mg W q2 h)) : PE X (.Subscript e (.Slice lo hi none p2) pos) (tE X.K X.mg W (p && (q && q2)) (eSl (q && q2) f l h)) := peI (pe_slice (SlR.or sl_tupA sl_str) he hl hu) fun σ H Q hh => by
  obtain ⟨C, ρ, S, sim, hh⟩ := hh
  refine tE_bind (G := fun z => EOk X.K X.mg C ρ S σ H W (p && (q && q2)) z Q) sim hh id (fun x ρ' z => z) ?_
  intro n d ρ1 v S1 H1 fp1 _ h1 s1 m1 c1 a1
  clear hh
  refine tO_bind (G := fun z => EOk X.K X.mg C ρ S σ H W (p && (q && q2)) z Q) s1 h1 id (fun x ρ' z => z) ?_
  intro lo ρ2 S2 H2 _ h2 s2 m2 c2
  clear h1
  refine tO_bind (G := fun z => EOk X.K X.mg C ρ S σ H W (p && (q && q2)) z Q) s2 h2 id (fun x ρ' z => z) ?_
  intro hi ρ3 S3 H3 _ hh s3 m3 c3
  clear h2
  have cc : (p && (q && q2)) = true → ρ3 = ρ := fun hp => by
    rw [Bool.and_eq_true, Bool.and_eq_true] at hp
    exact ((c3 hp.2.2).trans (c2 hp.2.1)).trans (c1 hp.1)
  have mm : Mv (p && (q && q2)) S H S3 H3 := m1.trans (m2.trans m3)
  split at hh
  · rename_i ds ed
    simp only at ed
    subst ed
    split at hh
    case isFalse => exact hh.elim
    case isTrue hn0 =>
    simp only at hn0
    subst hn0
    have a3 := a1.mv (m2.trans m3) (.inr rfl)
    obtain ⟨t, vs, rfl, sq, _, rp⟩ := a3.tuple
    have rp := rp (.inl rfl)
    refine .inl ⟨t, vs, rfl, sq, fun hz => ?_, fun hz x hx => ?_⟩
    · have ec : cutD ds lo hi = ds := by
        have hl := rp.length
        rw [hl] at hz
        unfold cutD
        rw [hz.1, hz.2]
        simp
      rw [ec] at hh
      exact hh _ S3 H3 _ s3 mm cc a3
    · have sm : Same H3 (upd H3 x (.tup (cutV vs lo hi))) := same_upd' hx
      exact hh _ S3 _ [] (s3.same sm) (mm.then sm) cc (.zero (.tup (.inl ⟨s3.new hx, .inl upd_same⟩) ((rp.cut lo hi).mono (.same sm))))
  · rename_i z ed
    simp only at ed
    subst ed
    split at hh
    case isFalse => exact hh.elim
    case isTrue hz =>
    obtain ⟨_, rfl⟩ := a1.str
    exact .inr ⟨z, rfl, hz, hh _ S3 H3 [] s3 mm cc (.zero (.str _))⟩
  · exact hh.elim
theorem n_rev {k : Nat} {p1 p3 : Pos} (he : PE X e (tE X.K X.mg W p f)) : PE X (.Subscript e (.Slice none none (some (.UnaryOp .USub (.Constant (.int 1) k p1) p2)) p3) pos) (tN X.K X.mg W 1 (nRev f)) := peI (pe_revL he) fun σ H Q hh => by
  obtain ⟨C, ρ, S, sim, hh⟩ := hh
  refine tE_bind (G := fun z => NOk X.K X.mg C ρ S σ H W 1 z Q) sim hh id (fun x ρ' z => z) ?_
  intro n d ρ1 v S1 H1 fp1 _ hh s1 m1 c1 a1
  split at hh
  · rename_i ds ed
    simp only at ed
    subst ed
    split at hh
    case isFalse => exact hh.elim
    case isTrue hc =>
    simp only at hc
    obtain ⟨t, vs, F, rfl, sq, als, _⟩ := a1.list
    have hn : n - 1 = 0 := by omega
    rw [hn] at als
    obtain ⟨rp, _⟩ := als.rep
    refine ⟨t, vs, rfl, sq, fun x hx => ?_⟩
    obtain ⟨fps, s1⟩ := s1
    obtain ⟨s4, np, h0⟩ := s1.fresh (o := .lst vs.reverse) hx
    have tr : Tr S1 H1 (fun b => S1 b ∨ b = x) (upd H1 x (.lst vs.reverse)) := .fresh hx
    refine hh (.ref x) _ _ fps [x] s4 (m1.1.trans tr) (.lst (.inr rfl) upd_same (Als.zero (rp.reverse.mono tr))) (by simp) fun b hb => ?_
    have e : b = x := by simpa using hb
    subst e
    exact ⟨.inr h0, np⟩
  · exact hh.elim
end
end
end VL

namespace VL
open PySem PySem.Spec PyProof.Rows L2

/-! ## a dict is walked: it is locked the while -/
section
variable {K : PySem.W.Frag} {mg : Str → Option Value} {C : Ctx} {fps fps' : Nat → List Addr} {ρ ρ' : En} {S S' : Own} {σ σ' : L2.St} {H H2 : Hp} {a : Addr} {o : Obj} {u : HO}
theorem trLock (hp : Pl u) (e : H a = some u) : Tr S H S (upd H a (.frz o u)) := by
  refine ⟨fun b x px n r => ?_, fun _ z => .inl z, fun b z => ?_⟩
  · by_cases eb : b = a
    · subst eb
      rcases r with r | ⟨o', r⟩
      · rw [e] at r; cases r; exact .inr ⟨o, upd_same⟩
      · rw [e] at r; cases r; exact hp.elim
    · rcases r with r | ⟨o', r⟩
      · exact .inl (by rw [upd_ne eb]; exact r)
      · exact .inr ⟨o', by rw [upd_ne eb]; exact r⟩
  · by_cases eb : b = a
    · subst eb; rw [upd_same] at z; cases z
    · rw [upd_ne eb] at z; exact z
theorem trUnlock (e : H a = some (.frz o u)) : Tr S H S (upd H a u) := by
  refine ⟨fun b x px n r => ?_, fun _ z => .inl z, fun b z => ?_⟩
  · by_cases eb : b = a
    · subst eb
      rcases r with r | ⟨o', r⟩
      · rw [e] at r; cases r; exact px.elim
      · rw [e] at r; cases r; exact .inl upd_same
    · rcases r with r | ⟨o', r⟩
      · exact .inl (by rw [upd_ne eb]; exact r)
      · exact .inr ⟨o', by rw [upd_ne eb]; exact r⟩
  · by_cases eb : b = a
    · subst eb; rw [upd_same] at z; cases z
    · rw [upd_ne eb] at z; exact z
theorem alAt {n : Nat} {v : V} {d : D} {fp : List Addr} {x : HO} (h : Al K S H n v d fp) (t : Tr S H S (upd H a x)) (ns : ¬ S a) : Al K S (upd H a x) n v d fp :=
  h.mono t fun b hb => ⟨upd_ne fun z => ns (z ▸ (h.there b hb).2), (h.there b hb).2⟩
theorem lockS (h : SimF K C fps ρ S σ H) (hp : Pl u) (e : H a = some u) (ns : ¬ S a) : SimF K (C.re S (upd H a (.frz o u))) fps ρ S σ (upd H a (.frz o u)) := by
  have t : Tr S H S (upd H a (.frz o u)) := trLock hp e
  have g := h.re
  refine { len := h.len, sl := fun i s es => ?_, nd := h.nd, dj := h.dj, sub := g.sub, s0 := fun b hb => ?_, f0 := g.f0, zf := g.zf, bf := g.bf, zb := g.zb, frame := fun _ _ _ e => e, dom := fun _ e => e, sS := fun b hb => ?_, sd := fun b hb z => h.sd b hb (t.dom b z), out := h.out }
  · obtain ⟨x, ex, k⟩ := h.sl i s es
    refine ⟨x, ex, ?_⟩
    have th := k.there
    generalize fps i = f at k th
    cases k with
    | non => exact .non
    | val r => exact .val (r.mono t)
    | own al z => exact .own (alAt al t ns) fun b hb => .inl ⟨(th b hb).2, id, z b hb⟩
    | bor al w z => exact .bor (alAt al t ns) w fun b hb => .inl ⟨(th b hb).2, id, z b hb⟩
  · exact fun z => g.s0 b hb (t.dom b z)
  · exact (h.sS b hb).imp .inl fun z => .inl ⟨hb, id, z⟩
theorem lockedS (h : SimF K C fps ρ S σ H) (hp : Pl u) (e : H a = some u) (ns : ¬ S a) (g : SimF K (C.re S (upd H a (.frz o u))) fps' ρ' S' σ' H2) : H2 a = some (.frz o u) ∧ ¬ S' a := by
  refine ⟨g.frame a _ (fun z => ns z.1) upd_same, fun z => ?_⟩
  rcases g.sS a z with (y | y) | y | y
  · exact ns (h.sub a y)
  · exact y.elim
  · exact ns y.1
  · have y' : upd H a (.frz o u) a = none := y
    rw [upd_same] at y'; cases y'
theorem unlockS (h : SimF K C fps ρ S σ H) (hp : Pl u) (e : H a = some u) (ns : ¬ S a) (g : SimF K (C.re S (upd H a (.frz o u))) fps' ρ' S' σ' H2) : SimF K C fps' ρ' S' σ' (upd H2 a u) := by
  obtain ⟨e2, ns2⟩ := lockedS h hp e ns g
  have t : Tr S' H2 S' (upd H2 a u) := trUnlock e2
  have t0 : Tr S H S (upd H a (.frz o u)) := trLock hp e
  refine { len := g.len, sl := fun i s es => ?_, nd := g.nd, dj := g.dj, sub := fun b hb => g.sub b (.inl hb), s0 := h.s0, f0 := h.f0, zf := h.zf, bf := h.bf, zb := h.zb, frame := fun b x n ex => ?_, dom := fun b z => h.dom b (t0.dom b (g.dom b (t.dom b z))), sS := fun b hb => ?_, sd := fun b hb z => g.sd b hb (t.dom b z), out := g.out }
  · obtain ⟨x, ex, k⟩ := g.sl i s es
    refine ⟨x, ex, ?_⟩
    have th := k.there
    generalize fps' i = f at k th
    cases k with
    | non => exact .non
    | val r => exact .val (r.mono t)
    | own al z => exact .own (alAt al t ns2) fun b hb => (z b hb).elim (fun y => y.2.2) fun y => .inr (h.dom b (t0.dom b y))
    | bor al w z => exact .bor (alAt al t ns2) w fun b hb => (z b hb).elim (fun y => y.2.2) fun y => .inr (h.dom b (t0.dom b y))
  · have e1 := h.frame b x n ex
    by_cases eb : b = a
    · subst eb; rw [e] at e1; cases e1; exact upd_same
    · rw [upd_ne eb]
      exact g.frame b x (fun z => z.2.2.elim n fun y => by rw [y] at ex; cases ex) (by show upd H a (.frz o u) b = some x; rw [upd_ne eb]; exact e1)
  · rcases g.sS b hb with (z | z) | z | z
    · exact .inl z
    · exact z.elim
    · exact .inr z.2.2
    · exact .inr (.inr (h.dom b (t0.dom b z)))
end
/-! ### the ends, with something still locked -/
/-- Q, or Q once something is let go -/
def unl {α : Type} (F : Hp) (Q : α → Hp → Prop) : α → Hp → Prop := fun x H => Q x H ∨ ∃ a o u, H a = some (.frz o u) ∧ (∀ o' u', F a ≠ some (.frz o' u')) ∧ Q x (upd H a u)
def unlD (F : Hp) (E : Ends) : Ends := ⟨unl F E.nx, unl F E.rt, unl F E.bk, unl F E.ct⟩
def Lw (F : Hp) (W : WX) : WX := fun cls dd σ H => unl F (fun σ H => W cls dd σ H) σ H
section
variable {X : Cx}
theorem ps_unl {st : Stmt} {t : TS} (h : PS X st t) : PS X st (fun E σ H => t (unlD X.H_0 E) σ H) := by
  refine ⟨fun pins s σ H E I hw => ?_⟩
  refine thn (h.run pins s σ _ _ I hw) fun f s1 q => ?_
  cases f with
  | next =>
    obtain ⟨σ', H', I2, q⟩ := q
    rcases q with q | ⟨a, o, u, e, nf, q⟩
    · exact ⟨σ', _, I2, q⟩
    · exact ⟨σ', _, I2.unlock e nf, q⟩
  | brk =>
    obtain ⟨σ', H', I2, q⟩ := q
    rcases q with q | ⟨a, o, u, e, nf, q⟩
    · exact ⟨σ', _, I2, q⟩
    · exact ⟨σ', _, I2.unlock e nf, q⟩
  | cont =>
    obtain ⟨σ', H', I2, q⟩ := q
    rcases q with q | ⟨a, o, u, e, nf, q⟩
    · exact ⟨σ', _, I2, q⟩
    · exact ⟨σ', _, I2.unlock e nf, q⟩
  | ret v =>
    obtain ⟨x, σ', H', I2, r, q⟩ := q
    rcases q with q | ⟨a, o, u, e, nf, q⟩
    · exact ⟨x, σ', _, I2, r, q⟩
    · exact ⟨x, σ', _, I2.unlock e nf, r, q⟩
theorem pe_unl {e : Expr} {t : TE} (h : PE X e t) : PE X e (fun σ H Q => t σ H (unl X.H_0 Q)) := by
  refine ⟨fun pins s σ H Q I hw => ?_⟩
  refine thn (h.run pins s σ _ _ I hw) fun v s1 ⟨x, H1, I2, r, q⟩ => ?_
  rcases q with q | ⟨a, o, u, e, nf, q⟩
  · exact ⟨x, _, I2, r, q⟩
  · exact ⟨x, _, I2.unlock e nf, r, q⟩
theorem takes_unl {W : WX} (tk : Takes X W) : Takes X (Lw X.H_0 W) := by
  intro u s' ⟨a, B, sI, pins, σ, H, cls, d, e, I, nb, up, sky, na, os, ag, w⟩
  rcases w with w | ⟨p, o, x, ep, nf, w⟩
  · exact tk u s' ⟨a, B, sI, pins, σ, H, cls, d, e, I, nb, up, sky, na, os, ag, w⟩
  · refine tk u s' ⟨a, B, sI, pins, σ, _, cls, d, e, I.unlock ep nf, nb, up, sky, ?_, os, ag, w⟩
    rw [upd_ne (fun z => by rw [z, ep] at na; cases na)]
    exact na
/-- the dict is locked here -/
def iKeysL (F : Hp) (td : TE) : TI := fun σ H R => td σ H fun x H1 => ∃ d, x = .ref d ∧ ((∃ o kvs, H1 d = some (.frz o (.dK kvs)) ∧ R (Itk d o kvs) H1) ∨
  ∃ kvs, H1 d = some (.dK kvs) ∧ ∀ o, (∀ o' u', F d ≠ some (.frz o' u')) → R (Itk d o kvs) (upd H1 d (.frz o (.dK kvs))))
theorem pi_keysL {tg e : Expr} {td : TE} (he : PE X e td) : PI X tg e (iKeysL X.H_0 td) := by
  refine ⟨fun pins s σ H R I h => ?_⟩
  refine thn (he.run pins s σ H _ I h) fun u s1 ⟨x, H1, I1, rx, d, ex, q⟩ => ?_
  subst ex
  obtain rfl : u = Value.ref d := rx
  have go : ∀ (o : Obj) (kvs : List (Key × V)) (H1 : Hp), Inv X pins σ H1 s1 → H1 d = some (.frz o (.dK kvs)) → R (Itk d o kvs) H1 → wpAny (model X.prog X.w) X.A (pyIter (.ref d)) (PIE X pins σ tg R) X.xe s1 := fun o kvs H1 I1 hd q => by
    obtain ⟨hs, hgd, hx, es, ep, vs, hdt, hsz, kv, hm⟩ := I1.frzK hd
    refine iter_keys hs hgd hx hdt (pi_one (tk := s1.toks) I1 _ (turn_keys _ hdt) ⟨_, Heap.get?_push_size _ rfl, rfl, ?_⟩ q)
    rw [hsz] <;> rfl
  rcases q with ⟨o, kvs, hd, q⟩ | ⟨kvs, hd, q⟩
  · exact go o kvs H1 I1 hd q
  · obtain ⟨od, I2⟩ := I1.lock hd trivial
    exact go od kvs _ I2 upd_same (q od (I1.nofrz hd trivial))
end
/-- the keys of a dict -/
def keysD (a : Nat × D) : Option (List D) := if a.1 = 0 then (match a.2 with | .dic kds => some (kds.map fun kd => keyD kd.1) | _ => none) else none
def iDic (f : EM (Nat × D)) : EM (List D) := f.then fun a ρ => match keysD a with | some ds => .ok ds ρ | none => .bad
theorem keysD_eq {a : Nat × D} {ds : List D} (e : keysD a = some ds) : ∃ kds, a = (0, .dic kds) ∧ ds = kds.map fun kd => keyD kd.1 := by
  obtain ⟨n, d⟩ := a
  unfold keysD at e
  split at e
  · rename_i hn
    simp only at hn
    subst hn
    split at e
    · rename_i kds ed
      simp only at ed
      subst ed
      cases e
      exact ⟨kds, rfl, rfl⟩
    · cases e
  · cases e
theorem keys_get {kds : List (Key × D)} {vs : List (Key × V)} (hk : vs.map (·.1) = kds.map (·.1)) {i : Nat} : (∀ d, (kds.map fun kd => keyD kd.1)[i]? = some d → ∃ k v, vs[i]? = some (k, v) ∧ d = keyD k) := by
  intro d e
  have e1 : (kds.map (·.1))[i]?.map keyD = some d := by rw [← List.getElem?_map, List.map_map]; exact e
  rw [← hk, List.getElem?_map, Option.map_map] at e1
  obtain ⟨⟨k, v⟩, e2, e3⟩ := Option.map_eq_some_iff.mp e1
  exact ⟨k, v, e2, e3.symm⟩
section
variable {K : PySem.W.Frag} {mg : Str → Option Value} {C : Ctx} {fps : Nat → List Addr} {ρ ρ' : En} {S S' : Own} {σ σ' : L2.St} {H H2 : Hp} {a : Addr} {o : Obj} {u : HO}
theorem xokTr {x : Ex} {cls : Value} {dd : Option Addr} (t : Tr S H S' H2) (k : ∀ q kvs, H q = some (.xd kvs) → H2 q = some (.xd kvs)) (h : XOk K mg S H x cls dd) : XOk K mg S' H2 x cls dd := by
  obtain ⟨p, e1, e2, h⟩ := h
  refine ⟨p, e1, e2, h.imp id ?_⟩
  rintro ⟨q, kvs, e3, e4, e5, rp⟩
  exact ⟨q, kvs, e3, k q kvs e4, e5, rp.mono t⟩
theorem SOk.lock {W : WX} {r : Nat} {res : SR} {Dn : Ends} {F : Hp} (h : SimF K C fps ρ S σ H) (hp : Pl u) (e : H a = some u) (ns : ¬ S a) (nf : ∀ o' u', F a ≠ some (.frz o' u')) (q : SOk K mg C W r res Dn) :
    SOk K mg (C.re S (upd H a (.frz o u))) (Lw F W) r res (unlD F Dn) := by
  cases res with
  | nx ρ' => exact fun σ' S' H' ⟨fps', g⟩ => .inr ⟨a, o, u, (lockedS h hp e ns g).1, nf, q σ' S' _ ⟨fps', unlockS h hp e ns g⟩⟩
  | ct ρ' => exact fun σ' S' H' ⟨fps', g⟩ => .inr ⟨a, o, u, (lockedS h hp e ns g).1, nf, q σ' S' _ ⟨fps', unlockS h hp e ns g⟩⟩
  | bk ρ' => exact fun σ' S' H' ⟨fps', g⟩ => .inr ⟨a, o, u, (lockedS h hp e ns g).1, nf, q σ' S' _ ⟨fps', unlockS h hp e ns g⟩⟩
  | rt n d ρ' =>
    refine ⟨q.1, fun v σ' S' H' fps' fp g al nd z => .inr ⟨a, o, u, (lockedS h hp e ns g).1, nf, q.2 v σ' S' _ fps' fp (unlockS h hp e ns g) (alAt al (trUnlock (lockedS h hp e ns g).1) (lockedS h hp e ns g).2) nd fun b hb => ?_⟩⟩
    have t0 : Tr S H S (upd H a (.frz o u)) := trLock hp e
    exact ⟨(z b hb).1.elim (fun y => y.2.2) fun y => .inr (h.dom b (t0.dom b y)), (z b hb).2⟩
  | err x ρ' =>
    intro cls dd σ' S' H' g xo
    obtain ⟨fps', g⟩ := g
    have l := lockedS h hp e ns g
    refine .inr ⟨a, o, u, l.1, nf, q cls dd σ' S' _ ⟨fps', unlockS h hp e ns g⟩ (xokTr (trUnlock l.1) (fun p kvs ep => ?_) xo)⟩
    rw [upd_ne (fun z => by rw [z, l.1] at ep; cases ep)]
    exact ep
  | bad => exact q
theorem SOk.mono {W W' : WX} {r : Nat} {res : SR} {Dn Dn' : Ends} (q : SOk K mg C W r res Dn) (hW : ∀ c d σ H, W c d σ H → W' c d σ H) (h1 : ∀ σ H, Dn.nx σ H → Dn'.nx σ H) (h2 : ∀ v H, Dn.rt v H → Dn'.rt v H) (h3 : ∀ σ H, Dn.bk σ H → Dn'.bk σ H) (h4 : ∀ σ H, Dn.ct σ H → Dn'.ct σ H) : SOk K mg C W' r res Dn' := by
  cases res with
  | nx ρ' => exact fun σ' S' H' g => h1 _ _ (q σ' S' H' g)
  | ct ρ' => exact fun σ' S' H' g => h4 _ _ (q σ' S' H' g)
  | bk ρ' => exact fun σ' S' H' g => h3 _ _ (q σ' S' H' g)
  | rt n d ρ' => exact ⟨q.1, fun v σ' S' H' fps' fp g al nd z => h2 _ _ (q.2 v σ' S' H' fps' fp g al nd z)⟩
  | err x ρ' => exact fun cls dd σ' S' H' g xo => hW _ _ _ _ (q cls dd σ' S' H' g xo)
  | bad => exact q
theorem jok_keys {kds : List (Key × D)} {vs : List (Key × V)} (hk : vs.map (·.1) = kds.map (·.1)) (e : H a = some (.frz o (.dK vs))) (i : Nat) :
    (∀ d, (kds.map fun kd => keyD kd.1)[i]? = some d → (Itk a o vs).go i H ∧ ∀ x H2, (Itk a o vs).yld i H x H2 → Same H H2 ∧ Rep K S H2 x d) ∧ ((kds.map fun kd => keyD kd.1).length ≤ i → (Itk a o vs).stop i H) := by
  have hl : vs.length = kds.length := by have := congrArg List.length hk; simpa using this
  refine ⟨fun d ed => ?_, fun hi => ⟨e, by rw [hl]; simpa using hi⟩⟩
  obtain ⟨k, v, ev, rfl⟩ := keys_get hk d ed
  refine ⟨⟨e, ?_⟩, fun x H2 hy => ?_⟩
  · exact (List.getElem?_eq_some_iff.mp ev).1
  · obtain ⟨rfl, k', v', e', rfl⟩ := hy
    rw [ev] at e'
    cases e'
    exact ⟨Same.refl _, rep_keyD k⟩
end
section
variable {X : Cx} {W : WX} {p : Bool} {r : Nat}
/-- for k in d -/
theorem w_forD {fg is : List Nat} {tg iter : Expr} {body : List Stmt} {f : EM (Nat × D)} {gt : D → SM} {gb : SM} {pos : Pos} (hp : PassesOwn (model X.prog X.w) X.A X.env X.xe) (hc : X.calm = true) (hi : PE X iter (tE X.K X.mg W p f)) (hg : PG X tg (tG X.K is gt))
    (hb : PSs X body (tS X.K X.mg (Lw X.H_0 W) r gb)) (hs : ∀ x, foldedSetIterable iter X.env x = pure x := by intro _; rfl) : PS X (.For tg iter body [] pos) (tS X.K X.mg W r (sFor fg (iDic f) gt gb)) := psI (ps_unl (ps_for hp hc (pi_keysL hi) hg hb hs)) fun Dn σ H h => by
  obtain ⟨C, ρ, S, sim, h⟩ := h
  have h : SOk X.K X.mg C W r (f.s (fun a ρ1 => match keysD a with | some ds => forL fg gt gb ds ρ1 | none => .bad) ρ) Dn := by
    unfold sFor iDic EM.s EM.then at h
    unfold EM.s
    cases e : f ρ with
    | ok a ρ1 =>
      rw [e] at h
      dsimp only at h ⊢
      cases ek : keysD a with
      | some ds => rw [ek] at h; exact h
      | none => rw [ek] at h; exact h
    | err x ρ1 => rw [e] at h; exact h
    | bad => rw [e] at h; exact h
  refine tE_s sim h ?_
  intro n d ρ1 v S1 H1 fp1 _ h s1 m1 a1
  split at h
  case h_2 => exact h.elim
  rename_i ds ed
  obtain ⟨kds, e1, rfl⟩ := keysD_eq ed
  cases e1
  obtain ⟨fps, s1⟩ := s1
  cases a1 with
  | zero rp =>
    cases rp with
    | @dic a vs _ ns rd rk =>
      have hk := rk.length.2
      refine ⟨a, rfl, ?_⟩
      rcases rd with rd | ⟨o, rd⟩
      · refine .inr ⟨vs, rd, fun o nf => ?_⟩
        have g := lockS (o := o) s1 (u := .dK vs) trivial rd ns
        refine for_core (fg := fg) (C := C.re S1 (upd H1 a (.frz o (.dK vs)))) ⟨fps, g⟩ (fun ρ' S' σ' H' z i => ?_) (SOk.lock s1 trivial rd ns nf h)
        obtain ⟨_, z⟩ := z
        exact jok_keys hk (lockedS (u := .dK vs) s1 trivial rd ns z).1 i
      · refine .inl ⟨o, vs, rd, ?_⟩
        refine for_core (fg := fg) (C := C.re S1 H1) ⟨fps, s1.re⟩ (fun ρ' S' σ' H' z i => jok_keys hk ((Sim.kept s1 z).ex a _ ns rd) i) ?_
        have q := SOk.mono (Dn' := unlD X.H_0 Dn) (W' := Lw X.H_0 W) h (fun _ _ _ _ => .inl) (fun _ _ => .inl) (fun _ _ => .inl) (fun _ _ => .inl) (fun _ _ => .inl)
        exact SOk.re s1 q (fun _ _ z => z) (fun ρ' e => by rw [e] at q; exact fun σ' S' H' z => q σ' S' H' (Sim.back s1 z)) (fun ρ' e => by rw [e] at q; exact fun σ' S' H' z => q σ' S' H' (Sim.back s1 z)) (fun ρ' e => by rw [e] at q; exact fun σ' S' H' z => q σ' S' H' (Sim.back s1 z))
end
end VL

namespace VL
open PySem PySem.Spec PyProof.Rows L2

/-! ## comprehensions, from any iterator -/
section
variable {K : PySem.W.Frag} {mg : Str → Option Value} {C : Ctx} {fps1 : Nat → List Addr} {ρ1 ρe : En} {S1 : Own} {σ : L2.St} {H1 : Hp} {J : It} {ds : List D} {is vs : List Nat} {gt : D → SM} {c : EM Bool} {n : Nat} {q q2 : Bool} {Q : VK}
theorem lcC {e : EM D} {xs : List D} (s1 : SimF K C fps1 ρ1 S1 σ H1) (jok : JOk K J ds S1 H1) (his : ∀ i ∈ is, i ∈ vs) (el : lcL vs gt c e ds (forget vs ρ1) = .ok xs ρe) (hlen : xs.length ≤ sizeLine)
    (h : ∀ v S' H' fps fp, SimF K C fps (restoreV vs ρ1 ρe) S' σ H' → Tr S1 H1 S' H' → Al K S' H' (n + 1) v (.lst xs) fp → fp.Nodup → (∀ b ∈ fp, (C.Z b ∨ C.H0 b = none) ∧ ∀ i, b ∉ fps i) → Q v H') (D : Addr) (hD : H1 D = none) :
    ∃ Wf : Nat → Nat → Hp → Prop, (∃ m, Wf 0 m (upd H1 D (.lst []))) ∧ ∀ i m H, Wf i m H → (J.stop i H ∧ Q (.ref D) H) ∨ (J.go i H ∧ ∃ Nx : Hp → Prop, (∀ H', Nx H' → ∃ m', m' < m ∧ Wf (i + 1) m' H') ∧ ∀ x H', J.yld i H x H' → tG K is gt x (wipe σ vs) H' fun σ2 H2 => wipe σ2 vs = wipe σ vs ∧ tB' K mg W0 q c σ2 H2 fun b H3 =>
      if b = true then tN K mg W0 n e σ2 H3 fun y H4 => ∃ acc, H4 D = some (.lst acc) ∧ acc.length < sizeLine ∧ Nx (upd H4 D (.lst (acc ++ [y]))) else Nx H3) := by
  obtain ⟨fpsw, sw, gw⟩ := s1.wiped vs
  obtain ⟨sf, nf, h0⟩ := sw.fresh (o := .lst []) hD
  refine ⟨fun i m H' => ∃ fps ρ' S' accV acc accF xs', SimF K C fps ρ' S' (wipe σ vs) H' ∧ Keep S1 H1 S' H' ∧ H' D = some (.lst accV) ∧ Als K S' H' n accV acc accF ∧ (D :: accF).Nodup ∧ (∀ b ∈ D :: accF, S' b ∧ (C.Z b ∨ C.H0 b = none) ∧ ∀ i, b ∉ fps i) ∧
    lcL vs gt c e (ds.drop i) ρ' = .ok xs' ρe ∧ acc ++ xs' = xs ∧ m = ds.length - i ∧ ∃ ρ0, ρ' = forget vs ρ0, ⟨ds.length, fpsw, _, _, [], [], [], xs, sf, .fresh hD, upd_same, .nil, by simp, ?_, by simpa using el, rfl, by simp, _, rfl⟩, fun i m H2 hW => ?_⟩
  · intro b hb
    have e : b = D := by simpa using hb
    subst e
    exact ⟨.inr rfl, .inr h0, nf⟩
  obtain ⟨fps2, ρ2, S2, accV, acc, accF, xs', s2, kp, hDl, als, nd, hY, ell, exs, rfl, h0'⟩ := hW
  obtain ⟨j1, j2⟩ := jok S2 H2 kp s2.sd i
  by_cases hil : i < ds.length
  case neg =>
    left
    refine ⟨j2 (by omega), ?_⟩
    rw [List.drop_eq_nil_of_le (by omega)] at ell
    simp only [lcL, R.ok.injEq] at ell
    obtain ⟨e1, e2⟩ := ell
    subst e1 e2
    rw [List.append_nil] at exs
    subst exs
    have s3 : SimF K C fps2 ρ2 S2 σ H2 := by
      refine s2.sig (wipe_length σ vs).symm fun j m ej => ?_
      obtain ⟨ρ0, rfl⟩ := h0'
      rw [getElem?_forget] at ej
      split at ej
      · cases ej
      · rename_i cc
        have hl2 := s2.len
        rw [length_forget, wipe_length] at hl2
        rw [getElem?_wipe, if_neg (by rw [hl2]; exact cc)]
    have hl3 : ρ2.length = ρ1.length := by
      have a1 := s1.len
      have a2 := s3.len
      omega
    obtain ⟨fps3, s4, g4⟩ := restore_ok s1 kp.tr (vs := vs) s3 hl3
    exact h (.ref D) S2 H2 fps3 (D :: accF) s4 kp.tr (.lst (hY D List.mem_cons_self).1 hDl als) nd fun b hb => ⟨(hY b hb).2.1, fun i z => (hY b hb).2.2 i (g4 i b z)⟩
  right
  have ed : ds[i]? = some ds[i] := List.getElem?_eq_getElem hil
  obtain ⟨jg, jy⟩ := j1 _ ed
  rw [List.drop_eq_getElem_cons hil] at ell
  refine ⟨jg, _, fun H' z => ⟨ds.length - (i + 1), by omega, z⟩, fun x H3 hy => ?_⟩
  obtain ⟨sm, rx⟩ := jy x H3 hy
  have s3 := s2.same sm
  have hY3 : ∀ b, b ∈ D :: accF → S2 b ∧ ∀ i, b ∉ fps2 i := fun b hb => ⟨(hY b hb).1, (hY b hb).2.2⟩
  have sY := s3.reY (Y := fun b => b ∈ D :: accF) hY3
  unfold lcL at ell
  cases eg : gt ds[i] ρ2 with
  | rt n d ρ3 => rw [eg] at ell; cases ell
  | bk ρ3 => rw [eg] at ell; cases ell
  | ct ρ3 => rw [eg] at ell; cases ell
  | err x ρ3 => rw [eg] at ell; cases ell
  | bad => rw [eg] at ell; cases ell
  | nx ρ3 =>
  rw [eg] at ell
  dsimp only at ell
  refine ⟨_, ρ2, S2, ds[i], ⟨fps2, sY⟩, rx, ρ3, eg, fun σ4 H4 s4 sm4 off => ?_⟩
  have ew := wipe_eq off his
  refine ⟨ew, _, ρ3, S2, s4, ?_⟩
  -- behind the element, the next turn's state
  have next : ∀ {ρ6 : En} {S6 : Own} {H6 : Hp} {fps6 : Nat → List Addr}, SimF K (C.reY S2 H3 fun b => b ∈ D :: accF) fps6 ρ6 S6 σ4 H6 →
      (∃ fps7, SimF K C fps7 (forget vs ρ6) S6 (wipe σ vs) H6 ∧ ∀ j b, b ∈ fps7 j → b ∈ fps6 j) ∧ Keep S1 H1 S6 H6 ∧ H6 D = some (.lst accV) ∧ Als K S6 H6 n accV acc accF ∧ (∀ b ∈ D :: accF, S6 b ∧ (C.Z b ∨ C.H0 b = none) ∧ ∀ i, b ∉ fps6 i) := by
    intro ρ6 S6 H6 fps6 s6
    have hYs : ∀ b, b ∈ D :: accF → S2 b := fun b hb => (hY b hb).1
    have b6 := SimF.back s3 hYs s6
    have k6 := SimF.kept s3 hYs s6
    have ap : ∀ b, b ∈ D :: accF → H6 b = H3 b ∧ S6 b ∧ ∀ i, b ∉ fps6 i := fun b hb => SimF.apart s3 s6 hb (hYs b hb)
    obtain ⟨f7, s7, g7⟩ := b6.wiped vs
    rw [ew] at s7
    refine ⟨⟨f7, s7, g7⟩, (kp.trans (.same sm)).trans k6, (ap D List.mem_cons_self).1.trans (sm _ _ hDl), ?_, fun b hb => ⟨(ap b hb).2.1, (hY b hb).2.1, (ap b hb).2.2⟩⟩
    have a3 : Als K S2 H3 n accV acc accF := als.mono (.same sm) fun b hb => by
      obtain ⟨z1, z2⟩ := als.there b hb
      cases eb : H2 b with
      | none => exact absurd eb z1
      | some u => exact ⟨sm b u eb, z2⟩
    exact a3.mono k6.tr fun b hb => ⟨(ap b (List.mem_cons_of_mem _ hb)).1, (ap b (List.mem_cons_of_mem _ hb)).2.1⟩
  cases ec : c ρ3 with
  | err x ρ5 => rw [ec] at ell; cases ell
  | bad => rw [ec] at ell; cases ell
  | ok b ρ5 =>
  rw [ec] at ell
  intro S5 H5 s5 m5 c5
  cases b with
  | false =>
    rw [if_neg Bool.false_ne_true]
    obtain ⟨fps5, s5⟩ := s5
    obtain ⟨⟨f7, s7, g7⟩, k7, d7, a7, y7⟩ := next s5
    exact ⟨f7, _, S5, accV, acc, accF, xs', s7, k7, d7, a7, nd, fun b hb => ⟨(y7 b hb).1, (y7 b hb).2.1, fun i z => (y7 b hb).2.2 i (g7 i b z)⟩, ell, exs, rfl, _, rfl⟩
  | true =>
  dsimp only at ell
  rw [if_pos rfl]
  cases ee : e ρ5 with
  | err x ρ6 => rw [ee] at ell; cases ell
  | bad => rw [ee] at ell; cases ell
  | ok xd ρ6 =>
  rw [ee] at ell
  dsimp only at ell
  split at ell
  case h_2 => cases ell
  case h_1 xs2 ρ4 e4 =>
  simp only [R.ok.injEq] at ell
  obtain ⟨ex1, ex2⟩ := ell
  subst ex1 ex2
  refine ⟨_, ρ5, S5, s5, ?_⟩
  rw [ee]
  intro y S6 H6 fps6 fp6 s6 t6 al6 nd6 z6
  obtain ⟨⟨f7, s7, g7⟩, k7, d7, a7, y7⟩ := next s6
  have nY : ∀ b ∈ fp6, b ∉ D :: accF := fun b hb hm => by
    rcases (z6 b hb).1 with z | z
    · exact z.2.1 hm
    · exact s3.sd b (hY b hm).1 z
  have hal := als.length
  refine ⟨accV, d7, ?_, ?_⟩
  · have : (acc ++ xd :: xs2).length ≤ sizeLine := by rw [exs]; exact hlen
    simp only [List.length_append, List.length_cons] at this
    omega
  have dn : D ∉ accF := (List.nodup_cons.mp nd).1
  have hDd := y7 D List.mem_cons_self
  have s8 := s7.writeX (o := .lst (accV ++ [y])) hDd.1 (fun i z => hDd.2.2 i (g7 i D z)) hDd.2.1
  have tw : Tr S6 H6 S6 (upd H6 D (.lst (accV ++ [y]))) := .write hDd.1
  refine ⟨f7, _, S6, accV ++ [y], acc ++ [xd], accF ++ fp6, xs2, s8, k7.trans (.write hDd.1), upd_same, ?_, ?_, ?_, e4, by simpa using exs, rfl, _, rfl⟩
  · refine Als.snoc (a7.mono tw fun b hb => ⟨upd_ne fun z => dn (z ▸ hb), (y7 b (List.mem_cons_of_mem _ hb)).1⟩) (al6.mono tw fun b hb => ⟨upd_ne fun z => nY b hb (by rw [z]; exact List.mem_cons_self), (al6.there b hb).2⟩)
  · obtain ⟨n1, n2⟩ := List.nodup_cons.mp nd
    refine List.nodup_cons.mpr ⟨fun z => ?_, List.nodup_append.mpr ⟨n2, nd6, fun a ha b hb z => ?_⟩⟩
    · rcases List.mem_append.mp z with z | z
      · exact n1 z
      · exact nY D z List.mem_cons_self
    · exact nY b hb (by rw [← z]; exact List.mem_cons_of_mem _ ha)
  · intro b hb
    have old : b ∈ D :: accF → S6 b ∧ (C.Z b ∨ C.H0 b = none) ∧ ∀ i, b ∉ f7 i := fun hm => ⟨(y7 b hm).1, (y7 b hm).2.1, fun i z => (y7 b hm).2.2 i (g7 i b z)⟩
    rcases List.mem_cons.mp hb with rfl | hb
    · exact old List.mem_cons_self
    · rcases List.mem_append.mp hb with hb | hb
      · exact old (List.mem_cons_of_mem _ hb)
      · refine ⟨(al6.there b hb).2, ?_, fun i z => (z6 b hb).2 i (g7 i b z)⟩
        rcases (z6 b hb).1 with z | z
        · exact z.2.2
        · exact .inr (s3.dom b z)

/-! ### {k: v for ..} -/
def dcL (n : Nat) (vs : List Nat) (tg : D → SM) (c : EM Bool) (ek : EM (Nat × D)) (ev : EM D) : List D → List (Key × D) → EM (List (Key × D))
  | [], acc, ρ => .ok acc ρ
  | d :: ds, acc, ρ => match tg d ρ with
    | .nx ρ1 => (match c ρ1 with
      | .ok true ρ2 => (match ek ρ2 with
        | .ok kd ρ3 => (match ev ρ3 with
          | .ok x ρ4 => (match keyOf kd.2 with
            | some k => if acc.length < sizeLine ∧ (n = 0 ∨ hasD acc k = false) then dcL n vs tg c ek ev ds (putD acc k x) (forget vs ρ4) else .bad
            | none => .bad)
          | _ => .bad)
        | _ => .bad)
      | .ok false ρ2 => dcL n vs tg c ek ev ds acc (forget vs ρ2)
      | _ => .bad)
    | _ => .bad
def nDc (n : Nat) (vs : List Nat) (it : EM (List D)) (tg : D → SM) (c : EM Bool) (ek : EM (Nat × D)) (ev : EM D) : EM D := it.then fun ds ρ => match dcL n vs tg c ek ev ds [] (forget vs ρ) with
  | .ok acc ρ' => .ok (.dic acc) (restoreV vs ρ ρ')
  | _ => .bad
theorem dcC {ek : EM (Nat × D)} {ev : EM D} {xs : List (Key × D)} (s1 : SimF K C fps1 ρ1 S1 σ H1) (jok : JOk K J ds S1 H1) (his : ∀ i ∈ is, i ∈ vs) (el : dcL n vs gt c ek ev ds [] (forget vs ρ1) = .ok xs ρe)
    (h : ∀ v S' H' fps fp, SimF K C fps (restoreV vs ρ1 ρe) S' σ H' → Tr S1 H1 S' H' → Al K S' H' (n + 1) v (.dic xs) fp → fp.Nodup → (∀ b ∈ fp, (C.Z b ∨ C.H0 b = none) ∧ ∀ i, b ∉ fps i) → Q v H') (D : Addr) (hD : H1 D = none) :
    ∃ Wf : Nat → Nat → Hp → Prop, (∃ m, Wf 0 m (upd H1 D (.dK []))) ∧ ∀ i m H, Wf i m H → (J.stop i H ∧ Q (.ref D) H) ∨ (J.go i H ∧ ∃ Nx : Hp → Prop, (∀ H', Nx H' → ∃ m', m' < m ∧ Wf (i + 1) m' H') ∧ ∀ x H', J.yld i H x H' → tG K is gt x (wipe σ vs) H' fun σ2 H2 => wipe σ2 vs = wipe σ vs ∧ tB' K mg W0 q c σ2 H2 fun b H3 =>
      if b = true then tE K mg W0 q2 ek σ2 H3 fun y H4 => tN K mg W0 n ev σ2 H4 fun z H5 => ∃ kvs k, y = kV k ∧ H5 D = some (.dK kvs) ∧ kvs.length < sizeLine ∧ Nx (upd H5 D (.dK (putK kvs k z))) else Nx H3) := by
  obtain ⟨fpsw, sw, gw⟩ := s1.wiped vs
  obtain ⟨sf, nf, h0⟩ := sw.fresh (o := .dK []) hD
  refine ⟨fun i m H' => ∃ fps ρ' S' accV acc accF, SimF K C fps ρ' S' (wipe σ vs) H' ∧ Keep S1 H1 S' H' ∧ H' D = some (.dK accV) ∧ AlKs K S' H' n accV acc accF ∧ (D :: accF).Nodup ∧ (∀ b ∈ D :: accF, S' b ∧ (C.Z b ∨ C.H0 b = none) ∧ ∀ i, b ∉ fps i) ∧
    dcL n vs gt c ek ev (ds.drop i) acc ρ' = .ok xs ρe ∧ m = ds.length - i ∧ ∃ ρ0, ρ' = forget vs ρ0, ⟨ds.length, fpsw, _, _, [], [], [], sf, .fresh hD, upd_same, .nil, by simp, ?_, by simpa using el, by simp, _, rfl⟩, fun i m H2 hW => ?_⟩
  · intro b hb
    have e : b = D := by simpa using hb
    subst e
    exact ⟨.inr rfl, .inr h0, nf⟩
  obtain ⟨fps2, ρ2, S2, accV, acc, accF, s2, kp, hDl, als, nd, hY, ell, rfl, h0'⟩ := hW
  obtain ⟨j1, j2⟩ := jok S2 H2 kp s2.sd i
  by_cases hil : i < ds.length
  case neg =>
    left
    refine ⟨j2 (by omega), ?_⟩
    rw [List.drop_eq_nil_of_le (by omega)] at ell
    simp only [dcL, R.ok.injEq] at ell
    obtain ⟨e1, e2⟩ := ell
    subst e1 e2
    have s3 : SimF K C fps2 ρ2 S2 σ H2 := by
      refine s2.sig (wipe_length σ vs).symm fun j m ej => ?_
      obtain ⟨ρ0, rfl⟩ := h0'
      rw [getElem?_forget] at ej
      split at ej
      · cases ej
      · rename_i cc
        have hl2 := s2.len
        rw [length_forget, wipe_length] at hl2
        rw [getElem?_wipe, if_neg (by rw [hl2]; exact cc)]
    have hl3 : ρ2.length = ρ1.length := by
      have a1 := s1.len
      have a2 := s3.len
      omega
    obtain ⟨fps3, s4, g4⟩ := restore_ok s1 kp.tr (vs := vs) s3 hl3
    exact h (.ref D) S2 H2 fps3 (D :: accF) s4 kp.tr (.dic (hY D List.mem_cons_self).1 hDl als) nd fun b hb => ⟨(hY b hb).2.1, fun i z => (hY b hb).2.2 i (g4 i b z)⟩
  right
  have ed : ds[i]? = some ds[i] := List.getElem?_eq_getElem hil
  obtain ⟨jg, jy⟩ := j1 _ ed
  rw [List.drop_eq_getElem_cons hil] at ell
  refine ⟨jg, _, fun H' z => ⟨ds.length - (i + 1), by omega, z⟩, fun x H3 hy => ?_⟩
  obtain ⟨sm, rx⟩ := jy x H3 hy
  have s3 := s2.same sm
  have hY3 : ∀ b, b ∈ D :: accF → S2 b ∧ ∀ i, b ∉ fps2 i := fun b hb => ⟨(hY b hb).1, (hY b hb).2.2⟩
  have sY := s3.reY (Y := fun b => b ∈ D :: accF) hY3
  unfold dcL at ell
  cases eg : gt ds[i] ρ2 with
  | rt n d ρ3 => rw [eg] at ell; cases ell
  | bk ρ3 => rw [eg] at ell; cases ell
  | ct ρ3 => rw [eg] at ell; cases ell
  | err x ρ3 => rw [eg] at ell; cases ell
  | bad => rw [eg] at ell; cases ell
  | nx ρ3 =>
  rw [eg] at ell
  dsimp only at ell
  refine ⟨_, ρ2, S2, ds[i], ⟨fps2, sY⟩, rx, ρ3, eg, fun σ4 H4 s4 sm4 off => ?_⟩
  have ew := wipe_eq off his
  refine ⟨ew, _, ρ3, S2, s4, ?_⟩
  -- behind the element, the next turn's state
  have next : ∀ {ρ6 : En} {S6 : Own} {H6 : Hp} {fps6 : Nat → List Addr}, SimF K (C.reY S2 H3 fun b => b ∈ D :: accF) fps6 ρ6 S6 σ4 H6 →
      (∃ fps7, SimF K C fps7 (forget vs ρ6) S6 (wipe σ vs) H6 ∧ ∀ j b, b ∈ fps7 j → b ∈ fps6 j) ∧ Keep S1 H1 S6 H6 ∧ H6 D = some (.dK accV) ∧ AlKs K S6 H6 n accV acc accF ∧ (∀ b ∈ D :: accF, S6 b ∧ (C.Z b ∨ C.H0 b = none) ∧ ∀ i, b ∉ fps6 i) := by
    intro ρ6 S6 H6 fps6 s6
    have hYs : ∀ b, b ∈ D :: accF → S2 b := fun b hb => (hY b hb).1
    have b6 := SimF.back s3 hYs s6
    have k6 := SimF.kept s3 hYs s6
    have ap : ∀ b, b ∈ D :: accF → H6 b = H3 b ∧ S6 b ∧ ∀ i, b ∉ fps6 i := fun b hb => SimF.apart s3 s6 hb (hYs b hb)
    obtain ⟨f7, s7, g7⟩ := b6.wiped vs
    rw [ew] at s7
    refine ⟨⟨f7, s7, g7⟩, (kp.trans (.same sm)).trans k6, (ap D List.mem_cons_self).1.trans (sm _ _ hDl), ?_, fun b hb => ⟨(ap b hb).2.1, (hY b hb).2.1, (ap b hb).2.2⟩⟩
    have a3 : AlKs K S2 H3 n accV acc accF := als.mono (.same sm) fun b hb => by
      obtain ⟨z1, z2⟩ := als.there b hb
      cases eb : H2 b with
      | none => exact absurd eb z1
      | some u => exact ⟨sm b u eb, z2⟩
    exact a3.mono k6.tr fun b hb => ⟨(ap b (List.mem_cons_of_mem _ hb)).1, (ap b (List.mem_cons_of_mem _ hb)).2.1⟩
  cases ec : c ρ3 with
  | err x ρ5 => rw [ec] at ell; cases ell
  | bad => rw [ec] at ell; cases ell
  | ok b ρ5 =>
  rw [ec] at ell
  intro S5 H5 s5 m5 c5
  cases b with
  | false =>
    rw [if_neg Bool.false_ne_true]
    obtain ⟨fps5, s5⟩ := s5
    obtain ⟨⟨f7, s7, g7⟩, k7, d7, a7, y7⟩ := next s5
    exact ⟨f7, _, S5, accV, acc, accF, s7, k7, d7, a7, nd, fun b hb => ⟨(y7 b hb).1, (y7 b hb).2.1, fun i z => (y7 b hb).2.2 i (g7 i b z)⟩, ell, rfl, _, rfl⟩
  | true =>
  dsimp only at ell
  rw [if_pos rfl]
  cases eke : ek ρ5 with
  | err x ρ6 => rw [eke] at ell; cases ell
  | bad => rw [eke] at ell; cases ell
  | ok kd ρ5b =>
  rw [eke] at ell
  dsimp only at ell
  cases ee : ev ρ5b with
  | err x ρ6 => rw [ee] at ell; cases ell
  | bad => rw [ee] at ell; cases ell
  | ok xd ρ6 =>
  rw [ee] at ell
  dsimp only at ell
  cases ekk : keyOf kd.2 with
  | none => rw [ekk] at ell; cases ell
  | some k =>
  rw [ekk] at ell
  dsimp only at ell
  split at ell
  case isFalse => cases ell
  case isTrue hc2 =>
  refine ⟨_, ρ5, S5, s5, ?_⟩
  rw [eke]
  obtain ⟨kn, kdd⟩ := kd
  intro yk S5b H5b fpk s5b m5b c5b alk
  have eyk := alk.key ekk
  refine ⟨_, ρ5b, S5b, s5b, ?_⟩
  rw [ee]
  intro y S6 H6 fps6 fp6 s6 t6 al6 nd6 z6
  obtain ⟨⟨f7, s7, g7⟩, k7, d7, a7, y7⟩ := next s6
  have nY : ∀ b ∈ fp6, b ∉ D :: accF := fun b hb hm => by
    rcases (z6 b hb).1 with z | z
    · exact z.2.1 hm
    · exact s3.sd b (hY b hm).1 z
  refine ⟨accV, k, eyk, d7, by rw [als.length.1]; exact hc2.1, ?_⟩
  have dn : D ∉ accF := (List.nodup_cons.mp nd).1
  have hDd := y7 D List.mem_cons_self
  have s8 := s7.writeX (o := .dK (putK accV k y)) hDd.1 (fun i z => hDd.2.2 i (g7 i D z)) hDd.2.1
  have tw : Tr S6 H6 S6 (upd H6 D (.dK (putK accV k y))) := .write hDd.1
  have old : ∀ b, b ∈ D :: accF → S6 b ∧ (C.Z b ∨ C.H0 b = none) ∧ ∀ i, b ∉ f7 i := fun b hm => ⟨(y7 b hm).1, (y7 b hm).2.1, fun i z => (y7 b hm).2.2 i (g7 i b z)⟩
  rcases hc2.2 with hn | hn
  · subst hn
    obtain ⟨rq, rfl⟩ := a7.rep
    refine ⟨f7, _, S6, putK accV k y, putD acc k xd, [], s8, k7.trans (.write hDd.1), upd_same, AlKs.zero ((rq.mono tw).put ((Rep.zero al6).mono tw)), nd, old, ell, rfl, _, rfl⟩
  · have e1 : putK accV k y = accV ++ [(k, y)] := by
      unfold putK
      rw [als.hasIff k, hn, if_neg Bool.false_ne_true]
    have e2 : putD acc k xd = acc ++ [(k, xd)] := by
      unfold putD
      rw [hn, if_neg Bool.false_ne_true]
    rw [e2] at ell
    rw [e1] at s8 tw ⊢
    refine ⟨f7, _, S6, accV ++ [(k, y)], acc ++ [(k, xd)], accF ++ fp6, s8, k7.trans (.write hDd.1), upd_same, ?_, ?_, ?_, ell, rfl, _, rfl⟩
    · refine AlKs.snoc (a7.mono tw fun b hb => ⟨upd_ne fun z => dn (z ▸ hb), (y7 b (List.mem_cons_of_mem _ hb)).1⟩) (al6.mono tw fun b hb => ⟨upd_ne fun z => nY b hb (by rw [z]; exact List.mem_cons_self), (al6.there b hb).2⟩)
    · obtain ⟨n1, n2⟩ := List.nodup_cons.mp nd
      refine List.nodup_cons.mpr ⟨fun z => ?_, List.nodup_append.mpr ⟨n2, nd6, fun a ha b hb z => ?_⟩⟩
      · rcases List.mem_append.mp z with z | z
        · exact n1 z
        · exact nY D z List.mem_cons_self
      · exact nY b hb (by rw [← z]; exact List.mem_cons_of_mem _ ha)
    · intro b hb
      rcases List.mem_cons.mp hb with rfl | hb
      · exact old _ List.mem_cons_self
      · rcases List.mem_append.mp hb with hb | hb
        · exact old b (List.mem_cons_of_mem _ hb)
        · refine ⟨(al6.there b hb).2, ?_, fun i z => (z6 b hb).2 i (g7 i b z)⟩
          rcases (z6 b hb).1 with z | z
          · exact z.2.2
          · exact .inr (s3.dom b z)
end
end VL

namespace VL
open PySem PySem.Spec PyProof.Rows L2

section
variable {X : Cx} {W : WX} {p q q2 : Bool} {n : Nat}
theorem keys_then {α : Type} {f : EM (Nat × D)} {k : List D → EM α} {ρ : En} : (iDic f).then k ρ = f.then (fun a ρ1 => match keysD a with | some ds => k ds ρ1 | none => .bad) ρ := by
  unfold iDic EM.then
  cases e : f ρ with
  | ok a ρ1 =>
    dsimp only
    cases keysD a <;> rfl
  | err x ρ1 => rfl
  | bad => rfl
/-- any reading of the rest, from a walk over a dict's keys -/
theorem keys_core {f : EM (Nat × D)} {k : List D → EM D} {m : Nat} {C : Ctx} {ρ : En} {S : Own} {σ : L2.St} {H : Hp} {Q : VK} {R : It → Hp → Prop} (sim : Sim X.K C ρ S σ H) (h : NOk X.K X.mg C ρ S σ H W m ((iDic f).then k ρ) Q)
    (go : ∀ (C1 : Ctx) (ds : List D) (ρ1 : En) (J : It) (fps1 : Nat → List Addr) (S1 : Own) (H1 : Hp), SimF X.K C1 fps1 ρ1 S1 σ H1 → JOk X.K J ds S1 H1 → (∀ x ρ', k ds ρ1 ≠ .err x ρ') → k ds ρ1 ≠ .bad →
      (∀ d ρe, k ds ρ1 = .ok d ρe → ∀ v S' H' fps fp, SimF X.K C1 fps ρe S' σ H' → Tr S1 H1 S' H' → Al X.K S' H' m v d fp → fp.Nodup → (∀ b ∈ fp, (C1.Z b ∨ C1.H0 b = none) ∧ ∀ i, b ∉ fps i) → unl X.H_0 Q v H') → R J H1)
    (ne : ∀ ds ρ1 x ρ', k ds ρ1 ≠ .err x ρ') : iKeysL X.H_0 (tE X.K X.mg W p f) σ H R := by
  rw [keys_then] at h
  refine tE_bind (G := fun z => NOk X.K X.mg C ρ S σ H W m z Q) sim h id (fun x ρ' z => z) ?_
  intro n d ρ1 v S1 H1 fp1 _ h s1 m1 c1 a1
  split at h
  case h_2 => exact h.elim
  rename_i ds ed
  obtain ⟨kds, e1, rfl⟩ := keysD_eq ed
  cases e1
  obtain ⟨fps, s1⟩ := s1
  have nb : k (kds.map fun kd => keyD kd.1) ρ1 ≠ .bad := fun z => by rw [z] at h; exact h
  cases a1 with
  | zero rp =>
    cases rp with
    | @dic a vs _ ns rd rk =>
      have hk := rk.length.2
      refine ⟨a, rfl, ?_⟩
      rcases rd with rd | ⟨o, rd⟩
      · refine .inr ⟨vs, rd, fun o nf => ?_⟩
        have g := lockS (o := o) s1 (u := .dK vs) trivial rd ns
        refine go (C.re S1 (upd H1 a (.frz o (.dK vs)))) _ ρ1 _ fps S1 _ g (fun S' H' kp _ i => jok_keys hk (kp.ex a _ ns upd_same) i) (ne _ _) nb ?_
        intro d ρe ek v S' H' fps' fp s' t' al nd z
        rw [ek] at h
        have l := lockedS (u := .dK vs) s1 trivial rd ns s'
        have t0 : Tr S1 H1 S1 (upd H1 a (.frz o (.dK vs))) := trLock trivial rd
        have t2 : Tr S' H' S' (upd H' a (.dK vs)) := trUnlock l.1
        refine .inr ⟨a, o, _, l.1, nf, h v S' _ fps' fp (unlockS (u := .dK vs) s1 trivial rd ns s') (m1.1.trans (t0.trans (t'.trans t2))) (alAt al t2 l.2) nd fun b hb => ?_⟩
        exact ⟨(z b hb).1.elim (fun y => y.2.2) fun y => .inr (s1.dom b (t0.dom b y)), (z b hb).2⟩
      · refine .inl ⟨o, vs, rd, ?_⟩
        refine go C _ ρ1 _ fps S1 H1 s1 (fun S' H' kp _ i => jok_keys hk (kp.ex a _ ns rd) i) (ne _ _) nb ?_
        intro d ρe ek v S' H' fps' fp s' t' al nd z
        rw [ek] at h
        exact .inl (h v S' _ fps' fp s' (m1.1.trans t') al nd z)
section
variable {kx vx elt tg iter : Expr} {ifs : List Expr} {scope : Scope} {own : List (Str × Nat)} {pos : Pos} {is : List Nat} {gt : D → SM} {c : EM Bool} {ek : EM (Nat × D)} {ev : EM D}
theorem nDc_err {vs : List Nat} (ds : List D) (ρ1 : En) (x : Ex) (ρ' : En) : (match dcL n vs gt c ek ev ds [] (forget vs ρ1) with | .ok acc ρ' => .ok (.dic acc) (restoreV vs ρ1 ρ') | _ => .bad : R En D) ≠ .err x ρ' := by
  split <;> exact fun z => nomatch z
theorem nLc_err {vs : List Nat} (ds : List D) (ρ1 : En) (x : Ex) (ρ' : En) : (match lcL vs gt c ev ds (forget vs ρ1) with | .ok xs ρ' => if xs.length ≤ sizeLine then .ok (.lst xs) (restoreV vs ρ1 ρ') else .bad | _ => .bad : R En D) ≠ .err x ρ' := by
  split
  · split <;> exact fun z => nomatch z
  · exact fun z => nomatch z
/-- {k: v for tg in a dict if ..} -/
theorem n_dcD {f : EM (Nat × D)} (hc : X.calm = true) (hN : X.N.Nodup) (hi : PE X iter (tE X.K X.mg W p f)) (ok : BlkOk X.N X.env.scope scope own)
    (hg : ∀ (s : Shared) (H : Hp) (C : Addr) (cl : List (Str × Addr)) (fp : List Addr), PG (X.blk s H scope (compEnvC scope cl C X.env) fp) tg (tG X.K is gt)) (his : ∀ i ∈ is, i ∈ own.map (·.2))
    (ht : ∀ (s : Shared) (H : Hp) (C : Addr) (cl : List (Str × Addr)) (fp : List Addr), PTs (X.blk s H scope (compEnvC scope cl C X.env) fp) ifs (tB' X.K X.mg W0 q c))
    (hk : ∀ (s : Shared) (H : Hp) (C : Addr) (cl : List (Str × Addr)) (fp : List Addr), PE (X.blk s H scope (compEnvC scope cl C X.env) fp) kx (tE X.K X.mg W0 q2 ek))
    (he : ∀ (s : Shared) (H : Hp) (C : Addr) (cl : List (Str × Addr)) (fp : List Addr), PE (X.blk s H scope (compEnvC scope cl C X.env) fp) vx (tN X.K X.mg W0 n ev)) (hs : ∀ x, foldedSetIterable iter X.env x = pure x := by intro _; rfl) :
    PE X (.DictComp kx vx [⟨tg, iter, ifs, 0⟩] scope pos) (tN X.K X.mg W (n + 1) (nDc n (own.map (·.2)) (iDic f) gt c ek ev)) := peI (pe_unl (pe_dc hc hN (pi_keysL hi) ok hg ht hk he hs)) fun σ H Q h => by
  obtain ⟨C, ρ, S, sim, h⟩ := h
  refine keys_core sim h (fun C1 ds ρ1 J fps1 S1 H1 s1 jok _ nb fin => ?_) (fun ds ρ1 x ρ' => nDc_err ds ρ1 x ρ')
  intro D hD
  cases el : dcL n (own.map (·.2)) gt c ek ev ds [] (forget (own.map (·.2)) ρ1) with
  | err x ρ' => rw [el] at nb; exact absurd rfl nb
  | bad => rw [el] at nb; exact absurd rfl nb
  | ok xs ρe =>
  rw [el] at fin
  exact dcC s1 jok his el (fun v S' H' fps fp g t al nd z => fin _ _ rfl v S' H' fps fp g t al nd z) D hD
/-- [e for tg in a dict if ..] -/
theorem n_lcD {f : EM (Nat × D)} (hc : X.calm = true) (hN : X.N.Nodup) (hi : PE X iter (tE X.K X.mg W p f)) (ok : BlkOk X.N X.env.scope scope own)
    (hg : ∀ (s : Shared) (H : Hp) (C : Addr) (cl : List (Str × Addr)) (fp : List Addr), PG (X.blk s H scope (compEnvC scope cl C X.env) fp) tg (tG X.K is gt)) (his : ∀ i ∈ is, i ∈ own.map (·.2))
    (ht : ∀ (s : Shared) (H : Hp) (C : Addr) (cl : List (Str × Addr)) (fp : List Addr), PTs (X.blk s H scope (compEnvC scope cl C X.env) fp) ifs (tB' X.K X.mg W0 q c))
    (he : ∀ (s : Shared) (H : Hp) (C : Addr) (cl : List (Str × Addr)) (fp : List Addr), PE (X.blk s H scope (compEnvC scope cl C X.env) fp) elt (tN X.K X.mg W0 n ev)) (hs : ∀ x, foldedSetIterable iter X.env x = pure x := by intro _; rfl) :
    PE X (.ListComp elt [⟨tg, iter, ifs, 0⟩] scope pos) (tN X.K X.mg W (n + 1) (nLc (own.map (·.2)) (iDic f) gt c ev)) := peI (pe_unl (pe_lc hc hN (pi_keysL hi) ok hg ht he hs)) fun σ H Q h => by
  obtain ⟨C, ρ, S, sim, h⟩ := h
  refine keys_core sim h (fun C1 ds ρ1 J fps1 S1 H1 s1 jok _ nb fin => ?_) (fun ds ρ1 x ρ' => nLc_err ds ρ1 x ρ')
  intro D hD
  cases el : lcL (own.map (·.2)) gt c ev ds (forget (own.map (·.2)) ρ1) with
  | err x ρ' => rw [el] at nb; exact absurd rfl nb
  | bad => rw [el] at nb; exact absurd rfl nb
  | ok xs ρe =>
  rw [el] at fin nb
  dsimp only at fin nb
  by_cases hlen : xs.length ≤ sizeLine
  · rw [if_pos hlen] at fin
    exact lcC s1 jok his el hlen (fun v S' H' fps fp g t al nd z => fin _ _ rfl v S' H' fps fp g t al nd z) D hD
  · rw [if_neg hlen] at nb
    exact absurd rfl nb
/-- {k: v for tg in a list or a tuple if ..} -/
theorem n_dc {it : EM (List D)} (hc : X.calm = true) (hN : X.N.Nodup) (hi : PI X tg iter (tI X.K X.mg W p it)) (ok : BlkOk X.N X.env.scope scope own)
    (hg : ∀ (s : Shared) (H : Hp) (C : Addr) (cl : List (Str × Addr)) (fp : List Addr), PG (X.blk s H scope (compEnvC scope cl C X.env) fp) tg (tG X.K is gt)) (his : ∀ i ∈ is, i ∈ own.map (·.2))
    (ht : ∀ (s : Shared) (H : Hp) (C : Addr) (cl : List (Str × Addr)) (fp : List Addr), PTs (X.blk s H scope (compEnvC scope cl C X.env) fp) ifs (tB' X.K X.mg W0 q c))
    (hk : ∀ (s : Shared) (H : Hp) (C : Addr) (cl : List (Str × Addr)) (fp : List Addr), PE (X.blk s H scope (compEnvC scope cl C X.env) fp) kx (tE X.K X.mg W0 q2 ek))
    (he : ∀ (s : Shared) (H : Hp) (C : Addr) (cl : List (Str × Addr)) (fp : List Addr), PE (X.blk s H scope (compEnvC scope cl C X.env) fp) vx (tN X.K X.mg W0 n ev)) (hs : ∀ x, foldedSetIterable iter X.env x = pure x := by intro _; rfl) :
    PE X (.DictComp kx vx [⟨tg, iter, ifs, 0⟩] scope pos) (tN X.K X.mg W (n + 1) (nDc n (own.map (·.2)) it gt c ek ev)) := peI (pe_dc hc hN hi ok hg ht hk he hs) fun σ H Q h => by
  obtain ⟨C, ρ, S, sim, h⟩ := h
  refine tI_bind (G := fun z => NOk X.K X.mg C ρ S σ H W (n + 1) z Q) sim h id (fun x ρ' z => z) ?_
  intro ds ρ1 J S1 H1 _ h s1 m1 jok D hD
  cases el : dcL n (own.map (·.2)) gt c ek ev ds [] (forget (own.map (·.2)) ρ1) with
  | err x ρ' => rw [el] at h; exact h.elim
  | bad => rw [el] at h; exact h.elim
  | ok xs ρe =>
  rw [el] at h
  obtain ⟨fps1, s1⟩ := s1
  exact dcC s1 jok his el (fun v S' H' fps fp g t al nd z => h v S' H' fps fp g (m1.1.trans t) al nd z) D hD
end
end
end VL

namespace VL
open PySem PySem.Spec PyProof.Rows L2

/-! ## raise C(..), C an own exception class with fields -/
/-- what the __init__ that stores fs does -/
def spInit (K : PySem.W.Frag) (fs : List Str) : Sp := fun vs H Q _ => ∃ (a C : Addr) (ws : List V), vs = .ref a :: ws ∧ ws.length = fs.length ∧ OexC K C ∧ (∀ f ∈ fs, PySem.W.findIn K (.ref C) f = some none) ∧ H a = some (exo a C none) ∧
  ∀ d H', H d = none → d ≠ a → H' a = some (exo a C (some d)) → H' d = some (exd d (fs.zip ws).reverse) → (∀ b, b ≠ a → b ≠ d → H' b = H b) → Q .non H'
section
variable {P : Program} {w : World} {K : PySem.W.Frag} {mg : Str → Option Value} {base : Heap} {x qual : Str} {st : Stmt} {f : Addr} {fd : FuncData} {k : Nat}
theorem init1 {s0 a1 f1 : Str} {q1 q2 q3 q4 : Pos} (F : Fun K x qual st f fd) (Sc : FnScope [s0, a1] [s0, a1] (defScope st)) (hb : defBody st = [.Assign [.Attribute (.Name s0 q1) f1 q2] (.Name a1 q3) q4]) (v0 : Vis (defScope st) s0) (v1 : Vis (defScope st) a1)
    (h0 : ((s0 == ("__debug__" : Str)) = false ∧ (s0 == ("__classdict__" : Str)) = false) := by decide) (h1 : ((a1 == ("__debug__" : Str)) = false ∧ (a1 == ("__classdict__" : Str)) = false) := by decide) :
    FnOk P w K mg base (L2.CX P w) (k + 1) f fd [s0, a1] (spInit K [f1]) := by
  obtain ⟨oc, od, kV, doc, pm, an, cdv, ct, osl, rfl, lk, hcd⟩ := F.ex
  refine fn_of lk hcd Sc (fun vs H Q E ⟨a, C, ws, e, hl, _⟩ => by rw [e]; simpa using hl) fun A outer s H vs Q E hr h => ⟨_, by rw [hb]; exact pss_one (ps_ost (pe_var (i := 0) rfl v0 h0.1 h0.2) (pe_var (i := 1) rfl v1 h1.1 h1.2)), ?_⟩
  obtain ⟨a, C, ws, rfl, hl, T, hf, ea, h⟩ := h
  match ws, hl with
  | [w1], _ =>
  refine ⟨w1, rfl, .ref a, rfl, a, C, rfl, T, hf _ (by simp), .inl ⟨ea, fun d hd ne => ?_⟩⟩
  refine h d _ hd ne upd_same (by rw [upd_ne ne, upd_same]; rfl) fun b n1 n2 => by rw [upd_ne n1, upd_ne n2]
theorem init2 {s0 a1 a2 f1 f2 : Str} {q1 q2 q3 q4 r1 r2 r3 r4 : Pos} (F : Fun K x qual st f fd) (Sc : FnScope [s0, a1, a2] [s0, a1, a2] (defScope st))
    (hb : defBody st = [.Assign [.Attribute (.Name s0 q1) f1 q2] (.Name a1 q3) q4, .Assign [.Attribute (.Name s0 r1) f2 r2] (.Name a2 r3) r4]) (v0 : Vis (defScope st) s0) (v1 : Vis (defScope st) a1) (v2 : Vis (defScope st) a2)
    (h0 : ((s0 == ("__debug__" : Str)) = false ∧ (s0 == ("__classdict__" : Str)) = false) := by decide) (h1 : ((a1 == ("__debug__" : Str)) = false ∧ (a1 == ("__classdict__" : Str)) = false) := by decide) (h2 : ((a2 == ("__debug__" : Str)) = false ∧ (a2 == ("__classdict__" : Str)) = false) := by decide) :
    FnOk P w K mg base (L2.CX P w) (k + 1) f fd [s0, a1, a2] (spInit K [f1, f2]) := by
  obtain ⟨oc, od, kV, doc, pm, an, cdv, ct, osl, rfl, lk, hcd⟩ := F.ex
  refine fn_of lk hcd Sc (fun vs H Q E ⟨a, C, ws, e, hl, _⟩ => by rw [e]; simpa using hl) fun A outer s H vs Q E hr h => ⟨_, by rw [hb]; exact pss_cons (ps_ost (pe_var (i := 0) rfl v0 h0.1 h0.2) (pe_var (i := 1) rfl v1 h1.1 h1.2)) (pss_one (ps_ost (pe_var (i := 0) rfl v0 h0.1 h0.2) (pe_var (i := 2) rfl v2 h2.1 h2.2))), ?_⟩
  obtain ⟨a, C, ws, rfl, hl, T, hf, ea, h⟩ := h
  match ws, hl with
  | [w1, w2], _ =>
  refine ⟨w1, rfl, .ref a, rfl, a, C, rfl, T, hf _ (by simp), .inl ⟨ea, fun d hd ne => ?_⟩⟩
  refine ⟨w2, rfl, .ref a, rfl, a, C, rfl, T, hf _ (by simp), .inr ⟨d, [(f1, w1)], upd_same, by rw [upd_ne ne, upd_same], by simp, ?_⟩⟩
  refine h d _ hd ne (by rw [upd_ne (Ne.symm ne), upd_same]) (by rw [upd_same]; rfl) fun b n1 n2 => by rw [upd_ne n2, upd_ne n1, upd_ne n2]
end
def sRaise (c : Str) (fs : List Str) (f : EM (List D)) : SM := f.s fun ds ρ => if ds.length = fs.length then .err ⟨c, (fs.zip ds).reverse⟩ ρ else .bad
theorem tA_s {K : PySem.W.Frag} {mg : Str → Option Value} {C : Ctx} {ρ : En} {S : Own} {σ : L2.St} {H : Hp} {W : WX} {p : Bool} {f : EM (List D)} {k : List D → SM} {Q : List V → Hp → Prop} {r : Nat} {Dn : Ends}
    (sim : Sim K C ρ S σ H) (g : SOk K mg C W r (f.s k ρ) Dn)
    (h : ∀ ds ρ' vs S' H', f ρ = .ok ds ρ' → SOk K mg C W r (k ds ρ') Dn → Sim K C ρ' S' σ H' → Mv p S H S' H' → Reps K S' H' vs ds → Q vs H') : tA K mg W p f σ H Q := by
  refine ⟨C, ρ, S, sim, ?_⟩
  unfold EM.s at g
  cases e : f ρ with
  | ok a ρ' =>
    rw [e] at g
    intro vs S' H' s m c a
    exact h _ ρ' vs S' H' e g s m a
  | err x ρ' =>
    rw [e] at g
    intro cls dd S' H' s x
    exact g cls dd σ S' H' s x
  | bad =>
    rw [e] at g
    exact g.elim
theorem zip_map1 {α : Type} : ∀ {fs : List Str} {ws : List α}, ws.length = fs.length → (fs.zip ws).map (·.1) = fs ∧ (fs.zip ws).map (·.2) = ws
  | [], [], _ => ⟨rfl, rfl⟩
  | f :: fs, w :: ws, h => by
    have := zip_map1 (fs := fs) (ws := ws) (by simpa using h)
    simp [this.1, this.2]
  | [], _ :: _, h => by simp at h
  | _ :: _, [], h => by simp at h
section
variable {X : Cx} {W : WX} {p : Bool} {r : Nat}
/-- what a raise wants to know of the class x: at C, its __init__ at fI stores fs -/
structure RaiseF (X : Cx) (x : Str) (fs : List Str) : Prop where
  ex : ∃ (C fI : Addr) (k : Nat) (fd : FuncData) (ps : List Str), OexC X.K C ∧ PySem.W.findIn X.K (.ref C) "__init__" = some (some (.ref fI)) ∧ PySem.W.typeIn X.K (.ref fI) = some (.type "function") ∧
    FnOk X.prog X.w X.K X.mg X.base (L2.CX X.prog X.w) k fI fd ps (spInit X.K fs) ∧ Room (k + 1) X.A ∧ Binds X.K fd ps [] ∧ X.mg x = some (.ref C) ∧ (∀ f ∈ fs, PySem.W.findIn X.K (.ref C) f = some none)
  few : fs.length ≤ 1000
theorem w_raise {x : Str} {fs : List Str} {f : EM (List D)} {np pos pos2 : Pos} {e : Expr} {es : List Expr} (F : RaiseF X x fs) (hc : X.calm = true) (tk : Takes X W) (hx : Passes (L2.CX X.prog X.w) X (fun _ _ _ => False)) (hg : Gl X x) (ha : PA X (e :: es) (tA X.K X.mg W p f))
    (hdb : (x == ("__debug__" : Str)) = false := by decide) (he : starEach (e :: es) X.env = (false, eval e X.env) :: starEach es X.env := by rfl) (hpl : (backTo pos (starEach es X.env)).any (·.1) = false := by rfl) :
    PS X (.Raise (some (.Call (.Name x np) (e :: es) [] pos)) none pos2) (tS X.K X.mg W r (sRaise x fs f)) := by
  obtain ⟨⟨C, fI, k, fd, ps, T, iC, tI, F1, hr, hb, hm, hf⟩, few⟩ := F
  refine psI (ps_raise hc tk (pmk_oex (dvs := []) T iC tI F1 hr hb .nil hx hg hm ha hdb he hpl)) fun Dn σ H h => ?_
  obtain ⟨C', ρ, S, sim, h⟩ := h
  refine tA_s sim h ?_
  intro ds ρ1 vs S1 H1 _ h s1 m1 rp
  split at h
  case isFalse => exact h.elim
  case isTrue hl =>
  have hvl := rp.length
  refine ⟨by omega, fun a ha0 => ⟨a, C, vs, by rw [List.append_nil], by omega, T, hf, upd_same, fun d H' hd ne ea ed oth => ⟨rfl, d, _, ea, ed, ?_, ?_⟩⟩⟩
  · rw [upd_ne ne] at hd; exact hd
  · rw [upd_ne ne] at hd
    have eH : upd (del H' a) d (.xd (fs.zip vs).reverse) = upd H1 d (.xd (fs.zip vs).reverse) := by
      funext b
      by_cases e1 : b = d
      · subst e1; rw [upd_same, upd_same]
      · rw [upd_ne e1, upd_ne e1]
        by_cases e2 : b = a
        · subst e2; rw [del_same, ha0]
        · rw [del_ne e2, oth b e2 e1, upd_ne e2]
    rw [eH]
    have sm : Same H1 (upd H1 d (.xd (fs.zip vs).reverse)) := same_upd' hd
    refine h (.ref C) (some d) σ S1 _ (s1.same sm) ⟨C, hm, rfl, .inr ⟨d, _, rfl, upd_same, ?_, ?_⟩⟩
    · rw [List.map_reverse, List.map_reverse, (zip_map1 (by omega)).1, (zip_map1 hl).1]
    · rw [List.map_reverse, List.map_reverse, (zip_map1 (by omega)).2, (zip_map1 hl).2]
      exact (rp.reverse).mono (.same sm)
end
end VL

namespace VL
open PySem PySem.Spec PyProof.Rows L2

/-! ## try: .., except C as x: .. -/
section
variable (K : PySem.W.Frag) (mg : Str → Option Value) (i : Nat) (a : Addr) (cls : Value) (d : Option Addr)
/-- in an except suite: slot i holds the exception (at a; its class cls, its dict d) -/
def tEX (f : Ex → EM (Nat × D)) : TE := fun σ H Q => ∃ x C ρ S, Sim K C ρ S σ H ∧ σ[i]? = some (some (.ref a)) ∧ XOk K mg S H x cls d ∧ EOk K mg C ρ S σ H W0 true (f x ρ) Q
def tAX (f : Ex → EM (List D)) : TA := fun σ H Q => ∃ x C ρ S, Sim K C ρ S σ H ∧ σ[i]? = some (some (.ref a)) ∧ XOk K mg S H x cls d ∧ AOk K mg C ρ S σ H W0 true (f x ρ) Q
def tSX (r : Nat) (g : Ex → SM) : TS := fun Dn σ H => ∃ x C ρ S, Sim K C ρ S σ H ∧ σ[i]? = some (some (.ref a)) ∧ XOk K mg S H x cls d ∧ SOk K mg C W0 r (g x ρ) Dn
end
section
variable {Y : Cx} {i : Nat} {a : Addr} {cls : Value} {d : Option Addr} {r : Nat} {p : Bool}
theorem x_lift {e : Expr} {f : EM (Nat × D)} (h : PE Y e (tE Y.K Y.mg W0 true f)) : PE Y e (tEX Y.K Y.mg i a cls d fun _ => f) := peI h fun σ H Q ⟨x, C, ρ, S, sim, _, _, h⟩ => ⟨C, ρ, S, sim, h⟩
theorem wx_lift {b : List Stmt} {g : SM} (h : PSs Y b (tS Y.K Y.mg W0 r g)) : PSs Y b (tSX Y.K Y.mg i a cls d r fun _ => g) := pssI h fun Dn σ H ⟨x, C, ρ, S, sim, _, _, h⟩ => ⟨C, ρ, S, sim, h⟩
theorem ax_nil : PA Y [] (tAX Y.K Y.mg i a cls d fun _ => aNil) := paI pa_nil fun σ H Q ⟨x, C, ρ, S, sim, _, _, h⟩ => h [] S H sim .refl (fun _ => rfl) .nil
theorem ax_cons {e : Expr} {es : List Expr} {f : Ex → EM (Nat × D)} {g : Ex → EM (List D)} (ha : PE Y e (tEX Y.K Y.mg i a cls d f)) (hr : PA Y es (tAX Y.K Y.mg i a cls d g)) (hs : starEach (e :: es) Y.env = (false, eval e Y.env) :: starEach es Y.env := by rfl) :
    PA Y (e :: es) (tAX Y.K Y.mg i a cls d fun x => aCons (f x) (g x)) := paI (pa_cons ha hr hs) fun σ H Q h => by
  obtain ⟨x, C, ρ, S, sim, hσ, hx, h⟩ := h
  refine ⟨x, C, ρ, S, sim, hσ, hx, ?_⟩
  dsimp only at h
  unfold aCons EM.then at h
  cases ef : f x ρ with
  | err y ρ1 => rw [ef] at h; exact h
  | bad => rw [ef] at h; exact h
  | ok fa ρ1 =>
  obtain ⟨n1, d1⟩ := fa
  rw [ef] at h
  intro v S1 H1 fp1 s1 m1 c1 a1
  obtain ⟨eS, sm⟩ := m1.2 rfl
  subst eS
  obtain rfl := c1 rfl
  dsimp only at h
  refine ⟨x, C, ρ1, S1, s1, hσ, xokTr (.same sm) (fun q kvs e => sm _ _ e) hx, ?_⟩
  cases eg : g x ρ1 with
  | err y ρ2 => rw [eg] at h; exact h
  | bad => rw [eg] at h; exact h
  | ok ds ρ2 =>
  rw [eg] at h
  dsimp only at h
  intro vs S2 H2 s2 m2 c2 a2
  split at h
  · rename_i hn
    subst hn
    refine h (v :: vs) S2 H2 s2 (m1.trans m2) (fun _ => c2 rfl) (.cons (Rep.zero (a1.mv m2 (.inr rfl))) a2)
  · exact h.elim
theorem x_tup {es : List Expr} {f : Ex → EM (List D)} {x1} {pos : Pos} (ha : PA Y es (tAX Y.K Y.mg i a cls d f)) : PE Y (.Tuple es x1 pos) (tEX Y.K Y.mg i a cls d fun x => eTup (f x)) := peI (pe_tup ha) fun σ H Q h => by
  obtain ⟨x, C, ρ, S, sim, hσ, hx, h⟩ := h
  refine ⟨x, C, ρ, S, sim, hσ, hx, ?_⟩
  dsimp only at h
  unfold eTup EM.then at h
  cases ef : f x ρ with
  | err y ρ1 => rw [ef] at h; exact h
  | bad => rw [ef] at h; exact h
  | ok ds ρ1 =>
  rw [ef] at h
  intro vs S1 H1 s1 m1 c1 a1
  dsimp only at h
  split at h
  · rename_i hl
    refine ⟨by rw [a1.length]; exact hl, fun t ht => ?_⟩
    have sm : Same H1 (upd H1 t (.tup vs)) := same_upd' ht
    exact h (.ref t) S1 _ [] (s1.same sm) (m1.then sm) c1 (.zero (.tup (.inl ⟨s1.new ht, .inl upd_same⟩) (a1.mono (.same sm))))
  · exact h.elim
theorem wx_ret {e : Expr} {f : Ex → EM (Nat × D)} {pos : Pos} (he : PE Y e (tEX Y.K Y.mg i a cls d f)) : PS Y (.Return (some e) pos) (tSX Y.K Y.mg i a cls d r fun x => sRet (f x)) := psI (ps_ret he) fun Dn σ H h => by
  obtain ⟨x, C, ρ, S, sim, hσ, hx, h⟩ := h
  refine ⟨x, C, ρ, S, sim, hσ, hx, ?_⟩
  dsimp only at h
  unfold sRet EM.s at h
  cases ef : f x ρ with
  | err y ρ1 => rw [ef] at h; exact fun c dd S' H' s xo => h c dd σ S' H' s xo
  | bad => rw [ef] at h; exact h
  | ok ds ρ1 =>
  rw [ef] at h
  obtain ⟨n, dd⟩ := ds
  intro v S1 H1 fp s1 m1 c1 a1
  dsimp only at h
  split at h
  · rename_i hn
    subst hn
    obtain ⟨fps, s1⟩ := s1
    exact h.2 v σ S1 H1 fps [] s1 (.zero (Rep.zero a1)) .nil fun _ z => nomatch z
  · exact h.elim
theorem wx_one {s : Stmt} {g : Ex → SM} (h : PS Y s (tSX Y.K Y.mg i a cls d r g)) : PSs Y [s] (tSX Y.K Y.mg i a cls d r g) := pss_one h
end
/-- x.f, x the exception that is handled -/
def eXf (c f : Str) (x : Ex) : EM (Nat × D) := fun ρ => if x.cls = c then (match x.fs.lookup f with | some d => .ok (0, d) ρ | none => .bad) else .bad
theorem lookup_reps {K : PySem.W.Frag} {S : Own} {H : Hp} {f : Str} : ∀ {kvs : List (Str × V)} {fs : List (Str × D)} {d : D}, kvs.map (·.1) = fs.map (·.1) → Reps K S H (kvs.map (·.2)) (fs.map (·.2)) → fs.lookup f = some d → ∃ v, kvs.lookup f = some v ∧ Rep K S H v d
  | [], [], _, _, _, e => by simp at e
  | (k, v) :: kvs, (k', d') :: fs, d, hk, hr, e => by
    simp only [List.map_cons, List.cons.injEq] at hk
    obtain ⟨rfl, hk⟩ := hk
    cases hr with
    | cons r q =>
      rw [List.lookup_cons] at e ⊢
      split at e
      · cases e; exact ⟨v, rfl, r⟩
      · exact lookup_reps hk q e
  | [], _ :: _, _, hk, _, _ => by simp at hk
  | _ :: _, [], _, hk, _, _ => by simp at hk
section
variable {X : Cx} {W : WX} {i : Nat} {r : Nat}
theorem x_fld {a : Addr} {oe : Obj} {cls : Value} {d : Option Addr} {pn : List (Addr × Obj)} {C : Addr} {c n f : Str} {np pos : Pos} (T : XfC X.K C) (hm : X.mg c = some (.ref C)) (hno : PySem.W.findIn X.K (.ref C) f = some none) (hz : Zc cls d oe) (hf : ∃ vs, oe.data = .fields vs)
    (hN : X.N[i]? = some n) (hv : Vis X.env.scope n) (hd : (n == ("__debug__" : Str)) = false := by decide) (hcd : (n == ("__classdict__" : Str)) = false := by decide)
    (hb : attributeBase (.Name n np) f X.env (eval (.Name n np) X.env) = eval (.Name n np) X.env := by rfl) : PE (X.suite a ((a, oe) :: pn)) (.Attribute (.Name n np) f pos) (tEX X.K X.mg i a cls d (eXf c f)) := peI (pe_xf T hno hz hf (pe_var (X := X.suite a ((a, oe) :: pn)) hN hv hd hcd) hb) fun σ H Q h => by
  obtain ⟨x, C', ρ, S, sim, hσ, hx, h⟩ := h
  unfold eXf at h
  split at h
  case isFalse => exact h.elim
  case isTrue hc =>
  split at h
  case h_2 => exact h.elim
  rename_i dd ed
  obtain ⟨p, e1, e2, hx⟩ := hx
  rw [hc, hm] at e1
  cases e1
  rcases hx with ⟨z, _⟩ | ⟨q, kvs, e3, e4, e5, rp⟩
  · rw [z] at ed; simp at ed
  · obtain ⟨v, e6, rv⟩ := lookup_reps e5 rp ed
    exact ⟨.ref a, hσ, rfl, e2, q, kvs, v, e3, e4, e6, h v S H [] sim .refl (fun _ => rfl) (.zero rv)⟩
def sTryAs (mt : Str → Option Bool) (i : Nat) (g : SM) (gx : Ex → SM) : SM := fun ρ => match g ρ with
  | .err x ρ1 => (match mt x.cls with
    | some true => if i < ρ1.length then (match gx x (ρ1.set i none) with
      | .nx ρ2 => .nx (ρ2.set i none)
      | .bk ρ2 => .bk (ρ2.set i none)
      | .ct ρ2 => .ct (ρ2.set i none)
      | .rt n d ρ2 => .rt n d ρ2
      | _ => .bad) else .bad
    | some false => .err x ρ1
    | none => .bad)
  | r => r
theorem simSetNone {K : PySem.W.Frag} {C : Ctx} {ρ : En} {S : Own} {σ : L2.St} {H : Hp} (h : Sim K C ρ S σ H) (i : Nat) (x : Option V) : Sim K C (ρ.set i none) S (σ.set i x) H := by
  obtain ⟨fps, h⟩ := h
  exact ⟨_, h.set i (s := none) (x := x) (fp := []) .non .nil (fun _ z => nomatch z) (.inr rfl)⟩
theorem simFSetNone {K : PySem.W.Frag} {C : Ctx} {fps : Nat → List Addr} {ρ : En} {S : Own} {σ : L2.St} {H : Hp} (h : SimF K C fps ρ S σ H) (i : Nat) (x : Option V) : SimF K C (fun j => if j = i then [] else fps j) (ρ.set i none) S (σ.set i x) H :=
  h.set i (s := none) (x := x) (fp := []) .non .nil (fun _ z => nomatch z) (.inr rfl)
theorem w_tryAs {x n : Str} {c : Value} {body suite : List Stmt} {b₀ : Stmt} {np pos pos' : Pos} {mt : Str → Option Bool} {gb : SM} {gx : Ex → SM} (hs : X.stack = X.env :: X.outer) (hf : X.env.frame = some X.env.locals) (hN : X.N.Nodup) (hi : X.N[i]? = some n) (hln : X.env.kindOf n = some .local)
    (hc : Names X x c) (tk : Takes X W) (hm : ∀ (m : Str) (b : Bool), mt m = some b → ∃ p, X.mg m = some (.ref p) ∧ PySem.W.exmOne X.K (.ref p) c = some b)
    (hb : ∀ (W' : WX) (pn : List (Addr × Obj)) (xe : Value → Shared → Prop), Takes (X.tr pn xe) W' → PassesOwn (model X.prog X.w) X.A X.env xe → PSs (X.tr pn xe) body (tS X.K X.mg W' r gb))
    (hsu : ∀ (a : Addr) (oe : Obj) (cls : Value) (d : Option Addr) (pn : List (Addr × Obj)), Zc cls d oe → (∃ vs, oe.data = .fields vs) → PSs (X.suite a ((a, oe) :: pn)) (b₀ :: suite) (tSX X.K X.mg i a cls d r gx)) :
    PS X (.Try body [.ExceptHandler (some (.Name x np)) (some n) (b₀ :: suite) pos'] [] [] pos) (tS X.K X.mg W r (sTryAs mt i gb gx)) :=
  psI (ps_try_as (tb := fun W' => tS X.K X.mg W' r gb) (ts := fun a cls d => tSX X.K X.mg i a cls d r gx) hs hf hN hi hln hc tk hb hsu) fun Dn σ H h => by
  obtain ⟨C, ρ, S, sim, h⟩ := h
  refine ⟨C, ρ, S, sim, ?_⟩
  unfold sTryAs at h
  cases eb : gb ρ with
  | nx ρ1 => rw [eb] at h; exact h
  | rt m d ρ1 => rw [eb] at h; exact h
  | bk ρ1 => rw [eb] at h; exact h
  | ct ρ1 => rw [eb] at h; exact h
  | bad => rw [eb] at h; exact h
  | err e ρ1 =>
  rw [eb] at h
  dsimp only at h
  intro cls dd σ1 S1 H1 s1 xo
  cases em : mt e.cls with
  | none => rw [em] at h; exact h.elim
  | some b =>
  rw [em] at h
  obtain ⟨p, e1, e2⟩ := hm e.cls b em
  obtain ⟨p', e3, rfl, e4⟩ := id xo
  rw [e1] at e3
  cases e3
  refine ⟨b, e2, fun hb a ha => ?_, fun hb => ?_⟩
  · subst hb
    dsimp only at h
    split at h
    case isFalse => exact h.elim
    case isTrue hl =>
    have hσ : i < σ1.length := by
      obtain ⟨_, z⟩ := s1
      rw [z.len]; exact hl
    refine ⟨e, C, ρ1.set i none, S1, simSetNone s1 i _, by rw [List.getElem?_set_self hσ], xo, ?_⟩
    cases eg : gx e (ρ1.set i none) with
    | nx ρ2 => rw [eg] at h; exact fun σ' S' H' g => h _ S' H' (simSetNone g i none)
    | bk ρ2 => rw [eg] at h; exact fun σ' S' H' g => h _ S' H' (simSetNone g i none)
    | ct ρ2 => rw [eg] at h; exact fun σ' S' H' g => h _ S' H' (simSetNone g i none)
    | rt m d ρ2 => rw [eg] at h; exact h
    | err y ρ2 => rw [eg] at h; exact h.elim
    | bad => rw [eg] at h; exact h.elim
  · subst hb
    exact h (.ref p) dd σ1 S1 H1 s1 xo
end
end VL

namespace VL
open PySem PySem.Spec PyProof.Rows L2

/-! ## t = P[k]; what follows writes into t -/
/-- slot j holds what stands at the place p -/
def tSAl (K : PySem.W.Frag) (mg : Str → Option Value) (W : WX) (j r : Nat) (g : Plc → SM) : TS := fun Dn σ H => ∃ pl C ρ S v, Sim K C ρ S σ H ∧ σ[j]? = some (some v) ∧ (∀ fps H2, SimF K C fps ρ S σ H2 → Same H H2 → PlcOk K C fps ρ S σ H2 v pl) ∧ SOk K mg C W r (g pl ρ) Dn
def sAli (j : Nat) (P : PlM) (g : Plc → SM) : SM := fun ρ => match ρ[j]? with
  | some none => (match P ρ with
    | some p => g ⟨p.lv, p.d, fun d' => (p.rb d').set j none⟩ ρ
    | none => .bad)
  | _ => .bad
section
variable {X : Cx} {W : WX} {p q st : Bool} {P : PlM} {kf : EM (Nat × D)} {n r j : Nat}
theorem ali_start {x : Str} {e : Expr} {rest : List Stmt} {g : Plc → SM} {pos pos' : Pos} (hN : X.N.Nodup) (hi : X.N[j]? = some x) (hx : Loc X.env.scope x) (he : PE X e (tP X.K st P)) (hr : PSs X rest (tSAl X.K X.mg W j r g)) (hs : swapsWith e (some (.Name x pos')) pos.line X.env = pure false := by rfl)
    (hf : X.fn x = true ∨ X.env.scope.names.lookup x = some .local := by first | exact .inl rfl | exact .inr rfl | assumption) : PSs X (.Assign [.Name x pos'] e pos :: rest) (tS X.K X.mg W r (sAli j P g)) := pssI (pss_cons (ps_set hN hi hx he hs hf) hr) fun Dn σ H h => by
  obtain ⟨C, ρ, S, sim, h⟩ := h
  refine ⟨C, ρ, S, sim, ?_⟩
  unfold sAli at h
  split at h
  case h_2 => exact h.elim
  rename_i ej
  cases eP : P ρ with
  | none => rw [eP] at h; exact h.elim
  | some pl =>
  rw [eP] at h
  dsimp only at h
  intro v H1 s1 sm1 ok
  have hlt : j < ρ.length := (List.getElem?_eq_some_iff.mp ej).1
  have eρ : ρ.set j none = ρ := by
    apply List.ext_getElem?
    intro l
    by_cases hl : l = j
    · subst hl; rw [List.getElem?_set_self hlt, ej]
    · rw [List.getElem?_set_ne (Ne.symm hl)]
  have hσ : j < σ.length := by obtain ⟨_, z⟩ := sim; rw [z.len]; exact hlt
  have s2 := simSetNone s1 j (some v)
  rw [eρ] at s2
  refine ⟨⟨pl.lv, pl.d, fun d' => (pl.rb d').set j none⟩, C, ρ, S, v, s2, by rw [List.getElem?_set_self hσ], fun fps H2 s3 sm => ?_, h⟩
  have eσ : (σ.set j (some v)).set j σ[j]?.join = σ := by
    rw [List.set_set]
    apply List.ext_getElem?
    intro l
    by_cases hl : l = j
    · subst hl; rw [List.getElem?_set_self hσ, List.getElem?_eq_getElem hσ]; rfl
    · rw [List.getElem?_set_ne (Ne.symm hl)]
  have s4 := simFSetNone s3 j σ[j]?.join
  rw [eρ, eσ] at s4
  have fj : fps j = [] := by
    obtain ⟨x, ex, k⟩ := s3.sl j _ ej
    generalize fps j = f at k
    cases k
    rfl
  have ef : (fun l => if l = j then [] else fps l) = fps := by
    funext l
    by_cases hl : l = j
    · subst hl; rw [if_pos rfl, fj]
    · rw [if_neg hl]
  rw [ef] at s4
  obtain ⟨fc, a1, a2, a3, a4⟩ := ok fps ρ S H2 s4 (.inr ⟨rfl, rfl, sm⟩) pl eP
  exact ⟨fc, a1, a2, a3, fun a o d' fc' ha al nd sub => simSetNone (a4 a o d' fc' ha al nd sub) j (some v)⟩
theorem ali_one {s : Stmt} {g : Plc → SM} (h : PS X s (tSAl X.K X.mg W j r g)) : PSs X [s] (tSAl X.K X.mg W j r g) := pss_one h
theorem ali_if {c : Expr} {a b : List Stmt} {f : EM Bool} {g k : Plc → SM} {pos : Pos} (hc : PT X c (tB' X.K X.mg W true f)) (ha : PSs X a (tSAl X.K X.mg W j r g)) (hb : PSs X b (tSAl X.K X.mg W j r k)) : PS X (.If c a b pos) (tSAl X.K X.mg W j r fun p => sIf f (g p) (k p)) := psI (ps_if hc ha hb) fun Dn σ H h => by
  obtain ⟨pl, C, ρ, S, v, sim, hσ, ok, h⟩ := h
  refine ⟨C, ρ, S, sim, ?_⟩
  dsimp only at h
  unfold sIf EM.s at h
  cases ef : f ρ with
  | err y ρ1 => rw [ef] at h; exact fun c dd S' H' s xo => h c dd σ S' H' s xo
  | bad => rw [ef] at h; exact h
  | ok b ρ1 =>
  rw [ef] at h
  intro S1 H1 s1 m1 c1
  obtain ⟨eS, sm⟩ := m1.2 rfl
  subst eS
  obtain rfl := c1 rfl
  have ok' : ∀ fps H2, SimF X.K C fps ρ1 S1 σ H2 → Same H1 H2 → PlcOk X.K C fps ρ1 S1 σ H2 v pl := fun fps H2 s2 sm2 => ok fps H2 s2 (sm.trans sm2)
  cases b with
  | true => exact ⟨pl, C, ρ1, S1, v, s1, hσ, ok', h⟩
  | false => exact ⟨pl, C, ρ1, S1, v, s1, hσ, ok', h⟩
theorem ali_put {x : Str} {k e : Expr} {f : EM (Nat × D)} {np pos pos' : Pos} (hu : X.A.units + 1 < cLine) (hN : X.N[j]? = some x) (hv : Vis X.env.scope x) (he : PE X e (tE X.K X.mg W true f)) (hk : PE X k (tE X.K X.mg W true kf)) (hd : (x == ("__debug__" : Str)) = false := by decide) (hcd : (x == ("__classdict__" : Str)) = false := by decide)
    (ha : ∀ v, assign (.Subscript (.Name x np) k pos') X.env v = (do
      let ov ← holding [v] (eval (.Name x np) X.env)
      let iv ← holding [v, ov] (eval k X.env)
      standAt pos'
      holding [v, ov, iv] (setItem ov iv v)
      release [v, ov, iv] []) := by intro _; rfl)
    (hs : swapsWithSole [.Subscript (.Name x np) k pos'] e pos.line X.env = pure false := by rfl) (hw : swappedStores [.Subscript (.Name x np) k pos'] e X.env = pure none := by rfl)
    (h1 : (assignEach [.Subscript (.Name x np) k pos'] X.env).map (·.2) = [assign (.Subscript (.Name x np) k pos') X.env] := by rfl) :
    PS X (.Assign [.Subscript (.Name x np) k pos'] e pos) (tSAl X.K X.mg W j r fun pl => sPut 0 (fun _ => some pl) kf (n0 f)) :=
  psI (ps_asg he (pg_sub (pe_var (i := j) hN hv hd hcd) hk (PSet.or set_list (set_dict hu)) ha) hs hw h1) fun Dn σ H h => by
  obtain ⟨pl, C, ρ, S, v, sim, hσ, ok, h⟩ := h
  refine ⟨C, ρ, S, sim, ?_⟩
  dsimp only at h
  unfold sPut n0 EM.s EM.then at h
  cases ef : f ρ with
  | err y ρ1 => rw [ef] at h; exact fun c dd S' H' s xo => h c dd σ S' H' s xo
  | bad => rw [ef] at h; exact h
  | ok fa ρ1 =>
  obtain ⟨ln, y⟩ := fa
  rw [ef] at h
  intro w S1 H1 fp1 s1 m1 c1 a1
  dsimp only at h
  by_cases hn0 : ln = 0
  case neg => rw [if_neg hn0] at h; exact h.elim
  subst hn0
  rw [if_pos rfl] at h
  obtain ⟨eS, sm1⟩ := m1.2 rfl
  subst eS
  obtain rfl := c1 rfl
  have ok' : ∀ fps H2, SimF X.K C fps ρ1 S1 σ H2 → Same H1 H2 → PlcOk X.K C fps ρ1 S1 σ H2 v pl := fun fps H2 s2 sm2 => ok fps H2 s2 (sm1.trans sm2)
  clear ok
  obtain ⟨ml, d, rb⟩ := pl
  cases ml with
  | zero => exact h.elim
  | succ m =>
  dsimp only at h
  split at h
  case isFalse => exact h.elim
  case isTrue hm =>
  split at h
  case h_2 => exact h.elim
  case h_1 kl kd ρ' ek =>
  split at h
  case h_2 => exact h.elim
  case h_1 d' ed =>
  refine ⟨v, hσ, ?_⟩
  refine ⟨C, ρ1, S1, s1, ?_⟩
  rw [ek]
  intro kv S3 H3 fp3 s3 m3 c3 a3
  have e3 : ρ' = ρ1 := c3 rfl
  subst e3
  obtain ⟨rfl, sm3⟩ := m3.2 rfl
  obtain ⟨fps, s4⟩ := id s3
  have al4 : Al X.K S3 H3 0 w y fp1 := a1.same sm3
  obtain ⟨fc, alp, ndc, hin, up⟩ := ok' fps H3 s4 sm3
  have nd : ([] : List Addr).Nodup := .nil
  have n0' : m = 0 := hm
  subst n0'
  cases d with
  | lst ds =>
    cases kd with
    | int i =>
      simp only [putC, if_true] at ed
      obtain ⟨j', ej, rfl⟩ := Option.map_eq_some_iff.mp ed
      obtain ⟨_, rfl⟩ := a3.int
      cases alp with
      | fl f _ => cases f
      | @lst _ a vs _ F hS ea q =>
        obtain ⟨rq, rfl⟩ := q.rep
        have tw : Tr S3 H3 S3 (upd H3 a (.lst (vs.set j' w))) := .write hS
        refine .inl ⟨a, vs, i, j', rfl, rfl, ea, by rw [rq.length]; exact ej, h σ S3 _ (up a _ (.lst (ds.set j' y)) [a] List.mem_cons_self (.lst hS upd_same (Als.zero (Reps.setAt ((Rep.zero al4).mono tw) j' (rq.mono tw)))) (by simp) fun b hb => .inl hb)⟩
    | _ => simp [putC] at ed
  | dic ks =>
    simp only [putC] at ed
    obtain ⟨k', ek', ed⟩ := Option.bind_eq_some_iff.mp ed
    split at ed
    case isFalse => cases ed
    case isTrue hc =>
    cases ed
    obtain rfl := a3.key ek'
    cases alp with
    | fl f _ => cases f
    | @dic _ a vs _ F hS ea q =>
      have tw : Tr S3 H3 S3 (upd H3 a (.dK (putK vs k' w))) := .write hS
      refine .inr ⟨a, _, rfl, .inl ⟨vs, k', ea, rfl, by rw [q.length.1]; exact hc.1, rfl⟩, ?_⟩
      obtain ⟨rq, rfl⟩ := q.rep
      exact h σ S3 _ (up a _ (.dic (putD ks k' y)) [a] List.mem_cons_self (.dic hS upd_same (AlKs.zero ((rq.mono tw).put ((Rep.zero al4).mono tw)))) (by simp) fun b hb => .inl hb)
  | _ => simp [putC] at ed
theorem ali_del {x : Str} {k : Expr} {np tpos pos : Pos} (hN : X.N[j]? = some x) (hv : Vis X.env.scope x) (hk : PE X k (tE X.K X.mg W true kf)) (hd : (x == ("__debug__" : Str)) = false := by decide) (hcd : (x == ("__classdict__" : Str)) = false := by decide) :
    PS X (.Delete [.Subscript (.Name x np) k tpos] pos) (tSAl X.K X.mg W j r fun pl => sDel (fun _ => some pl) kf) := psI (ps_ddel (pe_var (i := j) hN hv hd hcd) hk) fun Dn σ H h => by
  obtain ⟨pl, C, ρ, S, v, sim, hσ, ok, h⟩ := h
  dsimp only at h
  unfold sDel at h
  obtain ⟨ml, d, rb⟩ := pl
  cases ml with
  | zero => exact h.elim
  | succ m =>
  dsimp only at h
  split at h
  case h_2 => exact h.elim
  case h_1 kl kd ρ' ek =>
  split at h
  case h_2 => exact h.elim
  case h_1 d' ed =>
  refine ⟨v, hσ, ?_⟩
  refine ⟨C, ρ, S, sim, ?_⟩
  rw [ek]
  intro kv S3 H3 fp3 s3 m3 c3 a3
  have e3 : ρ' = ρ := c3 rfl
  subst e3
  obtain ⟨rfl, sm3⟩ := m3.2 rfl
  obtain ⟨fps, s3⟩ := s3
  obtain ⟨dv, dd⟩ := d'
  obtain ⟨a, vs, k', w, f, rfl, ea, ek', ew, al, hS, s5⟩ := plc_del (ok fps H3 s3 sm3) ed
  obtain rfl := a3.key ek'
  exact ⟨a, vs, k', rfl, ea, rfl, by rw [ew]; rfl, h σ S3 _ s5⟩
end
end VL

namespace VL
open PySem PySem.Spec PyProof.Rows L2

/-! ## the end: the law is called -/
section
variable {P : Program} {w : World} {K : PySem.W.Frag} {mg mb : Str → Option Value} {a : Addr} {s : Shared} {vs : List Value} {ns : List Int}
/-- what is tracked at the law's call: the script alone, if at all -/
def atScript (b : Bool) (a : Addr) (o : Obj) (ns : List Int) : Hp := fun c => if b = true ∧ c = a then some (.frz o (.lst (ns.map V.int))) else none
theorem atScript_none {b : Bool} {a c : Addr} {o : Obj} (h : ¬ (b = true ∧ c = a)) : atScript b a o ns c = none := if_neg h
theorem atScript_some {b : Bool} {a c : Addr} {o : Obj} {u : HO} (e : atScript b a o ns c = some u) : b = true ∧ c = a ∧ u = .frz o (.lst (ns.map V.int)) := by
  unfold atScript at e
  split at e
  · rename_i h; cases e; exact ⟨h.1, h.2, rfl⟩
  · cases e
theorem script_env (kin : K.In s.heap) (gl : s.heap.Ns mainGlobals mg) (bl : s.heap.Ns builtinsNs mb) (bb : ∀ x : Str, x ≠ "__name__" → mb x = bootBuiltins x) (nl : s.heap.NoLimit) (gens : s.gens = #[])
    (at_a : s.heap.get? a = some { cls := .type "list", data := .seq vs.toArray }) (iv : IntsAre vs ns) (small : ns.length ≤ sizeLine) :
    ∃ (b : Bool) (o : Obj) (H : Hp), H = atScript b a o ns ∧ SqL K H a (ns.map V.int) ∧ Env0 P w K mg (hidT s.heap H) callerA [] s H := by
  have lv := iv.length
  have rel := vals_ints iv
  have env : ∀ (b : Bool), (b = true → K.lookup a = none) → Env0 P w K mg (hidT s.heap (atScript b a { cls := .type "list", data := .seq vs.toArray } ns)) callerA [] s (atScript b a { cls := .type "list", data := .seq vs.toArray } ns) := fun b hb => by
    generalize eH : atScript b a { cls := .type "list", data := .seq vs.toArray } ns = H
    have free : ∀ {c : Addr} {oc : Obj}, s.heap.get? c = some oc → (b = true → c ≠ a) → (hidT s.heap H).get? c = some oc := fun {c oc} e ne => hidT_get e (by rw [← eH]; exact atScript_none fun z => ne z.1 z.2)
    have spaces : ∀ {c : Addr} {m : Str → Option Value}, s.heap.Ns c m → (hidT s.heap H).Ns c m := fun {c m} h => by
      obtain ⟨oc, es, ep, e1, e2, e3⟩ := h
      refine ⟨oc, es, ep, free e1 fun _ z => ?_, e2, e3⟩
      rw [z, at_a] at e1
      cases e1
      exact Data.noConfusion (show Data.seq vs.toArray _ = Data.dict es ep from e2)
    have lim : (hidT s.heap H).NoLimit := by
      obtain ⟨mc, z1, z2⟩ := nl
      exact ⟨mc, spaces z1, z2⟩
    have mo : Mod K mg (hidT s.heap H) := { kin := fun c oc e => free (kin c oc e) fun hb' z => (by rw [z, hb hb'] at e; cases e), glob := spaces gl, blt := ⟨mb, spaces bl, bb⟩, nolimit := lim }
    refine { frames := rfl, mod := mo, bs := fun c oc e => of_hidT e, bsz := Nat.le_of_eq (hidT_size _ _), funs := trivial, frf := (fun c hc => nomatch hc), hok := fun c u e => ?_, bare := .of_eq gens }
    rw [← eH] at e
    obtain ⟨_, rfl, rfl⟩ := atScript_some e
    exact ⟨at_a, by rw [List.length_map]; exact small, vs, _, rel, at_a⟩
  cases known : K.lookup a with
  | none => exact ⟨true, _, _, rfl, .inl (.inr ⟨_, if_pos ⟨rfl, rfl⟩⟩), env true fun _ => known⟩
  | some o =>
    have e := kin a o known
    rw [at_a] at e
    cases e
    exact ⟨false, _, _, rfl, .inr ⟨_, vs.toArray, _, known, rfl, rfl, rfl, by rw [List.size_toArray, lv]; exact small, by simpa using rel⟩, env false fun z => nomatch z⟩
theorem script_call {fa : Addr} {fd : FuncData} {x : Str} {k : Nat} {m : Fn} (kin : K.In s.heap) (gl : s.heap.Ns mainGlobals mg) (bl : s.heap.Ns builtinsNs mb) (bb : ∀ x : Str, x ≠ "__name__" → mb x = bootBuiltins x) (nl : s.heap.NoLimit) (gens : s.gens = #[])
    (at_a : s.heap.get? a = some { cls := .type "list", data := .seq vs.toArray }) (iv : IntsAre vs ns) (small : ns.length ≤ sizeLine) (room : RG k callerA)
    (F : ∀ base : Heap, K.In base → base.Ns mainGlobals mg → FnG P w K mg base k fa fd [x] (SpM K mg [0] 0 m)) (bind : ∀ (s : Shared) (u : Value), BindsTo s fd ⟨[u], []⟩ [(x, u)])
    (yes : m [.sset (ns.map Sum.inl)] = .ok (.bl true) []) :
    codeAny (model P w) callerA (.call (.ref fa) ⟨[.ref a], []⟩) (fun r s' => r = .ok (.ret (.bool true)) ∧ OldK s.heap s'.heap ∧ s'.os = s.os ∧ AllBare s'.gens) s := by
  obtain ⟨b, o, H, eH, sq, e0⟩ := script_env (P := P) (w := w) kin gl bl bb nl gens at_a iv small
  have rep : Rep K (fun _ => False) H (.ref a) (.sset (ns.map Sum.inl)) := .scr rfl (sq.elim (fun z => .inl ⟨id, z⟩) .inr)
  have wish : SpM K mg [0] 0 m [.ref a] H (fun v _ => v = .bl true) (fun _ _ _ => False) := by
    refine ⟨fun _ => False, [.sset (ns.map Sum.inl)], [], .val rep .nil, .nil, fun _ z => z.elim, ?_⟩
    rw [yes]
    intro v S' H' F' fp _ al _ _
    cases al with | zero r => cases r; rfl
  have run := (F _ e0.mod.kin e0.mod.glob).run callerA [] s H ⟨[.ref a], []⟩ [.ref a] [.ref a] _ _ room e0 (bind s (.ref a)) (.cons rfl .nil) wish
  refine codeAny_mono run fun res s' h => ?_
  match res, h with
  | .error e, h => obtain ⟨_, _, _, _, _, _, _, _, _, _, _, _, z⟩ := h; exact z.elim
  | .ok .next, h => exact h.elim
  | .ok .brk, h => exact h.elim
  | .ok .cont, h => exact h.elim
  | .ok (.ret u), h =>
    obtain ⟨v, H', os, bare, un, hok', r', q⟩ := h
    cases (show v = .bl true from q)
    cases (show u = Value.bool true from r')
    refine ⟨rfl, OldK.of_keep fun c oc e => ?_, os, bare⟩
    cases hc : H c with
    | none => exact un.keep c oc e hc (fun z => nomatch z) (fun z => nomatch z)
    | some u =>
      have hc2 := hc
      rw [eH] at hc2
      obtain ⟨_, _, rfl⟩ := atScript_some hc2
      have old := (e0.hok c _ hc).1
      have now := (hok' c _ (un.frzs c _ _ hc)).1
      rw [e] at old
      cases old
      exact now
end
/-- a law of scripts, from its mirror -/
theorem walk {l : PySem.W.OpenLaw} {n k : Nat} {q : Program} {loose : List Str} {XP : (Str → Option Value) → Heap → Prop} {YP : World → Heap → Prop} {d : DefRec} {K : Params → PySem.W.Frag} {x : Str} {m : Fn} (hn : l.most = some n) (hn2 : n ≤ sizeLine) (hdf : d.params.defaults = []) (room : RG k callerA)
    (hY : ∀ (w : World) (h : Heap), YP w h → (K w.params).In h)
    (F : ∀ (w : World) (mg : Str → Option Value) (fa : Addr) (h : Heap), (K w.params).In h → h.Ns mainGlobals mg → mg d.name = some (.ref fa) →
      ∃ fd : FuncData, (∀ (s : Shared) (u : Value), BindsTo s fd ⟨[u], []⟩ [(x, u)]) ∧ ∀ base : Heap, (K w.params).In base → base.Ns mainGlobals mg → FnG l.prog w (K w.params) mg base k fa fd [x] (SpM (K w.params) mg [0] 0 m))
    (yes : ∀ ns : List Int, ns.length ≤ n → m [.sset (ns.map Sum.inl)] = .ok (.bl true) []) : PySem.W.WalkO q loose XP YP l.row.toRowW d [] (fun f vs => PySem.call f vs) := by
  refine Att.attach_call hn hdf fun w s₀ s₁ mg mb fa o pm cd doc a vs ns G Y ho hd hcd hmg hobj hints hlen hg => ?_
  obtain ⟨fd, bind, hF⟩ := F w mg fa _ (hY w _ Y) G.T.g hmg
  exact script_call (hY w _ Y) G.T.g G.T.b G.T.builtins G.T.nolimit hg hobj hints (Nat.le_trans hlen hn2) room hF bind (yes ns hlen)
end VL

namespace VL
open PySem PySem.Spec PyProof.Rows L2

/-! ## a flat answer: what is owned may be looked at whole -/
def toVal (is : List Nat) (ρ : En) : En := ρ.mapIdx fun i s => if i ∈ is then (match s with | some (_, d) => some (.val, d) | none => none) else s
def eScope (is : List Nat) (f : EM (Nat × D)) : EM (Nat × D) := fun ρ => match f (toVal is ρ) with
  | .ok a _ => if a.2.flat = true then .ok (0, a.2) ρ else .bad
  | _ => .bad
section
variable {K : PySem.W.Frag} {C : Ctx} {fps : Nat → List Addr} {ρ : En} {S : Own} {σ : L2.St} {H : Hp}
theorem scope_sim (is : List Nat) (h : SimF K C fps ρ S σ H) : ∃ C' S', Sim K C' (toVal is ρ) S' σ H := by
  have S'd : ∃ S' : Own, ∀ b, S' b ↔ (S b ∧ ∀ i ∈ is, b ∉ fps i) := ⟨_, fun b => Iff.rfl⟩
  obtain ⟨S', hS'⟩ := S'd
  refine ⟨⟨H, fun _ => False, S', S', fun _ => S', C.vs⟩, S', fun i => if i ∈ is then [] else fps i, ?_⟩
  have t : Tr S H S' H := .less fun b z => ((hS' b).1 z).1
  refine ⟨by simpa [toVal] using h.len, fun i s es => ?_, fun i => ?_, fun i j b hi hj => ?_, fun _ z => z.elim, fun _ z => z.elim, fun _ z => .inr z, fun _ z => ⟨z, id⟩, fun _ _ z => z, fun _ _ z => z, fun _ _ _ e => e, fun _ e => e, fun _ z => .inr (.inl z), fun b z => h.sd b ((hS' b).1 z).1, fun i hi => ?_⟩
  · unfold toVal at es
    rw [List.getElem?_mapIdx] at es
    obtain ⟨s0, e0, rfl⟩ := Option.map_eq_some_iff.mp es
    obtain ⟨x, ex, k⟩ := h.sl i s0 e0
    refine ⟨x, ex, ?_⟩
    by_cases hi : i ∈ is
    · rw [if_pos hi, if_pos hi]
      cases s0 with
      | none => exact .non
      | some md =>
        obtain ⟨m, d⟩ := md
        have nS : ∀ b ∈ fps i, ¬ S' b := fun b hb z => ((hS' b).1 z).2 i hi hb
        generalize fps i = f at k nS
        cases k with
        | val r => exact .val (r.mono t)
        | own al z => exact .val (al.freeze (fun b z => ((hS' b).1 z).1) nS)
        | bor al w z => exact .val (al.freeze (fun b z => ((hS' b).1 z).1) nS)
    · rw [if_neg hi, if_neg hi]
      have yS : ∀ b ∈ fps i, S b → S' b := fun b hb hs => (hS' b).2 ⟨hs, fun j hj hm => hi (h.dj i j b hb hm ▸ hj)⟩
      have th := k.there
      generalize fps i = f at k yS th
      cases k with
      | non => exact .non
      | val r => exact .val (r.mono t)
      | own al z => exact .own (al.mono t fun b hb => ⟨rfl, yS b hb (th b hb).2⟩) fun b hb => .inl (yS b hb (th b hb).2)
      | bor al w z => exact .bor (al.mono t fun b hb => ⟨rfl, yS b hb (th b hb).2⟩) w fun b hb => .inl (yS b hb (th b hb).2)
  · show (if i ∈ is then [] else fps i).Nodup
    split
    · exact .nil
    · exact h.nd i
  · have hi' : b ∈ (if i ∈ is then [] else fps i) := hi
    have hj' : b ∈ (if j ∈ is then [] else fps j) := hj
    split at hi'
    · cases hi'
    · split at hj'
      · cases hj'
      · exact h.dj i j b hi' hj'
  · show (if i ∈ is then [] else fps i) = []
    split
    · rfl
    · exact h.out i (by simpa [toVal] using hi)
theorem Rep.flat_any {S' : Own} {H' : Hp} {v : V} {d : D} (r : Rep K S H v d) (hf : d.flat = true) : Rep K S' H' v d := by
  cases r <;> first | (cases hf; done) | constructor
end
section
variable {X : Cx} {W : WX}
theorem v_scope (is : List Nat) {e : Expr} {f : EM (Nat × D)} (h : PE X e (tE X.K X.mg W true f)) : PE X e (tE X.K X.mg W true (eScope is f)) := peI h fun σ H Q h => by
  obtain ⟨C, ρ, S, ⟨fps, sim⟩, h⟩ := h
  obtain ⟨C', S', s'⟩ := scope_sim is sim
  refine ⟨C', toVal is ρ, S', s', ?_⟩
  unfold eScope at h
  cases ef : f (toVal is ρ) with
  | err x ρ1 => rw [ef] at h; exact h.elim
  | bad => rw [ef] at h; exact h.elim
  | ok a ρ1 =>
  obtain ⟨n, d⟩ := a
  rw [ef] at h
  dsimp only at h
  split at h
  case isFalse => exact h.elim
  case isTrue hf =>
  intro v S1 H1 fp s1 m1 c1 a1
  obtain ⟨rfl, sm⟩ := m1.2 rfl
  have s2 := sim.same sm
  have r0 : Rep X.K (fun _ => False) H1 v d := a1.rep0
  exact h v S H1 [] ⟨fps, s2⟩ (.same sm) (fun _ => rfl) (.zero (r0.flat_any hf))
/-- code that is not reached -/
theorem ws_bad {b : List Stmt} {r : Nat} : PSs X b (tS X.K X.mg W r fun _ => .bad) := ⟨fun _ _ _ _ _ _ ⟨_, _, _, _, z⟩ => z.elim⟩
theorem v_bad {e : Expr} {p : Bool} : PE X e (tE X.K X.mg W p fun _ => .bad) := ⟨fun _ _ _ _ _ _ ⟨_, _, _, _, z⟩ => z.elim⟩
theorem tk0 : Takes X W0 := fun _ _ ⟨_, _, _, _, _, _, _, _, _, _, _, _, _, _, _, _, z⟩ => z.elim
end
/-- a def of the program, by its mirror -/
structure DefG (P : Program) (w : World) (K : PySem.W.Frag) (mg : Str → Option Value) (base : Heap) (k : Nat) (x : Str) (ls : List Nat) (r : Nat) (m : Fn) : Prop where
  ex : ∃ (f : Addr) (fd : FuncData) (ps : List Str), FnG P w K mg base k f fd ps (SpM K mg ls r m) ∧ mg x = some (.ref f) ∧ PySem.W.keepIn K (.ref f) = true ∧ Binds K fd ps []
section
variable {X : Cx} {W : WX} {p : Bool} {k r j : Nat} {ls : List Nat} {m : Fn} {x : Str} {np pos : Pos} {e : Expr} {es : List Expr} {g : EM (List ArgD)}
theorem c_call (D : DefG X.prog X.w X.K X.mg X.base k x ls r m) (tk : Takes X W) (hr : RG j X.A) (hg : Gl X x) (ha : PA X (e :: es) (tX X.K X.mg W p g)) (hj : k ≤ j := by decide) (hdb : (x == ("__debug__" : Str)) = false := by decide)
    (he : starEach (e :: es) X.env = (false, eval e X.env) :: starEach es X.env := by rfl) (hpl : (backTo pos (starEach es X.env)).any (·.1) = false := by rfl) : PE X (.Call (.Name x np) (e :: es) [] pos) (tE X.K X.mg W p (eCall ls m g)) := by
  obtain ⟨f, fd, ps, F, hm, hk, hb⟩ := D.ex
  exact v_call F tk (hr.mono hj) hg hm hk hb ha hdb he hpl
theorem c_lend (D : DefG X.prog X.w X.K X.mg X.base k x ls r m) (tk : Takes X W) (hr : RG j X.A) (hg : Gl X x) (ha : PA X (e :: es) (tX X.K X.mg W p g)) (hj : k ≤ j := by decide) (hdb : (x == ("__debug__" : Str)) = false := by decide)
    (he : starEach (e :: es) X.env = (false, eval e X.env) :: starEach es X.env := by rfl) (hpl : (backTo pos (starEach es X.env)).any (·.1) = false := by rfl) : PE X (.Call (.Name x np) (e :: es) [] pos) (tE X.K X.mg W false (eCallB ls m g)) := by
  obtain ⟨f, fd, ps, F, hm, hk, hb⟩ := D.ex
  exact v_callB F tk (hr.mono hj) hg hm hk hb ha hdb he hpl
theorem c_new (D : DefG X.prog X.w X.K X.mg X.base k x ls r m) (tk : Takes X W) (hr : RG j X.A) (hg : Gl X x) (ha : PA X (e :: es) (tX X.K X.mg W p g)) (hj : k ≤ j := by decide) (hdb : (x == ("__debug__" : Str)) = false := by decide)
    (he : starEach (e :: es) X.env = (false, eval e X.env) :: starEach es X.env := by rfl) (hpl : (backTo pos (starEach es X.env)).any (·.1) = false := by rfl) : PE X (.Call (.Name x np) (e :: es) [] pos) (tN X.K X.mg W r (nCall ls m g)) := by
  obtain ⟨f, fd, ps, F, hm, hk, hb⟩ := D.ex
  exact n_call F tk (hr.mono hj) hg hm hk hb ha hdb he hpl
end
end VL

namespace VL
open PySem PySem.Spec PyProof.Rows L2
theorem RG.hu1 {k : Nat} {A : Around} (r : RG k A) : A.units + 1 < cLine := by have := r.room.un; omega
theorem RG.hu64 {k : Nat} {A : Around} (r : RG k A) : A.units + 64 < cLine := by have := r.room.un; omega
theorem RG.hu66 {k : Nat} {A : Around} (r : RG k A) : A.units + 66 < cLine := by have := r.room.un; omega
theorem passes_no {X : Cx} : Passes (L2.CX X.prog X.w) X (fun _ _ _ => False) := fun pins σ H s e s' _ c => by
  obtain ⟨_, _, _, _, _, _, _, _, _, _, _, _, z⟩ := c
  exact z.elim
/-- an own exception class x at C whose __init__ stores fs -/
structure ExcC (P : Program) (w : World) (K : PySem.W.Frag) (mg : Str → Option Value) (base : Heap) (x : Str) (fs : List Str) (C : Addr) : Prop where
  oex : OexC K C
  ini : ∃ (fI : Addr) (fd : FuncData) (ps : List Str), PySem.W.findIn K (.ref C) "__init__" = some (some (.ref fI)) ∧ PySem.W.typeIn K (.ref fI) = some (.type "function") ∧ FnOk P w K mg base (L2.CX P w) 1 fI fd ps (spInit K fs) ∧ Binds K fd ps []
  at_ : mg x = some (.ref C)
  no : ∀ f ∈ fs, PySem.W.findIn K (.ref C) f = some none
  xf : XfC K C
  few : fs.length ≤ 1000
theorem ExcC.raiseF {X : Cx} {x : Str} {fs : List Str} {C : Addr} (E : ExcC X.prog X.w X.K X.mg X.base x fs C) (hr : Room 2 X.A) : RaiseF X x fs := by
  obtain ⟨fI, fd, ps, h1, h2, h3, h4⟩ := E.ini
  exact ⟨⟨C, fI, 1, fd, ps, E.oex, h1, h2, h3, hr, h4, E.at_, E.no⟩, E.few⟩
theorem exm_own {K : PySem.W.Frag} {S C : Addr} (h1 : PySem.W.subIn K (.ref C) (.type "BaseException") = some true) (h2 : PySem.W.isClsIn K C = true) (h3 : PySem.W.typeIn K (.ref C) = some (.type "type")) {b : Bool} (h4 : PySem.W.subIn K (.ref S) (.ref C) = some b) :
    PySem.W.exmOne K (.ref S) (.ref C) = some b := by
  unfold PySem.W.exmOne
  have e2 : (PySem.W.clsIn K C).isSome = true := h2
  simp [h1, PySem.W.kitCls, e2, h3, h4]
theorem bt_len : bootBuiltins "len" = some (.builtin "len") := by decide +kernel
theorem bt_abs : bootBuiltins "abs" = some (.builtin "abs") := by decide +kernel
theorem bt_repr : bootBuiltins "repr" = some (.builtin "repr") := by decide +kernel
theorem bt_sorted : bootBuiltins "sorted" = some (.builtin "sorted") := by decide +kernel
theorem bt_isinstance : bootBuiltins "isinstance" = some (.builtin "isinstance") := by decide +kernel
theorem bt_min : bootBuiltins "min" = some (.builtin "min") := by decide +kernel
theorem bt_max : bootBuiltins "max" = some (.builtin "max") := by decide +kernel
theorem bt_int : bootBuiltins "int" = some (.type "int") := by decide +kernel
theorem bt_list : bootBuiltins "list" = some (.type "list") := by decide +kernel
theorem bt_dict : bootBuiltins "dict" = some (.type "dict") := by decide +kernel
theorem bt_tuple : bootBuiltins "tuple" = some (.type "tuple") := by decide +kernel
theorem bt_str : bootBuiltins "str" = some (.type "str") := by decide +kernel
theorem bt_bool : bootBuiltins "bool" = some (.type "bool") := by decide +kernel
end VL

namespace VL
open PySem PySem.Spec L2
/-! ## mirrors, evaluated by simp -/
def bnd {α β : Type} (r : R En α) (k : α → EM β) : R En β := match r with
  | .ok a ρ => k a ρ | .err x ρ => .err x ρ | .bad => .bad
def bndS {α : Type} (r : R En α) (k : α → SM) : SR := match r with
  | .ok a ρ => k a ρ | .err x ρ => .err x ρ | .bad => .bad
def andS (r : SR) (k : SM) : SR := match r with
  | .nx ρ => k ρ | r => r
def optR (o : Option D) (ρ : En) : R En (Nat × D) := match o with | some d => .ok (0, d) ρ | none => .bad
def optL (o : Option (List D)) (ρ : En) : R En D := match o with | some d => .ok (.lst d) ρ | none => .bad
def slotR (s : Option Slot) (ρ : En) : R En (Nat × D) := match s with | some (some (m, d)) => .ok (m.lv, d) ρ | _ => .bad
section
variable {α β : Type} {r r' : R En α} {k : α → EM β} {ks : α → SM} {a : α} {ρ ρ' : En} {x : Ex} {d : D}
theorem bnd_congr (h : r = r') : bnd r k = bnd r' k := by rw [h]
theorem bndS_congr (h : r = r') : bndS r ks = bndS r' ks := by rw [h]
theorem andS_congr {s s' : SR} {g : SM} (h : s = s') : andS s g = andS s' g := by rw [h]
@[simp] theorem bnd_ok : bnd (.ok a ρ) k = k a ρ := rfl
@[simp] theorem bnd_err : bnd (.err x ρ) k = .err x ρ := rfl
@[simp] theorem bnd_bad : bnd .bad k = .bad := rfl
@[simp] theorem bndS_ok : bndS (.ok a ρ) ks = ks a ρ := rfl
@[simp] theorem bndS_err : bndS (.err x ρ) ks = .err x ρ := rfl
@[simp] theorem bndS_bad : bndS .bad ks = .bad := rfl
@[simp] theorem andS_nx {g : SM} : andS (.nx ρ) g = g ρ := rfl
@[simp] theorem andS_rt {g : SM} {n : Nat} : andS (.rt n d ρ) g = .rt n d ρ := rfl
@[simp] theorem andS_err {g : SM} : andS (.err x ρ) g = .err x ρ := rfl
@[simp] theorem andS_bk {g : SM} : andS (.bk ρ) g = .bk ρ := rfl
@[simp] theorem andS_ct {g : SM} : andS (.ct ρ) g = .ct ρ := rfl
@[simp] theorem optR_some : optR (some d) ρ = .ok (0, d) ρ := rfl
@[simp] theorem optL_some {ds : List D} : optL (some ds) ρ = .ok (.lst ds) ρ := rfl
@[simp] theorem slotR_some {m : Md} : slotR (some (some (m, d))) ρ = .ok (m.lv, d) ρ := rfl
@[simp] theorem lv_val : Md.lv .val = 0 := rfl
@[simp] theorem lv_own {n : Nat} : Md.lv (.own n) = n := rfl
@[simp] theorem lv_bor {n : Nat} : Md.lv (.bor n) = n := rfl
variable {f g : EM (Nat × D)} {h : EM D} {q : Bool} {i n : Nat}
@[simp] theorem ap_then {f : EM α} : EM.then f k ρ = bnd (f ρ) k := rfl
@[simp] theorem ap_s {f : EM α} : EM.s f ks ρ = bndS (f ρ) ks := rfl
@[simp] theorem ap_c : eC d ρ = .ok (0, d) ρ := rfl
@[simp] theorem ap_v : eV i ρ = slotR ρ[i]? ρ := rfl
def frzR (i : Nat) (s : Option Slot) (ρ : En) : R En (Nat × D) := match s with | some (some (.val, d)) => .ok (0, d) ρ | some (some (.own _, d)) => .ok (0, d) (ρ.set i (some (.val, d))) | _ => .bad
@[simp] theorem ap_f : eF i ρ = frzR i ρ[i]? ρ := rfl
@[simp] theorem frzR_val : frzR i (some (some (.val, d))) ρ = .ok (0, d) ρ := rfl
@[simp] theorem frzR_own : frzR i (some (some (.own n, d))) ρ = .ok (0, d) (ρ.set i (some (.val, d))) := rfl
def movR (n i : Nat) (s : Option Slot) (ρ : En) : R En D := match s with | some (some (.own m, d)) => if m = n then .ok d (ρ.set i none) else .bad | _ => .bad
@[simp] theorem ap_nV : nV n i ρ = movR n i ρ[i]? ρ := rfl
@[simp] theorem movR_own : movR n i (some (some (.own n, d))) ρ = .ok d (ρ.set i none) := if_pos rfl
def opR (q : Bool) (op : Nat → D → Nat → D → Option D) (a b : Nat × D) (ρ : En) : R En (Nat × D) := if q = true ∨ a.1 = 0 then optR (op a.1 a.2 b.1 b.2) ρ else .bad
@[simp] theorem ap_op {op : Nat → D → Nat → D → Option D} : eOp q op f g ρ = bnd (f ρ) fun a ρ1 => bnd (g ρ1) fun b ρ2 => opR q op a b ρ2 := rfl
@[simp] theorem opR_true {op : Nat → D → Nat → D → Option D} {a b : Nat × D} : opR true op a b ρ = optR (op a.1 a.2 b.1 b.2) ρ := rfl
@[simp] theorem opR_zero {op : Nat → D → Nat → D → Option D} {u : D} {b : Nat × D} : opR q op (0, u) b ρ = optR (op 0 u b.1 b.2) ρ := by simp [opR]
@[simp] theorem ap_un {op : Nat → D → Option D} : eUn op f ρ = bnd (f ρ) fun a ρ1 => optR (op a.1 a.2) ρ1 := rfl
@[simp] theorem ap_aNil : aNil ρ = .ok [] ρ := rfl
@[simp] theorem ap_aCons {fs : EM (List D)} : aCons f fs ρ = bnd (f ρ) fun a ρ1 => bnd (fs ρ1) fun ds ρ2 => if a.1 = 0 then .ok (a.2 :: ds) ρ2 else .bad := rfl
@[simp] theorem ap_tup {fs : EM (List D)} : eTup fs ρ = bnd (fs ρ) fun ds ρ1 => if ds.length ≤ sizeLine then .ok (0, .tup ds) ρ1 else .bad := rfl
@[simp] theorem ap_lst {fs : EM (List D)} : eLst fs ρ = bnd (fs ρ) fun ds ρ1 => if ds.length ≤ sizeLine then .ok (0, .lst ds) ρ1 else .bad := rfl
@[simp] theorem ap_nLst {fs : EM (List D)} : nLst fs ρ = bnd (fs ρ) fun ds ρ1 => if ds.length ≤ sizeLine then .ok (.lst ds) ρ1 else .bad := rfl
def blR (d : D) (ρ : En) : R En Bool := match d with | .bl b => .ok b ρ | _ => .bad
@[simp] theorem blR_bl {b : Bool} : blR (.bl b) ρ = .ok b ρ := rfl
@[simp] theorem ap_eB : eB f ρ = bnd (f ρ) fun a ρ1 => blR a.2 ρ1 := rfl
@[simp] theorem ap_bAnd {f g : EM Bool} : bAnd f g ρ = bnd (f ρ) fun a ρ1 => if a = true then g ρ1 else .ok false ρ1 := by
  unfold bAnd; rw [ap_then]; congr; funext a; cases a <;> rfl
@[simp] theorem ap_bOr {f g : EM Bool} : bOr f g ρ = bnd (f ρ) fun a ρ1 => if a = true then .ok true ρ1 else g ρ1 := by
  unfold bOr; rw [ap_then]; congr; funext a; cases a <;> rfl
@[simp] theorem ap_bNot {f : EM Bool} : bNot f ρ = bnd (f ρ) fun a ρ1 => .ok (!a) ρ1 := rfl
@[simp] theorem ap_bYes : bYes ρ = .ok true ρ := rfl
def andR (d : D) (g : EM (Nat × D)) (ρ : En) : R En (Nat × D) := match d with | .bl true => g ρ | .bl false => .ok (0, .bl false) ρ | _ => .bad
@[simp] theorem andR_t : andR (.bl true) g ρ = g ρ := rfl
@[simp] theorem andR_f : andR (.bl false) g ρ = .ok (0, .bl false) ρ := rfl
@[simp] theorem ap_eAnd : eAnd f g ρ = bnd (f ρ) fun a ρ1 => andR a.2 g ρ1 := rfl
def orR (d : D) (g : EM (Nat × D)) (ρ : En) : R En (Nat × D) := match d with | .bl false => g ρ | .bl true => .ok (0, .bl true) ρ | _ => .bad
@[simp] theorem orR_f : orR (.bl false) g ρ = g ρ := rfl
@[simp] theorem orR_t : orR (.bl true) g ρ = .ok (0, .bl true) ρ := rfl
@[simp] theorem ap_eOr : eOr f g ρ = bnd (f ρ) fun a ρ1 => orR a.2 g ρ1 := rfl
@[simp] theorem ap_n0 : n0 f ρ = bnd (f ρ) fun a ρ1 => if a.1 = 0 then .ok a.2 ρ1 else .bad := rfl
@[simp] theorem ap_eN : eN h ρ = bnd (h ρ) fun d ρ1 => .ok (0, d) ρ1 := rfl
@[simp] theorem ap_dic0 : nDic0 ρ = .ok (.dic []) ρ := rfl
@[simp] theorem ap_lst0 : nLst0 ρ = .ok (.lst []) ρ := rfl
def ixR (q : Bool) (a b : Nat × D) (ρ : En) : R En (Nat × D) := eIx q (fun _ => .ok a ρ) (fun _ => .ok b ρ) ρ
-- statements
@[simp] theorem ap_nx : sNx ρ = .nx ρ := rfl
@[simp] theorem ap_bk : sBk ρ = .bk ρ := rfl
@[simp] theorem ap_ct : sCt ρ = .ct ρ := rfl
@[simp] theorem ap_seq {a b : SM} : sSeq a b ρ = andS (a ρ) b := rfl
@[simp] theorem ap_set : sSet i f ρ = bndS (f ρ) fun a ρ1 => if a.1 = 0 then .nx (ρ1.set i (some (.val, a.2))) else .bad := rfl
@[simp] theorem ap_own : sOwn n i h ρ = bndS (h ρ) fun a ρ1 => .nx (ρ1.set i (some (.own n, a))) := rfl
@[simp] theorem ap_expr : sExpr f ρ = bndS (f ρ) fun _ ρ1 => .nx ρ1 := rfl
@[simp] theorem ap_ret : sRet f ρ = bndS (f ρ) fun a ρ1 => if a.1 = 0 then .rt 0 a.2 ρ1 else .bad := rfl
@[simp] theorem ap_retN : sRetN n h ρ = bndS (h ρ) fun a ρ1 => .rt n a ρ1 := rfl
@[simp] theorem ap_ret0 : sRet0 ρ = .rt 0 .non ρ := rfl
@[simp] theorem ap_if {c : EM Bool} {a b : SM} : sIf c a b ρ = bndS (c ρ) fun k ρ1 => if k = true then a ρ1 else b ρ1 := by
  unfold sIf; rw [ap_s]; congr; funext a; cases a <;> rfl
@[simp] theorem ap_for {fg : List Nat} {it : EM (List D)} {tg : D → SM} {body : SM} : sFor fg it tg body ρ = bndS (it ρ) fun ds ρ1 => forL fg tg body ds ρ1 := rfl
def seqR (a : Nat × D) (ρ : En) : R En (List D) := if a.1 = 0 then (match a.2 with | .lst ds => .ok ds ρ | .tup ds => .ok ds ρ | _ => .bad) else .bad
@[simp] theorem seqR_lst {ds : List D} : seqR (0, .lst ds) ρ = .ok ds ρ := rfl
@[simp] theorem seqR_tup {ds : List D} : seqR (0, .tup ds) ρ = .ok ds ρ := rfl
@[simp] theorem ap_iSeq : iSeq f ρ = bnd (f ρ) fun a ρ1 => seqR a ρ1 := rfl
def dicR (a : Nat × D) (ρ : En) : R En (List D) := match keysD a with | some ds => .ok ds ρ | none => .bad
@[simp] theorem dicR_dic {ks : List (Key × D)} : dicR (0, .dic ks) ρ = .ok (ks.map fun kd => keyD kd.1) ρ := rfl
@[simp] theorem ap_iDic : iDic f ρ = bnd (f ρ) fun a ρ1 => dicR a ρ1 := rfl
@[simp] theorem ap_gN : gN i d ρ = .nx (ρ.set i (some (.val, d))) := rfl
@[simp] theorem ap_xNil : xNil ρ = .ok [] ρ := rfl
@[simp] theorem ap_xVal {xs : EM (List ArgD)} : xVal q f xs ρ = bnd (f ρ) fun a ρ1 => bnd (xs ρ1) fun as ρ2 => if q = true ∨ a.1 = 0 then .ok (.val a.1 a.2 :: as) ρ2 else .bad := rfl
def boxR (i : Nat) (xs : EM (List ArgD)) (s : Option Slot) (ρ : En) : R En (List ArgD) := match s with | some (some _) => bnd (xs ρ) fun as ρ1 => .ok (.box i :: as) ρ1 | _ => .bad
@[simp] theorem boxR_some {xs : EM (List ArgD)} {md : Md × D} : boxR i xs (some (some md)) ρ = bnd (xs ρ) fun as ρ1 => .ok (.box i :: as) ρ1 := rfl
@[simp] theorem ap_xBox {xs : EM (List ArgD)} : xBox i xs ρ = boxR i xs ρ[i]? ρ := rfl
@[simp] theorem ap_bu {op : List (Nat × D) → Option D} {xs : EM (List ArgD)} : eBu op xs ρ = bnd (xs ρ) fun as ρ1 => optR ((valsOf as).bind op) ρ1 := rfl
@[simp] theorem ap_nbu {op : List (Nat × D) → Option (List D)} {xs : EM (List ArgD)} : nBu op xs ρ = bnd (xs ρ) fun as ρ1 => optL ((valsOf as).bind op) ρ1 := rfl
-- calls
def retR (m : R (List D) D) (fl : Bool) (ρ : En) : R En (Nat × D) := match m with
  | .ok d _ => if (fl || d.flat) = true then .ok (0, d) ρ else .bad
  | .err x _ => if (fl || x.fs.all fun p => p.2.flat) = true then .err x ρ else .bad
  | .bad => .bad
def callO (o : Option (List D)) (m : Fn) (fl : Bool) (ρ : En) : R En (Nat × D) := match o with | some ds => retR (m ds) fl ρ | none => .bad
theorem callO_congr {o o' : Option (List D)} {m : Fn} {fl fl' : Bool} (h : o = o') (h2 : fl = fl') : callO o m fl ρ = callO o' m fl' ρ := by rw [h, h2]
@[simp] theorem callO_some {ds : List D} {m : Fn} {fl : Bool} : callO (some ds) m fl ρ = retR (m ds) fl ρ := rfl
@[simp] theorem retR_ok {d : D} {o : List D} {fl : Bool} : retR (.ok d o) fl ρ = if (fl || d.flat) = true then .ok (0, d) ρ else .bad := rfl
@[simp] theorem retR_err {x : Ex} {o : List D} {fl : Bool} : retR (.err x o) fl ρ = if (fl || x.fs.all fun p => p.2.flat) = true then .err x ρ else .bad := rfl
@[simp] theorem ap_call {ls : List Nat} {m : Fn} {xs : EM (List ArgD)} : eCall ls m xs ρ = bnd (xs ρ) fun as ρ1 => if boxes as = [] then callO (callDs ls as ρ1) m (asFlat as) ρ1 else .bad := by
  unfold eCall; rw [ap_then]; congr
def retB (m : R (List D) D) (bs : List Nat) (ρ : En) : R En D := match m with
  | .ok d outs => .ok d (setB bs outs ρ)
  | .err x outs => .err x (setB bs outs ρ)
  | .bad => .bad
def lendO (o : Option (List D)) (m : Fn) (bs : List Nat) (ρ : En) : R En D := match o with | some ds => retB (m ds) bs ρ | none => .bad
@[simp] theorem lendO_some {ds : List D} {m : Fn} {bs : List Nat} : lendO (some ds) m bs ρ = retB (m ds) bs ρ := rfl
@[simp] theorem retB_ok {d : D} {o : List D} {bs : List Nat} : retB (.ok d o) bs ρ = .ok d (setB bs o ρ) := rfl
@[simp] theorem retB_err {x : Ex} {o : List D} {bs : List Nat} : retB (.err x o) bs ρ = .err x (setB bs o ρ) := rfl
@[simp] theorem ap_new {ls : List Nat} {m : Fn} {xs : EM (List ArgD)} : nCall ls m xs ρ = bnd (xs ρ) fun as ρ1 => if asFlat as = true ∧ (boxes as).Nodup then lendO (callDs ls as ρ1) m (boxes as) ρ1 else .bad := by
  unfold nCall; rw [ap_then]; congr
@[simp] theorem ap_lend {ls : List Nat} {m : Fn} {xs : EM (List ArgD)} : eCallB ls m xs ρ = bnd (nCall ls m xs ρ) fun d ρ1 => .ok (0, d) ρ1 := by
  rw [ap_new]
  unfold eCallB; rw [ap_then]
  cases xs ρ with
  | err x ρ1 => rfl
  | bad => rfl
  | ok as ρ1 =>
    simp only [bnd_ok]
    split
    · cases callDs ls as ρ1 with
      | none => rfl
      | some ds => dsimp only [lendO_some]; cases m ds <;> rfl
    · rfl
-- defs
def finR (ls : List Nat) (r : Nat) (s : SR) : R (List D) D := match s with
  | .rt n d ρ => if n = r then (match outsE ls ρ with | some o => .ok d o | none => .bad) else .bad
  | .nx ρ => if r = 0 then (match outsE ls ρ with | some o => .ok .non o | none => .bad) else .bad
  | .err x ρ => (match outsE ls ρ with | some o => .err x o | none => .bad)
  | _ => .bad
theorem ap_run {ls : List Nat} {k r : Nat} {g : SM} {ds : List D} : runF ls k r g ds = finR ls r (g (initE ls ds ++ List.replicate k none)) := by
  unfold runF finR
  cases g (initE ls ds ++ List.replicate k none) <;> rfl
@[simp] theorem finR_rt {ls : List Nat} {r n : Nat} : finR ls r (.rt n d ρ) = if n = r then (match outsE ls ρ with | some o => .ok d o | none => .bad) else .bad := rfl
@[simp] theorem finR_nx {ls : List Nat} {r : Nat} : finR ls r (.nx ρ) = if r = 0 then (match outsE ls ρ with | some o => .ok .non o | none => .bad) else .bad := rfl
@[simp] theorem finR_err {ls : List Nat} {r : Nat} : finR ls r (.err x ρ) = (match outsE ls ρ with | some o => .err x o | none => .bad) := rfl
end
end VL

namespace VL
open PySem PySem.Spec L2
def ixO (n : Nat) (o : Option D) (ρ : En) : R En (Nat × D) := match o with | some d => .ok (n - 1, d) ρ | none => .bad
def ixQ (q : Bool) (a b : Nat × D) (ρ : En) : R En (Nat × D) := if q = true ∨ a.1 = 0 then ixO a.1 (ixN' a.1 a.2 b.2) ρ else .bad
section
variable {ρ : En} {d : D} {n m : Nat} {q : Bool} {f g : EM (Nat × D)}
@[simp] theorem ixO_some : ixO n (some d) ρ = .ok (n - 1, d) ρ := rfl
@[simp] theorem ap_ix : eIx q f g ρ = bnd (f ρ) fun a ρ1 => bnd (g ρ1) fun b ρ2 => ixQ q a b ρ2 := rfl
@[simp] theorem ixN'_0 {u v : D} : ixN' 0 u v = ixD u v := rfl
@[simp] theorem ixN'_lst {ds : List D} {v : D} : ixN' n (.lst ds) v = ixD (.lst ds) v := by cases n <;> rfl
@[simp] theorem ixN'_dic {ks : List (Key × D)} {v : D} : ixN' n (.dic ks) v = ixD (.dic ks) v := by cases n <;> rfl
@[simp] theorem ixN'_str {z : Str} {v : D} : ixN' n (.str z) v = ixD (.str z) v := by cases n <;> rfl
@[simp] theorem ixQ_true {a b : Nat × D} : ixQ true a b ρ = ixO a.1 (ixN' a.1 a.2 b.2) ρ := rfl
@[simp] theorem ixQ_zero {u : D} {b : Nat × D} : ixQ q (0, u) b ρ = ixO 0 (ixD u b.2) ρ := by simp [ixQ]
@[simp] theorem ixD_ls {ds : List D} {i : Int} : ixD (.lst ds) (.int i) = atI ds i := rfl
@[simp] theorem ixD_tu {ds : List D} {i : Int} : ixD (.tup ds) (.int i) = atI ds i := rfl
@[simp] theorem ixD_ds {ks : List (Key × D)} {s : Str} : ixD (.dic ks) (.str s) = valD ks (.inr s) := rfl
theorem atI_pos {α : Type} {xs : List α} {i : Int} (h0 : 0 ≤ i) (h1 : i < xs.length) : atI xs i = xs[i.toNat]? := by
  unfold atI ixN
  simp [h0, h1]
@[simp] theorem atI_0 {α : Type} {x : α} {xs : List α} : atI (x :: xs) 0 = some x := by rw [atI_pos (by omega) (by simp)]; rfl
@[simp] theorem atI_1 {α : Type} {x y : α} {xs : List α} : atI (x :: y :: xs) 1 = some y := by rw [atI_pos (by omega) (by simp; omega)]; rfl
@[simp] theorem atI_2 {α : Type} {x y z : α} {xs : List α} : atI (x :: y :: z :: xs) 2 = some z := by rw [atI_pos (by omega) (by simp; omega)]; rfl
@[simp] theorem atI_3 {α : Type} {x y z u : α} {xs : List α} : atI (x :: y :: z :: u :: xs) 3 = some u := by rw [atI_pos (by omega) (by simp; omega)]; rfl
@[simp] theorem eq_int {i j : Int} : eqD n (.int i) m (.int j) = some (.bl (decide (i = j))) := by
  simp [eqD, eqP, toPy, SeqAt.shaped, PyData.eqv, PyData.canLay0, PyData.depth, Bool.beq_eq_decide_eq]
@[simp] theorem eq_str {i j : Str} (hi : PyData.strOk i = true) (hj : PyData.strOk j = true) : eqD n (.str i) m (.str j) = some (.bl (decide (i = j))) := by
  simp [eqD, eqP, toPy, SeqAt.shaped, PyData.eqv, PyData.canLay0, PyData.depth, Bool.beq_eq_decide_eq, hi, hj]
@[simp] theorem ne_int {i j : Int} : neD n (.int i) m (.int j) = some (.bl (!decide (i = j))) := by simp [neD]
@[simp] theorem ne_str {i j : Str} (hi : PyData.strOk i = true) (hj : PyData.strOk j = true) : neD n (.str i) m (.str j) = some (.bl (!decide (i = j))) := by simp [neD, hi, hj]
@[simp] theorem add_int {i j : Int} : dAdd n (.int i) m (.int j) = some (.int (i + j)) := rfl
@[simp] theorem sub_int {i j : Int} : dSub n (.int i) m (.int j) = some (.int (i - j)) := rfl
@[simp] theorem lt_int {i j : Int} : dLt n (.int i) m (.int j) = some (.bl (decide (i < j))) := rfl
@[simp] theorem ge_int {i j : Int} : dGe n (.int i) m (.int j) = some (.bl (decide (j ≤ i))) := rfl
@[simp] theorem gt_int {i j : Int} : dGt n (.int i) m (.int j) = some (.bl (decide (j < i))) := rfl
@[simp] theorem le_int {i j : Int} : dLe n (.int i) m (.int j) = some (.bl (decide (i ≤ j))) := rfl
theorem log2_small {n : Nat} (h : n < 2 ^ 60) : n.log2 < 60 := by
  by_cases h0 : n = 0
  · subst h0; decide
  · exact (Nat.log2_lt h0).mpr h
theorem mul_ok {i j : Int} (hi : i.natAbs < 2 ^ 60) (hj : j.natAbs < 2 ^ 60) : dMul n (.int i) m (.int j) = some (.int (i * j)) := by
  have h1 := log2_small hi
  have h2 := log2_small hj
  simp only [dMul]
  rw [if_pos (by omega)]
theorem div_ok {i j : Int} (h0 : 0 < j) (hj : j.natAbs < 2 ^ 60) : dDiv n (.int i) m (.int j) = some (.int (i / j)) := by
  have h2 := log2_small hj
  simp only [dDiv]
  rw [if_pos ⟨h0, by omega⟩]
theorem mod_ok {i j : Int} (h0 : 0 < j) : dMod n (.int i) m (.int j) = some (.int (i % j)) := by
  simp only [dMod]
  rw [if_pos h0]
theorem forL_ok {fg : List Nat} {tg : D → SM} {body : SM} (P : Nat → En → Prop) : ∀ (ds : List D) (k : Nat) (ρ : En), P k ρ →
    (∀ i d ρ, ds[i]? = some d → P (k + i) ρ → ∃ ρ2, andS (tg d ρ) body = .nx ρ2 ∧ P (k + i + 1) (forget fg ρ2)) → ∃ ρ', forL fg tg body ds ρ = .nx ρ' ∧ P (k + ds.length) ρ'
  | [], k, ρ, h, _ => ⟨ρ, rfl, h⟩
  | d :: ds, k, ρ, h, hs => by
    obtain ⟨ρ2, e1, h2⟩ := hs 0 d ρ rfl h
    obtain ⟨ρ', e3, h3⟩ := forL_ok P ds (k + 1) (forget fg ρ2) h2 fun i d' ρ' e q => by
      have := hs (i + 1) d' ρ' (by simpa using e) (by rw [show k + (i + 1) = k + 1 + i by omega]; exact q)
      rw [show k + (i + 1) + 1 = k + 1 + i + 1 by omega] at this
      exact this
    refine ⟨ρ', ?_, by rw [show k + (d :: ds).length = k + 1 + ds.length by simp; omega]; exact h3⟩
    unfold forL
    cases et : tg d ρ with
    | nx ρ1 =>
      rw [et] at e1
      have e1 : body ρ1 = .nx ρ2 := e1
      dsimp only
      rw [e1]
      exact e3
    | rt n x ρ1 => rw [et] at e1; cases e1
    | bk ρ1 => rw [et] at e1; cases e1
    | ct ρ1 => rw [et] at e1; cases e1
    | err x ρ1 => rw [et] at e1; cases e1
    | bad => rw [et] at e1; cases e1
@[simp] theorem forget_nil {ρ : En} : forget [] ρ = ρ := rfl
@[simp] theorem forget_cons {i : Nat} {fg : List Nat} {ρ : En} : forget (i :: fg) ρ = forget fg (ρ.set i none) := rfl
def rngR (d : D) (ρ : En) : R En (List D) := match d with
  | .int j => if -(2 ^ 62) ≤ j ∧ j < 2 ^ 62 then .ok ((List.range j.toNat).map fun i => .int (i : Nat)) ρ else .bad
  | _ => .bad
@[simp] theorem ap_rng : iRange1 f ρ = bnd (f ρ) fun a ρ1 => rngR a.2 ρ1 := rfl
theorem rng_ok {j : Nat} (h : j < 2 ^ 62) : rngR (.int j) ρ = .ok ((List.range j).map fun i => .int (i : Nat)) ρ := by
  unfold rngR
  simp only
  rw [if_pos (by omega)]
  simp
def boI (o : Option Int) (ρ : En) : R En (Option Int) := .ok o ρ
@[simp] theorem ap_oNo : oNo ρ = .ok none ρ := rfl
def oIR (d : D) (ρ : En) : R En (Option Int) := match d with | .int i => .ok (some i) ρ | _ => .bad
@[simp] theorem oIR_int {i : Int} : oIR (.int i) ρ = .ok (some i) ρ := rfl
@[simp] theorem ap_oInt : oInt f ρ = bnd (f ρ) fun a ρ1 => oIR a.2 ρ1 := rfl
def slR (q : Bool) (a : Nat × D) (lo hi : Option Int) (ρ : En) : R En D := match a.2 with
  | .lst ds => if a.1 = 0 ∨ (q = true ∧ a.1 = 1) then .ok (.lst (cutD ds lo hi)) ρ else .bad
  | .sset ks => if a.1 = 0 then .ok (.lst (cutD (ks.map keyD) lo hi)) ρ else .bad
  | _ => .bad
@[simp] theorem ap_nSl {l h : EM (Option Int)} : nSl q f l h ρ = bnd (f ρ) fun a ρ1 => bnd (l ρ1) fun lo ρ2 => bnd (h ρ2) fun hi ρ3 => slR q a lo hi ρ3 := rfl
@[simp] theorem slR_lst {ds : List D} {lo hi : Option Int} : slR q (0, .lst ds) lo hi ρ = .ok (.lst (cutD ds lo hi)) ρ := by simp [slR]
@[simp] theorem slR_sset {ks : List Key} {lo hi : Option Int} : slR q (0, .sset ks) lo hi ρ = .ok (.lst (cutD (ks.map keyD) lo hi)) ρ := by simp [slR]
theorem cutD_hi {α : Type} (xs : List α) (n : Nat) : cutD xs none (some (n : Int)) = xs.take n := by
  unfold cutD
  rw [HT.sIx_nat, HT.sIx_none]
  simp [← List.take_take]
end
end VL

namespace VL
open PySem PySem.Spec PyProof.Rows L2

/-! ## names of the module that hold plain values -/
structure GlobD (mg : Str → Option Value) (x : Str) (d : D) : Prop where
  ok : ∃ u v, mg x = some u ∧ RelV v u ∧ ∀ K S H, Rep K S H v d
theorem GlobD.str {mg : Str → Option Value} {x s : Str} {t : Tok} (h : mg x = some (.str s t)) : GlobD mg x (.str s) := ⟨_, .str s, h, ⟨t, rfl⟩, fun _ _ _ => .str s⟩
theorem GlobD.int {mg : Str → Option Value} {x : Str} {i : Int} {t : Tok} (h : mg x = some (.int i t)) : GlobD mg x (.int i) := ⟨_, .int i, h, ⟨t, rfl⟩, fun _ _ _ => .int i⟩
section
variable {X : Cx} {W : WX} {p q q2 : Bool} {r : Nat}
theorem v_gl {x : Str} {pos : Pos} {d : D} (g : GlobD X.mg x d) (hg : Gl X x) (hd : (x == ("__debug__" : Str)) = false := by decide) : PE X (.Name x pos) (tE X.K X.mg W true (eC d)) := by
  obtain ⟨u, v, hm, rv, h⟩ := g.ok
  exact v_c (pe_glob hg hm rv hd) (h X.K)

/-! ## chains of comparisons, as tests -/
/-- what stands behind the first operand -/
structure PTch (X : Cx) (pos : Pos) (ops : List CmpOp) (ts : List (Sem Value)) (t : V → L2.St → Hp → (Bool → Hp → Prop) → Prop) : Prop where
  run : ∀ (pins : List (Addr × Obj)) (s : Shared) (σ : L2.St) (H : Hp) (x : V) (a : Value) (Q : Bool → Hp → Prop), Inv X pins σ H s → RelV x a → t x σ H Q →
    wpAny (model X.prog X.w) X.A (testChain pos a ops ts) (fun b s' => ∃ H', Inv X pins σ H' s' ∧ Q b H') X.xe s
section
variable {pos : Pos} {op op' : CmpOp} {ops : List CmpOp} {b : Expr} {rd : R2} {tb : TE} {t2 : Sem Value} {ts : List (Sem Value)} {tr : V → L2.St → Hp → (Bool → Hp → Prop) → Prop}
theorem ch_last (ho : OpR X (compareOp op) rd) (hb : PE X b tb) : PTch X pos [op] [eval b X.env] fun x σ H Q => tb σ H fun y H1 => rd x y H1 fun z H2 => ∃ k, z = .bl k ∧ Q k H2 :=
  ⟨fun pins s σ H x a Q I rx h => test_last (thn (hb.run pins s σ H _ I h) fun u s1 ⟨y, H1, I1, ry, q1⟩ =>
    thn (ho pins s1 σ H1 x y a u _ I1 rx ry q1) fun c s2 ⟨z, H2, I2, rz, k, ez, q2⟩ => by
      subst ez
      cases rz
      exact wpAny_truthy_bool ⟨H2, I2, q2⟩)⟩
theorem ch_link (ho : OpR X (compareOp op) rd) (hb : PE X b tb) (hr : PTch X pos (op' :: ops) (t2 :: ts) tr) :
    PTch X pos (op :: op' :: ops) (eval b X.env :: t2 :: ts) fun x σ H Q => tb σ H fun y H1 => rd x y H1 fun z H2 => ∃ k, z = .bl k ∧ if k = true then tr y σ H2 Q else Q false H2 :=
  ⟨fun pins s σ H x a Q I rx h => test_link (thn (hb.run pins s σ H _ I h) fun u s1 ⟨y, H1, I1, ry, q1⟩ =>
    thn (ho pins s1 σ H1 x y a u _ I1 rx ry q1) fun c s2 ⟨z, H2, I2, rz, k, ez, q2⟩ => by
      subst ez
      cases rz
      refine wpAny_truthy_bool ?_
      cases k with
      | false =>
        rw [if_neg Bool.false_ne_true] at q2 ⊢
        exact ⟨H2, I2, q2⟩
      | true =>
        rw [if_pos rfl] at q2 ⊢
        exact hr.run pins s2 σ H2 y u Q I2 ry q2)⟩
theorem pt_ch {l r1 r2 : Expr} {op1 op2 : CmpOp} {rs : List Expr} {ta : TE} (ha : PE X l ta) (hr : PTch X pos (op1 :: op2 :: ops) (eval r1 X.env :: eval r2 X.env :: evalEach rs X.env) tr) (hm : lastMarks (op1 :: op2 :: ops) (r1 :: r2 :: rs) = false := by with_unfolding_all rfl) :
    PT X (.Compare l (op1 :: op2 :: ops) (r1 :: r2 :: rs) pos) fun σ H Q => ta σ H fun x H1 => tr x σ H1 Q :=
  ⟨fun pins s σ H Q I h => isTrue_chain (thn (ha.run pins s σ H _ I h) fun a s1 ⟨x, H1, I1, rx, q1⟩ => hr.run pins s1 σ H1 x a Q I1 rx q1) hm⟩
end
/-- .. op g -/
def kLast (op : Nat → D → Nat → D → Option D) (g : EM (Nat × D)) : D → EM Bool := fun a => g.then fun b ρ => if b.1 = 0 then (match op 0 a 0 b.2 with | some (.bl k) => .ok k ρ | _ => .bad) else .bad
/-- .. op g and so on -/
def kLink (op : Nat → D → Nat → D → Option D) (g : EM (Nat × D)) (k : D → EM Bool) : D → EM Bool := fun a => g.then fun b ρ => if b.1 = 0 then (match op 0 a 0 b.2 with | some (.bl true) => k b.2 ρ | some (.bl false) => .ok false ρ | _ => .bad) else .bad
def bChain (f : EM (Nat × D)) (k : D → EM Bool) : EM Bool := f.then fun a ρ => if a.1 = 0 then k a.2 ρ else .bad
def tK (K : PySem.W.Frag) (mg : Str → Option Value) (W : WX) (p : Bool) (k : D → EM Bool) : V → L2.St → Hp → (Bool → Hp → Prop) → Prop := fun x σ H Q => ∃ C ρ S d, Sim K C ρ S σ H ∧ Rep K S H x d ∧ BOk K mg C ρ S σ H W p (k d ρ) Q
section
variable {pos : Pos} {op op' : CmpOp} {ops : List CmpOp} {b : Expr} {rd : R2} {t2 : Sem Value} {ts : List (Sem Value)} {g : EM (Nat × D)} {o : Nat → D → Nat → D → Option D} {k : D → EM Bool}
theorem ptchI {ops : List CmpOp} {ts : List (Sem Value)} {t t' : V → L2.St → Hp → (Bool → Hp → Prop) → Prop} (h : PTch X pos ops ts t) (i : ∀ x σ H Q, t' x σ H Q → t x σ H Q) : PTch X pos ops ts t' := ⟨fun pins s σ H x a Q I r q => h.run pins s σ H x a Q I r (i x σ H Q q)⟩
theorem kv_last (ho : OpR X (compareOp op) rd) (hv : OpV X.K rd o) (hb : PE X b (tE X.K X.mg W p g)) : PTch X pos [op] [eval b X.env] (tK X.K X.mg W p (kLast o g)) := ptchI (ch_last ho hb) fun x σ H Q h => by
  obtain ⟨C, ρ, S, d, sim, rx, h⟩ := h
  refine tE_bind (G := fun z => BOk X.K X.mg C ρ S σ H W p z Q) sim h id (fun x ρ' z => z) ?_
  intro n e ρ1 y S1 H1 fp1 _ h s1 m1 c1 a1
  split at h
  case isFalse => exact h.elim
  case isTrue hn =>
  simp only at hn
  subst hn
  split at h
  case h_2 => exact h.elim
  case h_1 c ec =>
  refine hv S1 H1 x y 0 0 d e (.bl c) [] fp1 _ (let ⟨_, z⟩ := s1; z.sd) (.zero (rx.mono m1.1)) a1 ec fun w H3 sm rr => ?_
  cases rr
  exact ⟨c, rfl, h S1 H3 (s1.same sm) (m1.then sm) c1⟩
theorem kv_link (ho : OpR X (compareOp op) rd) (hv : OpV X.K rd o) (hb : PE X b (tE X.K X.mg W p g)) (hr : PTch X pos (op' :: ops) (t2 :: ts) (tK X.K X.mg W q k)) : PTch X pos (op :: op' :: ops) (eval b X.env :: t2 :: ts) (tK X.K X.mg W (p && q) (kLink o g k)) := ptchI (ch_link ho hb hr) fun x σ H Q h => by
  obtain ⟨C, ρ, S, d, sim, rx, h⟩ := h
  refine tE_bind (G := fun z => BOk X.K X.mg C ρ S σ H W (p && q) z Q) sim h id (fun x ρ' z => z) ?_
  intro n e ρ1 y S1 H1 fp1 _ h s1 m1 c1 a1
  split at h
  case isFalse => exact h.elim
  case isTrue hn =>
  simp only at hn
  subst hn
  split at h
  case h_3 => exact h.elim
  case h_1 ec =>
    refine hv S1 H1 x y 0 0 d e (.bl true) [] fp1 _ (let ⟨_, z⟩ := s1; z.sd) (.zero (rx.mono m1.1)) a1 ec fun w H3 sm rr => ?_
    cases rr
    refine ⟨true, rfl, ?_⟩
    rw [if_pos rfl]
    refine ⟨C, ρ1, S1, e, s1.same sm, (Rep.zero a1).mono (.same sm), ?_⟩
    have mm := m1.then sm
    cases eg : k e ρ1 with
    | ok c ρ2 =>
      rw [eg] at h
      intro S2 H2 s2 m2 c2
      refine h S2 H2 s2 (mm.trans m2) fun z => ?_
      rw [Bool.and_eq_true] at z
      exact (c2 z.2).trans (c1 z.1)
    | err x ρ2 => rw [eg] at h; exact h
    | bad => rw [eg] at h; exact h.elim
  case h_2 ec =>
    refine hv S1 H1 x y 0 0 d e (.bl false) [] fp1 _ (let ⟨_, z⟩ := s1; z.sd) (.zero (rx.mono m1.1)) a1 ec fun w H3 sm rr => ?_
    cases rr
    refine ⟨false, rfl, ?_⟩
    rw [if_neg Bool.false_ne_true]
    have mm := m1.then sm
    exact h S1 H3 (s1.same sm) ⟨mm.1, fun z => mm.2 (by rw [Bool.and_eq_true] at z; exact z.1)⟩ fun z => c1 (by rw [Bool.and_eq_true] at z; exact z.1)
theorem b_chain {l r1 r2 : Expr} {op1 op2 : CmpOp} {rs : List Expr} {f : EM (Nat × D)} (ha : PE X l (tE X.K X.mg W p f)) (hr : PTch X pos (op1 :: op2 :: ops) (eval r1 X.env :: eval r2 X.env :: evalEach rs X.env) (tK X.K X.mg W q k)) (hm : lastMarks (op1 :: op2 :: ops) (r1 :: r2 :: rs) = false := by with_unfolding_all rfl) :
    PT X (.Compare l (op1 :: op2 :: ops) (r1 :: r2 :: rs) pos) (tB' X.K X.mg W (p && q) (bChain f k)) := ptI (pt_ch ha hr hm) fun σ H Q h => by
  obtain ⟨C, ρ, S, sim, h⟩ := h
  refine tE_bind (G := fun z => BOk X.K X.mg C ρ S σ H W (p && q) z Q) sim h id (fun x ρ' z => z) ?_
  intro n e ρ1 y S1 H1 fp1 _ h s1 m1 c1 a1
  split at h
  case isFalse => exact h.elim
  case isTrue hn =>
  simp only at hn
  subst hn
  refine ⟨C, ρ1, S1, e, s1, Rep.zero a1, ?_⟩
  dsimp only at h
  cases eg : k e ρ1 with
  | ok c ρ2 =>
    rw [eg] at h
    intro S2 H2 s2 m2 c2
    refine h S2 H2 s2 (m1.trans m2) fun z => ?_
    rw [Bool.and_eq_true] at z
    exact (c2 z.2).trans (c1 z.1)
  | err x ρ2 => rw [eg] at h; exact h
  | bad => rw [eg] at h; exact h.elim
end

/-! ## the truth of a value, as a test -/
def truD : D → Option Bool
  | .non => some false
  | .bl b => some b
  | .int i => some (i != 0)
  | .str z => if z.length ≤ sizeLine then some ((z.length : Int) != 0) else none
  | .lst ds => some !ds.isEmpty
  | .tup ds => some !ds.isEmpty
  | _ => none
def bTru (f : EM (Nat × D)) : EM Bool := f.then fun a ρ => match truD a.2 with | some b => .ok b ρ | none => .bad
theorem isEmpty_reps {K : PySem.W.Frag} {S : Own} {H : Hp} {vs : List V} {ds : List D} (h : vs.length = ds.length) : vs.isEmpty = ds.isEmpty := by
  cases vs <;> cases ds <;> first | rfl | (simp at h)
theorem b_tru {f : EM (Nat × D)} {e : Expr} (ha : PE X e (tE X.K X.mg W p f)) (he : ∀ whole, isTrue e X.env whole = (do let v ← whole; standAt e.pos; holding [v] (truthy v)) := by intro _; rfl) : PT X e (tB' X.K X.mg W p (bTru f)) := ptI (pt_truth ha he) fun σ H Q h => by
  obtain ⟨C, ρ, S, sim, h⟩ := h
  refine tE_bind (G := fun z => BOk X.K X.mg C ρ S σ H W p z Q) sim h id (fun x ρ' z => z) ?_
  intro n d ρ1 v S1 H1 fp1 _ h s1 m1 c1 a1
  dsimp only at h
  cases d with
  | non => obtain rfl := a1.isNon; exact ⟨false, rfl, h S1 H1 s1 m1 c1⟩
  | bl b => obtain rfl := a1.isBl; exact ⟨b, rfl, h S1 H1 s1 m1 c1⟩
  | int i => obtain rfl := a1.isInt; exact ⟨_, rfl, h S1 H1 s1 m1 c1⟩
  | str z =>
    unfold truD at h
    dsimp only at h
    split at h
    · rename_i b eb
      split at eb
      · rename_i hl
        cases eb
        obtain rfl := a1.isStr; exact ⟨_, ⟨hl, rfl⟩, h S1 H1 s1 m1 c1⟩
      · cases eb
    · exact h.elim
  | lst ds =>
    obtain ⟨l, ws, F, rfl, sq, al, _⟩ := a1.list
    refine ⟨!ds.isEmpty, .inl ⟨ws, sq, ?_⟩, h S1 H1 s1 m1 c1⟩
    rw [isEmpty_reps (K := X.K) (S := S1) (H := H1) al.length]
  | tup ds =>
    obtain ⟨l, ws, rfl, sq, al, _⟩ := a1.tuple
    refine ⟨!ds.isEmpty, .inr (.inl ⟨ws, sq, ?_⟩), h S1 H1 s1 m1 c1⟩
    rw [isEmpty_reps (K := X.K) (S := S1) (H := H1) al]
  | dic ks => exact h.elim
  | dtt ks => exact h.elim
  | ins c fs => exact h.elim
  | sset ks => exact h.elim

/-! ## range(a, b); the signs of a text -/
def iRange2 (f g : EM (Nat × D)) : EM (List D) := f.then fun a => g.then fun b ρ => match a.2, b.2 with
  | .int i, .int j => if -(2 ^ 62) ≤ i ∧ i < 2 ^ 62 ∧ -(2 ^ 62) ≤ j ∧ j < 2 ^ 62 then .ok ((List.range (j - i).toNat).map fun t => .int (i + (t : Nat))) ρ else .bad
  | _, _ => .bad
theorem i_range2 {tg a b : Expr} {pp pos : Pos} {f g : EM (Nat × D)} (ha : PE X a (tE X.K X.mg W p f)) (hb : PE X b (tE X.K X.mg W q g)) (hg : Gl X "range") (hm : X.mg "range" = none) (hs : starEach [a, b] X.env = (false, eval a X.env) :: starEach [b] X.env := by rfl) (hs2 : starEach [b] X.env = (false, eval b X.env) :: starEach [] X.env := by rfl) :
    PI X tg (.Call (.Name "range" pp) [a, b] [] pos) (tI X.K X.mg W (p && q) (iRange2 f g)) := piI (pi_range2 hg hm (pa_cons ha (pa_cons hb pa_nil hs2) hs) (by rw [hs, hs2]; rfl) (by rw [hs2]; rfl)) fun σ H R h => by
  obtain ⟨C, ρ, S, sim, h⟩ := h
  refine tE_bind (G := fun z => IOk X.K X.mg C ρ S σ H W (p && q) z R) sim h id (fun x ρ' z => z) ?_
  intro n d ρ1 v S1 H1 fp _ h s1 m1 c1 a1
  refine tE_bind (G := fun z => IOk X.K X.mg C ρ S σ H W (p && q) z R) s1 h id (fun x ρ' z => z) ?_
  clear h
  intro m e ρ2 u S2 H2 fp2 _ h s2 m2 c2 a2
  split at h
  case h_2 => exact h.elim
  case h_1 i j ei ej =>
  simp only at ei ej
  subst ei ej
  split at h
  case isFalse => exact h.elim
  case isTrue hj =>
  obtain ⟨_, rfl⟩ := a1.int
  obtain ⟨_, rfl⟩ := a2.int
  refine ⟨i, j, rfl, hj, h _ S2 H2 s2 (m1.trans m2) (fun z => ?_) fun S3 H3 k sd t => ⟨fun d e => ?_, fun hi => ?_⟩⟩
  · rw [Bool.and_eq_true] at z
    exact (c2 z.2).trans (c1 z.1)
  · rw [List.getElem?_map] at e
    obtain ⟨t', et, rfl⟩ := Option.map_eq_some_iff.mp e
    have hi : t < (j - i).toNat := by
      have := (List.getElem?_eq_some_iff.mp et).1
      simpa using this
    have : t' = t := by
      have := (List.getElem?_eq_some_iff.mp et).2
      simpa using this.symm
    subst this
    refine ⟨hi, fun x H4 hy => ?_⟩
    obtain ⟨rfl, rfl⟩ := hy
    exact ⟨Same.refl _, .int _⟩
  · exact (by simpa using hi : (j - i).toNat ≤ t)
def iSgn (f : EM (Nat × D)) : EM (List D) := f.then fun a ρ => match a.2 with
  | .str z => .ok (z.cps.toList.map fun c => .str ⟨#[c]⟩) ρ
  | _ => .bad
theorem i_sgn {tg e : Expr} {f : EM (Nat × D)} (ha : PE X e (tE X.K X.mg W p f)) : PI X tg e (tI X.K X.mg W p (iSgn f)) := piI (pi_str ha) fun σ H R h => by
  obtain ⟨C, ρ, S, sim, h⟩ := h
  refine tE_bind (G := fun z => IOk X.K X.mg C ρ S σ H W p z R) sim h id (fun x ρ' z => z) ?_
  intro n d ρ1 v S1 H1 fp _ h s1 m1 c1 a1
  split at h
  case h_2 => exact h.elim
  case h_1 z ez =>
  simp only at ez
  subst ez
  obtain ⟨_, rfl⟩ := a1.str
  refine ⟨z, rfl, h _ S1 H1 s1 m1 c1 fun S2 H2 k sd i => ⟨fun d e => ?_, fun hi => ?_⟩⟩
  · rw [List.getElem?_map] at e
    obtain ⟨c, ec, rfl⟩ := Option.map_eq_some_iff.mp e
    have hi : i < z.cps.size := by
      have := (List.getElem?_eq_some_iff.mp ec).1
      simpa using this
    refine ⟨hi, fun x H3 hy => ?_⟩
    obtain ⟨rfl, c', e1, rfl⟩ := hy
    have : c' = c := by
      have h2 : z.cps.toList[i]? = some c' := by simpa using e1
      rw [h2] at ec
      exact Option.some.inj ec
    subst this
    exact ⟨Same.refl _, .str _⟩
  · have : (z.cps.toList.map fun c => D.str ⟨#[c]⟩).length = z.cps.size := by simp
    exact (by rw [this] at hi; exact hi : z.cps.size ≤ i)

/-! ## a text a number of times -/
abbrev rMulS : R2 := fun x y H Q => ∃ z n, x = .str z ∧ y = .int n ∧ MulOk z n ∧ Q (.str (Txt.mul z n)) H
theorem op_strmul : OpR X (binaryOp .Mult) rMulS := by
  intro pins s σ H x y v u Q I rx ry h
  obtain ⟨z, n, rfl, rfl, ok, k⟩ := h
  obtain ⟨t, rfl⟩ := rx
  obtain ⟨t2, rfl⟩ := ry
  exact SB.mul ok fun t' tk => ⟨.str _, H, I.tok _, ⟨t', rfl⟩, k⟩
theorem mulOk_small {z : Str} {n : Int} (hz : z.length ≤ 1000) (h0 : 0 ≤ n) (h1 : n ≤ 1000) : MulOk z n := by
  refine ⟨?_, fun _ _ => ?_, fun _ _ => ?_⟩
  · simp only [Bool.or_eq_false_iff, decide_eq_false_iff_not]
    omega
  · by_cases e : n = 0
    · subst e; omega
    · have : (1000 : Int) ≤ (2 ^ 63 - 1) / n := by
        rw [Int.le_ediv_iff_mul_le (by omega)]
        have : (1000 : Int) * n ≤ 1000 * 1000 := by omega
        omega
      omega
  · unfold Builtin.Str.tooLong
    have e : sizeLine = 16777216 := sizeLine_eq
    have h2 : z.length * n.toNat ≤ 1000 * 1000 := Nat.mul_le_mul hz (by omega)
    simp only [decide_eq_false_iff_not]
    omega
def dMulS (_ : Nat) (a : D) (_ : Nat) (b : D) : Option D := match a, b with
  | .str z, .int n => if z.length ≤ 1000 ∧ 0 ≤ n ∧ n ≤ 1000 then some (.str (Txt.mul z n)) else none
  | _, _ => none
theorem opv_muls {K : PySem.W.Frag} : OpV K rMulS dMulS := by
  intro S H x y n m a b d f f' Q sd a1 a2 e k
  unfold dMulS at e
  split at e
  · obtain ⟨_, rfl⟩ := a1.str
    obtain ⟨_, rfl⟩ := a2.int
    split at e
    · rename_i hc
      cases e
      exact ⟨_, _, rfl, rfl, mulOk_small hc.1 hc.2.1 hc.2.2, k _ H (Same.refl _) (.str _)⟩
    · cases e
  · cases e
/-! ## str(int), tuple(list) -/
def strD : List (Nat × D) → Option D
  | [(_, .int i)] => if i.natAbs.log2 < 1920 then some (.str (toString i)) else none
  | _ => none
theorem buv_str : BuV X.K (fun xs H Q => ∃ i, xs = [.int i] ∧ i.natAbs.log2 < 1920 ∧ Q (.str (toString i)) H) strD := by
  intro S H vs as d Q sd av e k
  unfold strD at e
  split at e
  · split at e
    · rename_i hc
      cases av with | cons a t => cases t; cases e; obtain ⟨_, rfl⟩ := a.int; exact ⟨_, rfl, hc, k _ H (Same.refl _) (.str _)⟩
    · cases e
  · cases e
def tupD : List (Nat × D) → Option D
  | [(n, .lst ds)] => if n ≤ 1 then some (.tup ds) else none
  | [(0, .tup ds)] => some (.tup ds)
  | _ => none
theorem buv_tup : BuV X.K (fun xs H Q => ∃ p ys, xs = [.ref p] ∧ ((SqL X.K H p ys ∧ ∀ l, H l = none → Q (.ref l) (upd H l (.tup ys))) ∨ (SqT X.K H p ys ∧ Q (.ref p) H))) tupD := by
  intro S H vs as d Q sd av e k
  unfold tupD at e
  split at e
  · split at e
    · rename_i hn
      cases av with
      | cons a t =>
        cases t
        cases e
        obtain ⟨l, ws, F, rfl, sq, al, _⟩ := a.list
        have rp := al.reps hn
        refine ⟨l, ws, rfl, .inl ⟨sq, fun t ht => ?_⟩⟩
        have sm : Same H (upd H t (.tup ws)) := same_upd' ht
        exact k _ _ sm (.tup (.inl ⟨fun z => sd t z ht, .inl upd_same⟩) (rp.mono (.same sm)))
    · cases e
  · cases av with
    | cons a t =>
      cases t
      cases e
      obtain ⟨l, ws, rfl, sq, _, _⟩ := a.tuple
      exact ⟨l, ws, rfl, .inr ⟨sq, k _ H (Same.refl _) (Rep.zero a)⟩⟩
  · cases e
theorem bt_str' : bootBuiltins "str" = some (.type "str") := by decide +kernel
theorem bt_tuple' : bootBuiltins "tuple" = some (.type "tuple") := by decide +kernel
theorem bt_dict' : bootBuiltins "dict" = some (.type "dict") := by decide +kernel

/-! ## a, b = e -/
def sUnp (is : List Nat) (f : EM (Nat × D)) : SM := f.s fun a ρ => if a.1 = 0 then gT is a.2 ρ else .bad
theorem gT_end {is : List Nat} {d : D} {ρ : En} : (∃ ρ', gT is d ρ = .nx ρ') ∨ gT is d ρ = .bad := by
  unfold gT
  split
  · rename_i ds
    have : ∀ {is : List Nat} {ds : List D} {ρ : En}, (∃ ρ', gNs is ds ρ = .nx ρ') ∨ gNs is ds ρ = .bad := by
      intro is
      induction is with
      | nil => intro ds ρ; cases ds with
        | nil => exact .inl ⟨_, rfl⟩
        | cons => exact .inr rfl
      | cons i is ih => intro ds ρ; cases ds with
        | nil => exact .inr rfl
        | cons d ds => exact ih
    exact this
  · exact .inr rfl
theorem w_unp {is : List Nat} {tg e : Expr} {f : EM (Nat × D)} {pos : Pos} (he : PE X e (tE X.K X.mg W p f)) (hg : PG X tg (tG X.K is (gT is))) (hs : swapsWithSole [tg] e pos.line X.env = pure false := by rfl) (hw : swappedStores [tg] e X.env = pure none := by rfl)
    (h1 : (assignEach [tg] X.env).map (·.2) = [assign tg X.env] := by rfl) : PS X (.Assign [tg] e pos) (tS X.K X.mg W r (sUnp is f)) := psI (ps_asg he hg hs hw h1) fun Dn σ H h => by
  obtain ⟨C, ρ, S, sim, h⟩ := h
  refine tE_s sim h ?_
  intro n d ρ1 v S1 H1 fp _ h s1 m1 a1
  split at h
  case isFalse => exact h.elim
  case isTrue hn =>
  simp only at hn
  subst hn
  dsimp only at h
  rcases gT_end (is := is) (d := d) (ρ := ρ1) with ⟨ρ2, e2⟩ | e2
  · rw [e2] at h
    exact ⟨C, ρ1, S1, d, s1, Rep.zero a1, ρ2, e2, fun σ' H' s' sm off => h σ' S1 H' s'⟩
  · rw [e2] at h
    exact h.elim

/-! ## d.get(k, x) -/
def getR (ks : List (Key × D)) (b c : Nat × D) : EM (Nat × D) := fun ρ => match keyOf b.2 with | some kk => if c.1 = 0 then .ok (0, (valD ks kk).getD c.2) ρ else .bad | none => .bad
def getF (g k : EM (Nat × D)) : Nat → D → EM (Nat × D)
  | 0, .dic ks => g.then fun b => k.then fun c => getR ks b c
  | _, _ => fun _ => .bad
def eGet (f g k : EM (Nat × D)) : EM (Nat × D) := f.then fun a => getF g k a.1 a.2
theorem v_get {o e x : Expr} {f g k : EM (Nat × D)} {apos cpos : Pos} (hu : X.A.units + 1 < cLine) (ha : PE X o (tE X.K X.mg W p f)) (hb : PE X e (tE X.K X.mg W q g)) (hc : PE X x (tE X.K X.mg W q2 k)) (m : M2 X o "get" apos e x cpos := by exact ⟨rfl, rfl, rfl, rfl⟩) :
    PE X (.Call (.Attribute o "get" apos) [e, x] [] cpos) (tE X.K X.mg W (p && q && q2) (eGet f g k)) := peI (pe_dget2 hu ha hb hc m) fun σ H Q h => by
  obtain ⟨C, ρ, S, sim, h⟩ := h
  refine tE_bind (G := fun z => EOk X.K X.mg C ρ S σ H W (p && q && q2) z Q) sim h id (fun x ρ' z => z) ?_
  intro n d ρ1 v S1 H1 fp1 _ h s1 m1 c1 a1
  dsimp only at h
  have ex : n = 0 ∧ ∃ ks, d = .dic ks := by
    cases n with
    | zero => cases d with
      | dic ks => exact ⟨rfl, ks, rfl⟩
      | _ => exact h.elim
    | succ n => cases d <;> exact h.elim
  obtain ⟨rfl, ks, rfl⟩ := ex
  unfold getF at h
  obtain ⟨l, vs, F, rfl, rd, al⟩ := a1.dict
  refine ⟨l, rfl, .inl ⟨vs, rd⟩, ?_⟩
  refine tE_bind (G := fun z => EOk X.K X.mg C ρ S σ H W (p && q && q2) z Q) s1 h id (fun x ρ' z => z) ?_
  intro m b ρ2 u S2 H2 fp2 _ h s2 m2 c2 a2
  refine tE_bind (G := fun z => EOk X.K X.mg C ρ S σ H W (p && q && q2) z Q) s2 h id (fun x ρ' z => z) ?_
  intro i c ρ3 w S3 H3 fp3 _ h s3 m3 c3 a3
  unfold getR at h
  dsimp only at h
  split at h
  case h_2 => exact h.elim
  case h_1 kk ek =>
  split at h
  case isFalse => exact h.elim
  case isTrue hi =>
  subst hi
  obtain rfl := a2.key ek
  have a1' := ((a1.mv m2 (.inr rfl)).mv m3 (.inr rfl))
  obtain ⟨l', vs', F', el, rd', al'⟩ := a1'.dict
  cases el
  have pure3 : (p && q && q2) = true → ρ3 = ρ := fun z => by
    simp only [Bool.and_eq_true] at z
    exact ((c3 z.2).trans (c2 z.1.2)).trans (c1 z.1.1)
  have mv3 := (m1.trans m2).trans m3
  refine ⟨valV vs' kk, .inl ⟨vs', kk, rd', rfl, rfl⟩, ?_⟩
  rcases al'.val (k := kk) with ⟨z1, z2⟩ | ⟨w', d', f', z1, z2, a'⟩
  · rw [z1]
    rw [z2] at h
    exact h w S3 H3 [] s3 mv3 pure3 (.zero (Rep.zero a3))
  · rw [z1]
    rw [z2] at h
    exact h w' S3 H3 [] s3 mv3 pure3 (.zero (Rep.zero a'))
end
end VL

namespace VL
open PySem PySem.Spec PyProof.Rows L2

/-! ## displays of dicts; their values' upper n layers are fresh -/
section
variable (K : PySem.W.Frag) (mg : Str → Option Value)
def POk (C : Ctx) (ρ : En) (S : Own) (σ : L2.St) (H : Hp) (W : WX) (n : Nat) (r : R En (List (Key × D))) (Q : List (V × V) → Hp → Prop) : Prop :=
  match r with
  | .ok kds ρ' => ∀ kvs S' H' fps F, SimF K C fps ρ' S' σ H' → Tr S H S' H' → AlKs K S' H' n kvs kds F → F.Nodup → (∀ b ∈ F, (C.Z b ∨ C.H0 b = none) ∧ ∀ i, b ∉ fps i) → Q (kvs.map fun kv => (kV kv.1, kv.2)) H'
  | .err x ρ' => ∀ cls dd S' H', Sim K C ρ' S' σ H' → XOk K mg S' H' x cls dd → W cls dd σ H'
  | .bad => False
end
def pNil : EM (List (Key × D)) := fun ρ => .ok [] ρ
def pCons (k : Str) (f : EM D) (g : EM (List (Key × D))) : EM (List (Key × D)) := f.then fun d => g.then fun kds ρ => .ok ((.inr k, d) :: kds) ρ
structure PPd (X : Cx) (W : WX) (n : Nat) (pos : Pos) (keys : List (Option Expr)) (values : List Expr) (trs : List (TE × TE)) (g : EM (List (Key × D))) : Prop where
  pp : PPs X pos keys values trs
  ok : ∀ σ H Q, (∃ C ρ S, Sim X.K C ρ S σ H ∧ POk X.K X.mg C ρ S σ H W n (g ρ) Q) → tPairs trs σ H Q
section
variable {X : Cx} {W : WX} {n : Nat} {pos : Pos} {keys : List (Option Expr)} {values : List Expr} {trs : List (TE × TE)} {g : EM (List (Key × D))} {f : EM D}
theorem pd_nil : PPd X W n pos [] [] [] pNil := ⟨pps_nil, fun σ H Q h => by
  obtain ⟨C, ρ, S, ⟨fps, sim⟩, h⟩ := h
  exact h [] S H fps [] sim .refl .nil .nil fun _ z => nomatch z⟩
theorem pd_cons {k : Str} {j : Nat} {kp : Pos} {v : Expr} (hv : PE X v (tN X.K X.mg W n f)) (hr : PPd X W n pos keys values trs g) : PPd X W n pos (some (.Constant (.str k) j kp) :: keys) (v :: values) ((tC (.str k), tN X.K X.mg W n f) :: trs) (pCons k f g) := ⟨pps_cons pe_str hv hr.pp, fun σ H Q h => by
  obtain ⟨C, ρ, S, sim, h⟩ := h
  refine ⟨C, ρ, S, sim, ?_⟩
  unfold pCons EM.then at h
  cases ef : f ρ with
  | err x ρ1 => rw [ef] at h; exact h
  | bad => rw [ef] at h; exact h
  | ok d ρ1 =>
  rw [ef] at h
  dsimp only at h
  intro y S1 H1 fps1 fp1 s1 t1 al1 nd1 z1
  have hY : ∀ b, b ∈ fp1 → S1 b ∧ ∀ i, b ∉ fps1 i := fun b hb => ⟨(al1.there b hb).2, (z1 b hb).2⟩
  have hYs : ∀ b, b ∈ fp1 → S1 b := fun b hb => (hY b hb).1
  refine hr.ok σ H1 _ ⟨C.reY S1 H1 fun b => b ∈ fp1, ρ1, S1, ⟨fps1, s1.reY hY⟩, ?_⟩
  cases eg : g ρ1 with
  | err x ρ2 =>
    rw [eg] at h
    intro cls dd S2 H2 s2 xo
    obtain ⟨f2, s2⟩ := s2
    exact h cls dd S2 H2 ⟨f2, SimF.back s1 hYs s2⟩ xo
  | bad => rw [eg] at h; exact h.elim
  | ok kds ρ2 =>
  rw [eg] at h
  dsimp only at h
  intro kvs S2 H2 fps2 F s2 t2 als nd2 z2
  have b2 := SimF.back s1 hYs s2
  have ap : ∀ b, b ∈ fp1 → H2 b = H1 b ∧ S2 b ∧ ∀ i, b ∉ fps2 i := fun b hb => SimF.apart s1 s2 hb (hYs b hb)
  refine h ((.inr k, y) :: kvs) S2 H2 fps2 (fp1 ++ F) b2 (t1.trans t2) (.cons (al1.mono t2 fun b hb => ⟨(ap b hb).1, (ap b hb).2.1⟩) als) (List.nodup_append.mpr ⟨nd1, nd2, fun a ha b hb e => ?_⟩) fun b hb => ?_
  · subst e
    rcases (z2 a hb).1 with z | z
    · exact z.2.1 ha
    · exact (al1.there a ha).1 z
  · rcases List.mem_append.mp hb with hb | hb
    · exact ⟨(z1 b hb).1, (ap b hb).2.2⟩
    · refine ⟨?_, (z2 b hb).2⟩
      rcases (z2 b hb).1 with z | z
      · exact z.2.2
      · exact .inr (s1.dom b z)⟩
def pConsE (kf : EM (Nat × D)) (f : EM D) (g : EM (List (Key × D))) : EM (List (Key × D)) := kf.then fun a => f.then fun d => g.then fun kds ρ => match keyOf a.2 with | some k => .ok ((k, d) :: kds) ρ | none => .bad
theorem pd_consE {p : Bool} {kx v : Expr} {kf : EM (Nat × D)} (hk : PE X kx (tE X.K X.mg W p kf)) (hv : PE X v (tN X.K X.mg W n f)) (hr : PPd X W n pos keys values trs g) : PPd X W n pos (some kx :: keys) (v :: values) ((tE X.K X.mg W p kf, tN X.K X.mg W n f) :: trs) (pConsE kf f g) := ⟨pps_cons hk hv hr.pp, fun σ H Q h => by
  obtain ⟨C, ρ0, S0, sim, h⟩ := h
  refine tE_bind (G := fun z => POk X.K X.mg C ρ0 S0 σ H W n z Q) sim h id (fun x ρ' z => z) ?_
  clear h
  intro kl kd ρ x S H0 fp0 _ h sim m0 c0 a0
  refine ⟨C, ρ, S, sim, ?_⟩
  unfold EM.then at h
  cases ef : f ρ with
  | err x ρ1 => rw [ef] at h; exact h
  | bad => rw [ef] at h; exact h
  | ok d ρ1 =>
  rw [ef] at h
  dsimp only at h
  intro y S1 H1 fps1 fp1 s1 t1 al1 nd1 z1
  have hY : ∀ b, b ∈ fp1 → S1 b ∧ ∀ i, b ∉ fps1 i := fun b hb => ⟨(al1.there b hb).2, (z1 b hb).2⟩
  have hYs : ∀ b, b ∈ fp1 → S1 b := fun b hb => (hY b hb).1
  refine hr.ok σ H1 _ ⟨C.reY S1 H1 fun b => b ∈ fp1, ρ1, S1, ⟨fps1, s1.reY hY⟩, ?_⟩
  cases eg : g ρ1 with
  | err x ρ2 =>
    rw [eg] at h
    intro cls dd S2 H2 s2 xo
    obtain ⟨f2, s2⟩ := s2
    exact h cls dd S2 H2 ⟨f2, SimF.back s1 hYs s2⟩ xo
  | bad => rw [eg] at h; exact h.elim
  | ok kds ρ2 =>
  rw [eg] at h
  dsimp only at h
  split at h
  case h_2 => exact h.elim
  case h_1 kk ek =>
  obtain rfl := a0.key ek
  intro kvs S2 H2 fps2 F s2 t2 als nd2 z2
  have b2 := SimF.back s1 hYs s2
  have ap : ∀ b, b ∈ fp1 → H2 b = H1 b ∧ S2 b ∧ ∀ i, b ∉ fps2 i := fun b hb => SimF.apart s1 s2 hb (hYs b hb)
  refine h ((kk, y) :: kvs) S2 H2 fps2 (fp1 ++ F) b2 (m0.1.trans (t1.trans t2)) (.cons (al1.mono t2 fun b hb => ⟨(ap b hb).1, (ap b hb).2.1⟩) als) (List.nodup_append.mpr ⟨nd1, nd2, fun a ha b hb e => ?_⟩) fun b hb => ?_
  · subst e
    rcases (z2 a hb).1 with z | z
    · exact z.2.1 ha
    · exact (al1.there a ha).1 z
  · rcases List.mem_append.mp hb with hb | hb
    · exact ⟨(z1 b hb).1, (ap b hb).2.2⟩
    · refine ⟨?_, (z2 b hb).2⟩
      rcases (z2 b hb).1 with z | z
      · exact z.2.2
      · exact .inr (s1.dom b z)⟩
theorem putK_new {kvs : List (Key × V)} {k : Key} {v : V} (h : k ∉ kvs.map (·.1)) : putK kvs k v = kvs ++ [(k, v)] := by
  have : kvs.any (fun kv => decide (kv.1 = k)) = false := by
    rw [List.any_eq_false]
    intro x hx e
    exact h (List.mem_map.mpr ⟨x, hx, by simpa using e⟩)
  unfold putK
  simp_all
theorem mergeK_nodup : ∀ {more kvs : List (Key × V)}, ((kvs ++ more).map (·.1)).Nodup → mergeK kvs more = kvs ++ more
  | [], kvs, _ => by simp [mergeK]
  | (k, v) :: more, kvs, h => by
    have hk : k ∉ kvs.map (·.1) := fun hm => by
      rw [List.map_append, List.map_cons] at h
      exact (List.nodup_append.mp h).2.2 k hm k List.mem_cons_self rfl
    have e : mergeK kvs ((k, v) :: more) = mergeK (putK kvs k v) more := rfl
    rw [e, putK_new hk, mergeK_nodup (by simpa using h)]
    simp
def nDisp (g : EM (List (Key × D))) : EM D := g.then fun kds ρ => if kds.length ≤ 15 ∧ (kds.map (·.1)).Nodup then .ok (.dic kds) ρ else .bad
theorem n_disp (hp : PPd X W n pos keys values trs g) (hall : keys.all (·.isSome) = true := by rfl) (hl : keys.length = values.length := by rfl) (h0 : keys ≠ [] := by exact fun z => nomatch z) (h15 : keys.length ≤ 15 := by decide) :
    PE X (.Dict keys values pos) (tN X.K X.mg W (n + 1) (nDisp g)) := peI (pe_disp hp.pp hall hl h0 h15) fun σ H Q h => by
  obtain ⟨C, ρ, S, ⟨fps, sim⟩, h⟩ := h
  intro t ht
  obtain ⟨sf, np, hn⟩ := sim.fresh (o := .dK []) ht
  have hYs : ∀ b, b = t → (S b ∨ b = t) := fun b e => .inr e
  have sY := sf.reY (Y := fun b => b = t) fun b e => ⟨.inr e, fun i => by rw [e]; exact np i⟩
  refine hp.ok σ _ _ ⟨C.reY (fun b => S b ∨ b = t) (upd H t (.dK [])) fun b => b = t, ρ, _, ⟨fps, sY⟩, ?_⟩
  unfold nDisp EM.then at h
  cases eg : g ρ with
  | err x ρ1 =>
    rw [eg] at h
    intro cls dd S1 H1 s1 xo
    obtain ⟨f1, s1⟩ := s1
    exact h cls dd S1 H1 ⟨f1, SimF.back sf hYs s1⟩ xo
  | bad => rw [eg] at h; exact h.elim
  | ok kds ρ1 =>
  rw [eg] at h
  dsimp only at h
  split at h
  case isFalse => exact h.elim
  case isTrue hc =>
  intro kvs S1 H1 fps1 F s1 t1 als nd z
  have ap : H1 t = (upd H t (.dK [])) t ∧ S1 t ∧ ∀ i, t ∉ fps1 i := SimF.apart sf s1 rfl (.inr rfl)
  have b1 := SimF.back sf hYs s1
  have ek := als.length
  have nk : (kvs.map (·.1)).Nodup := by rw [ek.2]; exact hc.2
  have nF : t ∉ F := fun hm => by
    rcases (z t hm).1 with y | y
    · exact y.2.1 rfl
    · have y : (upd H t (.dK [])) t = none := y
      rw [upd_same] at y; cases y
  refine ⟨ap.1.trans upd_same, kvs, rfl, by rw [ek.1]; exact hc.1, ?_⟩
  rw [mergeK_nodup (kvs := []) (by simpa using nk), List.nil_append]
  have s2 := b1.writeX (o := .dK kvs) ap.2.1 ap.2.2 (.inr hn)
  have tw : Tr S1 H1 S1 (upd H1 t (.dK kvs)) := .write ap.2.1
  refine h (.ref t) S1 _ fps1 (t :: F) s2 (((Tr.fresh ht).trans t1).trans tw) (.dic ap.2.1 upd_same (als.mono tw fun b hb => ⟨upd_ne fun e => nF (e ▸ hb), (als.there b hb).2⟩)) (List.nodup_cons.mpr ⟨nF, nd⟩) fun b hb => ?_
  rcases List.mem_cons.mp hb with rfl | hb
  · exact ⟨.inr hn, ap.2.2⟩
  · refine ⟨?_, (z b hb).2⟩
    rcases (z b hb).1 with y | y
    · exact y.2.2
    · have y : (upd H t (.dK [])) b = none := y
      refine .inr (sim.dom b ?_)
      by_cases e : b = t
      · subst e; rw [upd_same] at y; cases y
      · rwa [upd_ne e] at y
/-! ## dict(d) -/
def BuK (K : PySem.W.Frag) (r : List V → Hp → VK → Prop) (op : List (Nat × D) → Option (List (Key × D))) : Prop := ∀ (S : Own) (H : Hp) (vs : List V) (as : List (Nat × D)) (ds : List (Key × D)) (Q : VK), (∀ b, S b → H b ≠ none) → AVs K S H as vs → op as = some ds →
  (∀ p ws, H p = none → RepKs K S H ws ds → Q (.ref p) (upd H p (.dK ws))) → r vs H Q
def nBuK (op : List (Nat × D) → Option (List (Key × D))) (f : EM (List ArgD)) : EM D := f.then fun as ρ => match (valsOf as).bind op with | some ds => .ok (.dic ds) ρ | none => .bad
theorem bk_core {p : Bool} {r : List V → Hp → VK → Prop} {op : List (Nat × D) → Option (List (Key × D))} {af : EM (List ArgD)} (hv : BuK X.K r op) {σ : L2.St} {H : Hp} {Q : VK} (h : tN X.K X.mg W 1 (nBuK op af) σ H Q) : tCB r (tX X.K X.mg W p af) σ H Q := by
  obtain ⟨C, ρ, S, sim, h⟩ := h
  refine tX_bind (G := fun z => NOk X.K X.mg C ρ S σ H W 1 z Q) sim h (fun z => z) (fun x ρ' z => z) ?_
  intro as ρ1 vs S1 H1 _ h s1 m1 c1 a1
  split at h
  · rename_i ds ed
    obtain ⟨l, e1, e2⟩ := Option.bind_eq_some_iff.mp ed
    obtain ⟨fps, s1⟩ := s1
    refine hv S1 H1 vs l ds Q s1.sd (avs_of a1 e1) e2 fun t ws ht rp => ?_
    obtain ⟨s2, np, h0⟩ := s1.fresh (o := .dK ws) ht
    have tr : Tr S1 H1 (fun b => S1 b ∨ b = t) (upd H1 t (.dK ws)) := .fresh ht
    refine h (.ref t) _ _ fps [t] s2 (m1.1.trans tr) (.dic (.inr rfl) upd_same (AlKs.zero (rp.mono tr))) (by simp) fun b hb => ?_
    have e : b = t := by simpa using hb
    subst e
    exact ⟨.inr h0, np⟩
  · exact h.elim
theorem n_tyK {p : Bool} {r : List V → Hp → VK → Prop} {x : Str} {np pos : Pos} {e : Expr} {es : List Expr} {af : EM (List ArgD)} {T : String} {op : List (Nat × D) → Option (List (Key × D))} (hc : CallR X (.type T) r) (hv : BuK X.K r op) (hg : Gl X x) (hm : X.mg x = none) (hb : bootBuiltins x = some (.type T)) (ha : PA X (e :: es) (tX X.K X.mg W p af)) (hn : x ≠ "__name__" := by decide) (hdb : (x == ("__debug__" : Str)) = false := by decide)
    (he : starEach (e :: es) X.env = (false, eval e X.env) :: starEach es X.env := by rfl) (hpl : (backTo pos (starEach es X.env)).any (·.1) = false := by rfl) : PE X (.Call (.Name x np) (e :: es) [] pos) (tN X.K X.mg W 1 (nBuK op af)) := peI (pe_callTy hc hg hm hb ha hn hdb he hpl) fun _ _ _ h => bk_core hv h
def dctD : List (Nat × D) → Option (List (Key × D))
  | [(n, .dic ks)] => if n ≤ 1 then some ks else none
  | _ => none
theorem buk_dict : BuK X.K (fun xs H Q => ∃ (a : Addr) (kvs : List (Key × V)), xs = [.ref a] ∧ Rd H a (.dK kvs) ∧ ∀ p, H p = none → Q (.ref p) (upd H p (.dK kvs))) dctD := by
  intro S H vs as ds Q sd av e k
  unfold dctD at e
  split at e
  · split at e
    · rename_i n ks hn
      cases av with
      | cons a t =>
        cases t
        cases e
        obtain ⟨l, ws, F, rfl, rd, al⟩ := a.dict
        have e0 : n - 1 = 0 := by omega
        rw [e0] at al
        exact ⟨l, ws, rfl, rd, fun t ht => k t ws ht al.rep.1⟩
    · cases e
  · cases e
end
end VL

namespace VL
open PySem PySem.Spec PyProof.Rows L2

/-! ## several clauses 'except C as n' -/
abbrev Cls := Value × Nat × (Addr → Value → Option Addr → TS)
inductive Clauses (X : Cx) : List ExceptHandler → List Cls → Prop
  | done : Clauses X [] []
  | more {cn n : Str} {c : Value} {i : Nat} {g : Addr → Value → Option Addr → TS} {st : Stmt} {sts : List Stmt} {p1 p2 : Pos} {hs : List ExceptHandler} {l : List Cls} (at_ : X.N[i]? = some n) (loc : X.env.kindOf n = some .local) (nm : Names X cn c)
      (su : ∀ (e : Addr) (ob : Obj) (k : Value) (dd : Option Addr) (pz : List (Addr × Obj)), Zc k dd ob → (∃ vs, ob.data = .fields vs) → PSs (X.suite e ((e, ob) :: pz)) (st :: sts) (g e k dd)) (rest : Clauses X hs l) :
      Clauses X (.ExceptHandler (some (.Name cn p1)) (some n) (st :: sts) p2 :: hs) ((c, i, g) :: l)
def wCl (K : PySem.W.Frag) (Wo : WX) (D : Ends) : List Cls → WX
  | [] => Wo
  | (c, i, g) :: r => wAs K c i g (wCl K Wo D r) D
section
variable {X : Cx} {bd : List Stmt} {hd : ExceptHandler} {hs : List ExceptHandler} {l : List Cls} {pos : Pos} {tb : WX → TS} {Wo : WX}
theorem ps_clauses (hst : X.stack = X.env :: X.outer) (hfr : X.env.frame = some X.env.locals) (hN : X.N.Nodup) (tk : Takes X Wo)
    (hb : ∀ (W : WX) (pz : List (Addr × Obj)) (xe : Value → Shared → Prop), Takes (X.tr pz xe) W → PassesOwn (model X.prog X.w) X.A X.env xe → PSs (X.tr pz xe) bd (tb W))
    (cl : Clauses X (hd :: hs) l) : PS X (.Try bd (hd :: hs) [] [] pos) (fun D σ H => tb (wCl X.K Wo D l) D σ H) := by
  constructor
  intro pz s0 σ0 H0 D0 inv want
  have okk := inv.ok
  have frm : X.A.frames = some (X.env :: X.outer) := okk.frames.trans (congrArg some hst)
  apply wpAny_Try_except
  refine wpAny_mono ((hb (wCl X.K Wo D0 l) (X.pn ++ pz) _ (fun ev s1 thrown => ?thr) PassesOwn.looking).run [] s0 σ0 H0 D0 (inv.toTry _) want) (fun fl s1 came => ?ends) (fun _ _ z => z)
  case ends =>
    cases fl with
    | next => obtain ⟨σ1, H1, j, z⟩ := came; exact wpAny_execs_nil ⟨σ1, H1, Inv.ofTry j okk, z⟩
    | brk => obtain ⟨σ1, H1, j, z⟩ := came; exact ⟨σ1, H1, Inv.ofTry j okk, z⟩
    | cont => obtain ⟨σ1, H1, j, z⟩ := came; exact ⟨σ1, H1, Inv.ofTry j okk, z⟩
    | ret u => obtain ⟨x, σ1, H1, j, rx, z⟩ := came; exact ⟨x, σ1, H1, Inv.ofTry j okk, rx, z⟩
  case thr =>
    obtain ⟨e, B, sI, pz2, σ1, H1, k, dd, rfl, jt, nB, up0, skyX, nE, oS, aG, wish⟩ := thrown
    have jj : Inv X pz σ1 H1 sI := Inv.ofTry jt okk
    have skyE : Sky B (X.env :: X.outer) e (Zc k dd) X.env.locals s1.heap := hst ▸ skyX
    show wpAny (model X.prog X.w) X.A (noteFrame (Value.ref e) X.env) _ _ _
    refine Sky.land Zc.steady frm hfr skyE fun hA flA upA => ?_
    have jA : Inv X pz σ1 H1 { s1 with heap := hA } := Inv.landed jj nB flA.1 (up0.trans upA) oS aG
    obtain ⟨oA, vA, eA, zA, dA⟩ := flA.there
    have off : e ∉ frs (X.env :: X.outer) := fun hm => by
      obtain ⟨_, ob, eo, no⟩ := flA.2.2.1.mem hm
      rw [eA] at eo
      cases eo
      exact no _ dA
    have offL : e ≠ X.env.locals := fun z => off (List.mem_filterMap.mpr ⟨X.env, List.mem_cons_self, hfr.trans (congrArg some z.symm)⟩)
    have offF : e ∉ X.fs := fun hm => by
      obtain ⟨en, hen, q⟩ := List.mem_filterMap.mp hm
      exact off (List.mem_filterMap.mpr ⟨en, List.mem_cons_of_mem _ hen, q⟩)
    have sA := Inv.suite jA eA dA nE offL offF
    have each : ∀ {hs' : List ExceptHandler} {l' : List Cls}, Clauses X hs' l' → wCl X.K Wo D0 l' k dd σ1 H1 →
        wpAny (model X.prog X.w) X.A (handleBy (.ref e) X.env hs') (SP X pz D0) X.xe { s1 with heap := hA } := by
      intro hs' l' ck
      induction ck with
      | done =>
        intro wo
        apply wpAny_handleBy_nil
        obtain ⟨_, _, _, ob, fs, T, oT, _, hob, _, hfs, hT, _⟩ := id flA
        unfold PySem.passOn
        refine wpAny_bind (wpAny_field hob hfs hT ?_)
        rw [if_neg (show ¬ ((Value.ref T == Value.none) = true) by simp)]
        have up1 : wpAny (model X.prog X.w) X.A (setFlight (.ref e) X.env.frame) (fun _ s4 => wpAny (model X.prog X.w) X.A (throw (.ref e) : Sem Flow) (SP X pz D0) X.xe s4) X.xe { s1 with heap := hA } := by
          rw [hfr]
          refine HandSPX.setFlight_upZ flA fun hB skB upB => wpAny_throw (tk _ _ ⟨e, B, sI, pz, σ1, H1, k, dd, rfl, jj, nB, (up0.trans upA).trans upB, .inr (.inr ?_), nE, oS, aG, wo⟩)
          rw [hst]
          exact skB
        first
          | exact wpAny_bind (wpAny_pure (wpAny_bind up1))
          | exact wpAny_bind up1
      | @more cn n c i g st sts p1 p2 hs2 l2 at_ loc nm su rest ih =>
        intro wo
        obtain ⟨yes, ey, onYes, onNo⟩ := wo
        refine wpAny_handleBy_cons (codeAny_handlers_test ?_) (fun q => nomatch q)
        have kind : PySem.W.Looks (model X.prog X.w) hA (typeOf (.ref e)) k := fun A Q E s kp q => wpAny_typeOf_ref (kp _ _ eA) (zA.1 ▸ q)
        have mk := PySem.W.exm_one (M := model X.prog X.w) jA.kIn kind ey
        have look : ∀ {Q : Value → Shared → Prop} {E : Value → Shared → Prop}, Q c { s1 with heap := hA } → wpAny (model X.prog X.w) (X.A.mark (some (.ref e))) (eval (.Name cn p1) X.env) Q E { s1 with heap := hA } := fun q => by
          obtain ⟨g1, g2, g3 | ⟨g3, g4, g5⟩⟩ := nm
          · exact ld_glob (X := X.suite e ((e, oA) :: (X.pn ++ pz))) sA g1 g3 q g2
          · exact ld_blt (X := X.suite e ((e, oA) :: (X.pn ++ pz))) sA g1 g3 g4 q g5 g2
        refine look (mk.here ?_)
        cases yes with
        | false =>
          show wpAny _ X.A (handleBy (.ref e) X.env hs2) _ _ _
          exact ih (onNo rfl)
        | true =>
          apply codeAny_handlers_suite_as
          refine HandSPX.lands_againZ flA fun hC flC upC => ?_
          have jC : Inv X pz σ1 H1 { s1 with heap := hC } := Inv.landed jj nB flC.1 ((up0.trans upA).trans upC) oS aG
          obtain ⟨oC, vC, eC, zC, dC⟩ := flC.there
          have sC := Inv.suite jC eC dC nE offL offF
          refine store_ok (X := X.suite e ((e, oC) :: (X.pn ++ pz))) (v := .ref e) sC hN at_ (.inl loc) rfl (fun s5 j5 => ?_) (.inr loc)
          refine wpAny_mono ((su e oC k dd (X.pn ++ pz) zC ⟨_, dC⟩).run [] s5 _ H1 _ j5 (onYes rfl e nE)) (fun fl s6 came => ?_) (fun _ _ z => z.elim)
          have gone : ∀ {σ6 : L2.St} {H6 : Hp} {Q : Shared → Prop}, Inv (X.suite e ((e, oC) :: (X.pn ++ pz))) [] σ6 H6 s6 → (∀ s7, Inv X pz (σ6.set i none) H6 s7 → Q s7) →
              wpAny (model X.prog X.w) X.A (do bindName X.env n .none; unbindBehindTheSuite X.env n p2) (fun _ s7 => Q s7) X.xe s6 := fun j6 hq => gone_ok (j6.unsuite okk) hN at_ loc hq
          cases fl with
          | next => obtain ⟨σ6, H6, j6, z⟩ := came; exact gone j6 fun s7 j7 => ⟨_, _, j7, z⟩
          | brk => obtain ⟨σ6, H6, j6, z⟩ := came; exact gone j6 fun s7 j7 => ⟨_, _, j7, z⟩
          | cont => obtain ⟨σ6, H6, j6, z⟩ := came; exact gone j6 fun s7 j7 => ⟨_, _, j7, z⟩
          | ret u => obtain ⟨x, σ6, H6, j6, rx, z⟩ := came; exact gone j6 fun s7 j7 => ⟨_, _, _, j7, rx, z⟩
    exact each cl wish
end
abbrev Clause := (Str → Option Bool) × Nat × (Ex → SM)
def sufR (i : Nat) (s : SR) : SR := match s with
  | .nx ρ2 => .nx (ρ2.set i none)
  | .bk ρ2 => .bk (ρ2.set i none)
  | .ct ρ2 => .ct (ρ2.set i none)
  | .rt n d ρ2 => .rt n d ρ2
  | _ => .bad
def clR : List Clause → Ex → SM
  | [], x, ρ => .err x ρ
  | (mt, i, gx) :: r, x, ρ => match mt x.cls with
    | some true => if i < ρ.length then sufR i (gx x (ρ.set i none)) else .bad
    | some false => clR r x ρ
    | none => .bad
def trR (cs : List Clause) (s : SR) : SR := match s with
  | .err x ρ1 => clR cs x ρ1
  | r => r
def sTryC (cs : List Clause) (g : SM) : SM := fun ρ => trR cs (g ρ)
section
variable {X : Cx} {r : Nat} {W : WX}
structure ClV (X : Cx) (r : Nat) (hs : List ExceptHandler) (cs : List Clause) (l : List Cls) : Prop where
  cl : Clauses X hs l
  ok : ∀ (W : WX) (Dn : Ends) (C : Ctx) (x : Ex) (ρ1 : En) (k : Value) (dd : Option Addr) (σ1 : L2.St) (S1 : Own) (H1 : Hp), Sim X.K C ρ1 S1 σ1 H1 → XOk X.K X.mg S1 H1 x k dd → SOk X.K X.mg C W r (clR cs x ρ1) Dn → wCl X.K W Dn l k dd σ1 H1
theorem clv_nil : ClV X r [] [] [] := ⟨.done, fun W Dn C x ρ1 k dd σ1 S1 H1 s xo h => h k dd σ1 S1 H1 s xo⟩
theorem clv_cons {cn n : Str} {c : Value} {i : Nat} {mt : Str → Option Bool} {gx : Ex → SM} {st : Stmt} {sts : List Stmt} {p1 p2 : Pos} {hs : List ExceptHandler} {cs : List Clause} {l : List Cls} (hi : X.N[i]? = some n) (hl : X.env.kindOf n = some .local) (hc : Names X cn c)
    (hm : ∀ (m : Str) (b : Bool), mt m = some b → ∃ p, X.mg m = some (.ref p) ∧ PySem.W.exmOne X.K (.ref p) c = some b)
    (hsu : ∀ (a : Addr) (oe : Obj) (cls : Value) (d : Option Addr) (pn : List (Addr × Obj)), Zc cls d oe → (∃ vs, oe.data = .fields vs) → PSs (X.suite a ((a, oe) :: pn)) (st :: sts) (tSX X.K X.mg i a cls d r gx))
    (hr : ClV X r hs cs l) : ClV X r (.ExceptHandler (some (.Name cn p1)) (some n) (st :: sts) p2 :: hs) ((mt, i, gx) :: cs) ((c, i, fun a cls d => tSX X.K X.mg i a cls d r gx) :: l) :=
  ⟨.more hi hl hc hsu hr.cl, fun W Dn C e ρ1 k dd σ1 S1 H1 s1 xo h => by
    unfold clR at h
    cases em : mt e.cls with
    | none => rw [em] at h; exact h.elim
    | some b =>
    rw [em] at h
    obtain ⟨p, e1, e2⟩ := hm e.cls b em
    obtain ⟨p', e3, rfl, e4⟩ := id xo
    rw [e1] at e3
    cases e3
    refine ⟨b, e2, fun hb a ha => ?_, fun hb => ?_⟩
    · subst hb
      dsimp only at h
      split at h
      case isFalse => exact h.elim
      case isTrue hlt =>
      have hσ : i < σ1.length := by
        obtain ⟨_, z⟩ := s1
        rw [z.len]; exact hlt
      refine ⟨e, C, ρ1.set i none, S1, simSetNone s1 i _, by rw [List.getElem?_set_self hσ], xo, ?_⟩
      cases eg : gx e (ρ1.set i none) with
      | nx ρ2 => rw [eg] at h; exact fun σ' S' H' g => h _ S' H' (simSetNone g i none)
      | bk ρ2 => rw [eg] at h; exact fun σ' S' H' g => h _ S' H' (simSetNone g i none)
      | ct ρ2 => rw [eg] at h; exact fun σ' S' H' g => h _ S' H' (simSetNone g i none)
      | rt m d ρ2 => rw [eg] at h; exact h
      | err y ρ2 => rw [eg] at h; exact h.elim
      | bad => rw [eg] at h; exact h.elim
    · subst hb
      exact hr.ok W Dn C e ρ1 (.ref p) dd σ1 S1 H1 s1 xo h⟩
theorem w_tryC {body : List Stmt} {hd : ExceptHandler} {hs : List ExceptHandler} {cs : List Clause} {l : List Cls} {pos : Pos} {gb : SM} (hst : X.stack = X.env :: X.outer) (hf : X.env.frame = some X.env.locals) (hN : X.N.Nodup) (tk : Takes X W)
    (hb : ∀ (W' : WX) (pn : List (Addr × Obj)) (xe : Value → Shared → Prop), Takes (X.tr pn xe) W' → PassesOwn (model X.prog X.w) X.A X.env xe → PSs (X.tr pn xe) body (tS X.K X.mg W' r gb))
    (cl : ClV X r (hd :: hs) cs l) : PS X (.Try body (hd :: hs) [] [] pos) (tS X.K X.mg W r (sTryC cs gb)) :=
  psI (ps_clauses (tb := fun W' => tS X.K X.mg W' r gb) hst hf hN tk hb cl.cl) fun Dn σ H h => by
  obtain ⟨C, ρ, S, sim, h⟩ := h
  refine ⟨C, ρ, S, sim, ?_⟩
  unfold sTryC trR at h
  cases eb : gb ρ with
  | nx ρ1 => rw [eb] at h; exact h
  | rt m d ρ1 => rw [eb] at h; exact h
  | bk ρ1 => rw [eb] at h; exact h
  | ct ρ1 => rw [eb] at h; exact h
  | bad => rw [eb] at h; exact h
  | err e ρ1 =>
  rw [eb] at h
  intro cls dd σ1 S1 H1 s1 xo
  exact cl.ok W Dn C e ρ1 cls dd σ1 S1 H1 s1 xo h
end
end VL

namespace VL
open PySem PySem.Spec PyProof.Rows L2
section
variable {X : Cx} {W : WX} {p q : Bool} {r n : Nat}
/-! ## x = [.. for ..] -/
theorem lc_t {is vs : List Nat} {it : EM (List D)} {gt : D → SM} {c : EM Bool} {e : EM D} (his : ∀ i ∈ is, i ∈ vs) {σ : L2.St} {H : Hp} {Q : VK} (h : tN X.K X.mg W (n + 1) (nLc vs it gt c e) σ H Q) :
    tLc (tI X.K X.mg W p it) (tG X.K is gt) (tB' X.K X.mg W0 q c) (tN X.K X.mg W0 n e) vs σ H Q := by
  obtain ⟨C, ρ, S, sim, h⟩ := h
  refine tI_bind (G := fun z => NOk X.K X.mg C ρ S σ H W (n + 1) z Q) sim h id (fun x ρ' z => z) ?_
  clear h
  intro ds ρ1 J S1 H1 _ h s1 m1 jok D hD
  cases el : lcL vs gt c e ds (forget vs ρ1) with
  | err x ρ' => rw [el] at h; exact h.elim
  | bad => rw [el] at h; exact h.elim
  | ok xs ρe =>
  rw [el] at h
  dsimp only at h
  split at h
  case isFalse => exact h.elim
  case isTrue hlen =>
  obtain ⟨fps1, s1⟩ := s1
  exact lcC s1 jok his el hlen (fun v S' H' fps fp g t al nd z => h v S' H' fps fp g (m1.1.trans t) al nd z) D hD
section
variable {i : Nat} {y : Str} {py : Pos} {elt tg iter : Expr} {ifs : List Expr} {scope : Scope} {own : List (Str × Nat)} {pos spos : Pos} {is : List Nat} {it : EM (List D)} {gt : D → SM} {c : EM Bool} {e : EM D}
/-- the list is shared from the start -/
theorem w_setLc (hc : X.calm = true) (hN : X.N.Nodup) (hy : X.N[i]? = some y) (hi : PI X tg iter (tI X.K X.mg W p it)) (ok : BlkOk X.N X.env.scope scope own)
    (hg : ∀ (s : Shared) (H : Hp) (C : Addr) (cl : List (Str × Addr)) (fp : List Addr), PG (X.blk s H scope (compEnvC scope cl C X.env) fp) tg (tG X.K is gt)) (his : ∀ i ∈ is, i ∈ own.map (·.2))
    (ht : ∀ (s : Shared) (H : Hp) (C : Addr) (cl : List (Str × Addr)) (fp : List Addr), PTs (X.blk s H scope (compEnvC scope cl C X.env) fp) ifs (tB' X.K X.mg W0 q c))
    (he : ∀ (s : Shared) (H : Hp) (C : Addr) (cl : List (Str × Addr)) (fp : List Addr), PE (X.blk s H scope (compEnvC scope cl C X.env) fp) elt (tN X.K X.mg W0 n e)) (hyl : X.env.scope.names.lookup y = some .local := by rfl)
    (hsw : swapsWith (.ListComp elt [⟨tg, iter, ifs, 0⟩] scope pos) (some (.Name y py)) spos.line X.env = pure true := by rfl) (hs : ∀ x, foldedSetIterable iter X.env x = pure x := by intro _; rfl) :
    PS X (.Assign [.Name y py] (.ListComp elt [⟨tg, iter, ifs, 0⟩] scope pos) spos) (tS X.K X.mg W r (sSet i (eN (nLc (own.map (·.2)) it gt c e)))) :=
  psI (ps_setLc hc hN hy hyl hsw hi ok hg ht he hs) fun Dn σ H h => by
    refine lc_t his (vn_t ?_)
    obtain ⟨C, ρ, S, sim, h⟩ := h
    refine tE_s sim h ?_
    intro m d ρ1 v S1 H1 fp _ h s1 m1 a1
    split at h
    · rename_i hn
      simp only at hn
      subst hn
      exact h _ S1 H1 (s1.setV i (Rep.zero a1))
    · exact h.elim
end
/-! ## tuples whose first part is owned -/
def nTupO (f0 : EM D) (fs : EM (List D)) : EM D := f0.then fun d0 => fs.then fun ds ρ => if ds.length + 1 ≤ sizeLine then .ok (.tup (d0 :: ds)) ρ else .bad
theorem n_tupO {e0 : Expr} {es : List Expr} {x1} {pos : Pos} {f0 : EM D} {fs : EM (List D)} (h0 : PE X e0 (tN X.K X.mg W n f0)) (hr : PA X es (tA X.K X.mg W q fs)) (hs : starEach (e0 :: es) X.env = (false, eval e0 X.env) :: starEach es X.env := by rfl) :
    PE X (.Tuple (e0 :: es) x1 pos) (tN X.K X.mg W (n + 1) (nTupO f0 fs)) := peI (pe_tup (pa_cons h0 hr hs)) fun σ H Q h => by
  obtain ⟨C, ρ, S, sim, h⟩ := h
  refine ⟨C, ρ, S, sim, ?_⟩
  unfold nTupO EM.then at h
  cases ef : f0 ρ with
  | err x ρ1 => rw [ef] at h; exact h
  | bad => rw [ef] at h; exact h
  | ok d0 ρ1 =>
  rw [ef] at h
  dsimp only at h
  intro y S1 H1 fps1 fp1 s1 t1 al1 nd1 z1
  have hY : ∀ b, b ∈ fp1 → S1 b ∧ ∀ i, b ∉ fps1 i := fun b hb => ⟨(al1.there b hb).2, (z1 b hb).2⟩
  have hYs : ∀ b, b ∈ fp1 → S1 b := fun b hb => (hY b hb).1
  refine ⟨C.reY S1 H1 fun b => b ∈ fp1, ρ1, S1, ⟨fps1, s1.reY hY⟩, ?_⟩
  cases eg : fs ρ1 with
  | err x ρ2 =>
    rw [eg] at h
    intro cls dd S2 H2 s2 xo
    obtain ⟨f2, s2⟩ := s2
    exact h cls dd S2 H2 ⟨f2, SimF.back s1 hYs s2⟩ xo
  | bad => rw [eg] at h; exact h.elim
  | ok ds ρ2 =>
  rw [eg] at h
  dsimp only at h
  split at h
  case isFalse => exact h.elim
  case isTrue hl =>
  intro vs S2 H2 s2 m2 _ rp
  obtain ⟨fps2, s2⟩ := s2
  have b2 := SimF.back s1 hYs s2
  have ap : ∀ b, b ∈ fp1 → H2 b = H1 b ∧ S2 b ∧ ∀ i, b ∉ fps2 i := fun b hb => SimF.apart s1 s2 hb (hYs b hb)
  have al2 := al1.mono m2.1 fun b hb => ⟨(ap b hb).1, (ap b hb).2.1⟩
  refine ⟨by rw [List.length_cons, rp.length]; exact hl, fun t ht => ?_⟩
  have sm : Same H2 (upd H2 t (.tup (y :: vs))) := same_upd' ht
  exact h (.ref t) S2 _ fps2 fp1 (b2.same sm) ((t1.trans m2.1).trans (.same sm)) (.tup (fun z => b2.sd t z ht) (.inl upd_same) (al2.same sm) (rp.mono (.same sm))) nd1 fun b hb => ⟨(z1 b hb).1, (ap b hb).2.2⟩
/-- a, b, .. = e, a's owned -/
def sUnpO (n i : Nat) (is : List Nat) (f : EM D) : SM := f.s fun d ρ => match d with
  | .tup (d0 :: ds) => if i < ρ.length then gNs is ds (ρ.set i (some (.own n, d0))) else .bad
  | _ => .bad
theorem gNs_end : ∀ {is : List Nat} {ds : List D} {ρ : En}, (∃ ρ', gNs is ds ρ = .nx ρ' ∧ ds.length = is.length) ∨ gNs is ds ρ = .bad
  | [], [], ρ => .inl ⟨_, rfl, rfl⟩
  | [], _ :: _, ρ => .inr rfl
  | _ :: _, [], ρ => .inr rfl
  | i :: is, d :: ds, ρ => (gNs_end (is := is) (ds := ds) (ρ := ρ.set i (some (.val, d)))).imp (fun ⟨ρ', e, l⟩ => ⟨ρ', e, by simp [l]⟩) id
theorem w_unpO {i k : Nat} {is : List Nat} {x : Str} {p0 tp pos : Pos} {es : List Expr} {e : Expr} {f : EM D} (hc : X.calm = true) (hN : X.N.Nodup) (hi : X.N[i]? = some x) (hx : Loc X.env.scope x) (he : PE X e (tN X.K X.mg W (n + 1) f)) (hg : PGs X es (tGs X.K is (gNs is)))
    (hf : X.fn x = true ∨ X.env.scope.names.lookup x = some .local := by first | exact .inl rfl | exact .inr rfl | assumption) (hs0 : (assignEach (.Name x p0 :: es) X.env).map (·.2) = assign (.Name x p0) X.env :: (assignEach es X.env).map (·.2) := by rfl)
    (hn : (assignEach (.Name x p0 :: es) X.env).length = is.length + 1 := by rfl) (hst : (assignEach (.Name x p0 :: es) X.env).findIdx? (·.1) = none := by rfl) (hs : swapsWithSole [.Tuple (.Name x p0 :: es) k tp] e pos.line X.env = pure false := by rfl) (hw : swappedStores [.Tuple (.Name x p0 :: es) k tp] e X.env = pure none := by rfl)
    (h1 : (assignEach [.Tuple (.Name x p0 :: es) k tp] X.env).map (·.2) = [assign (.Tuple (.Name x p0 :: es) k tp) X.env] := by rfl) : PS X (.Assign [.Tuple (.Name x p0 :: es) k tp] e pos) (tS X.K X.mg W r (sUnpO n i is f)) :=
  psI (ps_asg he (pg_tup hc (pgs_cons (pg_name hN hi hx hf) hg hs0) hn hst) hs hw h1) fun Dn σ H h => by
  obtain ⟨C, ρ, S, sim, h⟩ := h
  refine tN_s sim h ?_
  clear h
  intro d ρ1 v S1 H1 fps fp ef h s1 t a nd z
  clear ef
  split at h
  case h_2 => exact h.elim
  case h_1 d0 ds =>
  split at h
  case isFalse => exact h.elim
  case isTrue hlt =>
  cases a with
  | fl f _ => cases f
  | tup hns rd q g =>
    rename_i a w vs
    rcases gNs_end (is := is) (ds := ds) (ρ := ρ1.set i (some (.own n, d0))) with ⟨ρ2, e2, l2⟩ | e2
    · rw [e2] at h
      refine ⟨a, w :: vs, rfl, .inl rd, by simp [g.length, l2], w, vs, rfl, ?_⟩
      exact ⟨C, _, S1, ds, ⟨_, s1.set i (.own q fun b hb => (z b hb).1) nd (fun b hb => (z b hb).2) (.inl hlt)⟩, g, ρ2, e2, fun σ' H' s' sm off => h σ' S1 H' s'⟩
    · rw [e2] at h
      exact h.elim
/-! ## is True, is not False; all -/
def dIsB (neg : Bool) (_ : Nat) (a : D) (_ : Nat) (b : D) : Option D := match a, b with
  | .bl x, .bl y => some (.bl (neg != decide (x = y)))
  | _, _ => none
theorem opv_isB {K : PySem.W.Frag} : OpV K (fun x y H Q => ∃ a b, x = .bl a ∧ y = .bl b ∧ Q (.bl (decide (a = b))) H) (dIsB false) := by
  intro S H x y n m a b d f f' Q sd a1 a2 e k
  unfold dIsB at e
  split at e
  · cases e
    obtain rfl := a1.isBl
    obtain rfl := a2.isBl
    refine ⟨_, _, rfl, rfl, ?_⟩
    have := k (.bl _) H (Same.refl _) (.bl _)
    simpa using this
  · cases e
theorem opv_notB {K : PySem.W.Frag} : OpV K (fun x y H Q => ∃ a b, x = .bl a ∧ y = .bl b ∧ Q (.bl (!decide (a = b))) H) (dIsB true) := by
  intro S H x y n m a b d f f' Q sd a1 a2 e k
  unfold dIsB at e
  split at e
  · cases e
    obtain rfl := a1.isBl
    obtain rfl := a2.isBl
    refine ⟨_, _, rfl, rfl, ?_⟩
    have := k (.bl _) H (Same.refl _) (.bl _)
    simpa using this
  · cases e
def bools : List D → Option (List Bool)
  | [] => some []
  | .bl b :: ds => (bools ds).map (b :: ·)
  | _ :: _ => none
theorem reps_bools {K : PySem.W.Frag} {S : Own} {H : Hp} : ∀ {vs : List V} {ds : List D} {bs : List Bool}, Reps K S H vs ds → bools ds = some bs → vs = bs.map V.bl
  | _, _, _, .nil, e => by cases e; rfl
  | _, _, _, .cons (d := d) r q, e => by
    cases d with
    | bl b =>
      simp only [bools] at e
      obtain ⟨bs, e1, rfl⟩ := Option.map_eq_some_iff.mp e
      cases r
      rw [reps_bools q e1]
      rfl
    | _ => simp [bools] at e
def allD (any : Bool) : List (Nat × D) → Option D
  | [(n, .lst ds)] => if n ≤ 1 then (bools ds).map fun bs => .bl (if any = true then bs.any id else bs.all id) else none
  | _ => none
theorem buv_all : BuV X.K (rAll X.K) (allD false) := by
  intro S H vs as d Q sd av e k
  unfold allD at e
  split at e
  · split at e
    · rename_i n ds hn
      obtain ⟨bs, e1, rfl⟩ := Option.map_eq_some_iff.mp e
      cases av with
      | cons a t =>
        cases t
        obtain ⟨l, ws, F, rfl, sq, al, _⟩ := a.list
        have ew := reps_bools (al.reps hn) e1
        subst ew
        exact ⟨l, bs, rfl, sq, k _ H (Same.refl _) (.bl _)⟩
    · cases e
  · cases e
theorem buv_any : BuV X.K (rAny X.K) (allD true) := by
  intro S H vs as d Q sd av e k
  unfold allD at e
  split at e
  · split at e
    · rename_i n ds hn
      obtain ⟨bs, e1, rfl⟩ := Option.map_eq_some_iff.mp e
      cases av with
      | cons a t =>
        cases t
        obtain ⟨l, ws, F, rfl, sq, al, _⟩ := a.list
        have ew := reps_bools (al.reps hn) e1
        subst ew
        exact ⟨l, bs, rfl, sq, k _ H (Same.refl _) (.bl _)⟩
    · cases e
  · cases e
theorem bt_all : bootBuiltins "all" = some (.builtin "all") := by decide +kernel
theorem bt_any : bootBuiltins "any" = some (.builtin "any") := by decide +kernel
end
end VL

namespace VL
open PySem PySem.Spec PyProof.Rows L2
section
open AutoSeq1 (wpAny_loadPart')
open MeetsSeq MeetsSeq2 MeetsSeq3 SeqRoads2 SeqAt
variable {prog : Program} {w : World}
/-- tuples unlike, their items compared within one model -/
theorem tup_neIn (p q : Addr) (us vs : Array Value) (i1 i2 : Nat) (d1 d2 : Option Addr) (z1 z2 : Array (Option Value)) (f : Nat → Bool) :
    MeetsIn prog w (Builtin.«tuple.__ne__» ⟨[.ref p, .ref q], []⟩)
      (fun A R s => s.heap.get? p = some { cls := .type "tuple", dict := d1, data := .seq us i1, slots := z1 } ∧ s.heap.get? q = some { cls := .type "tuple", dict := d2, data := .seq vs i2, slots := z2 } ∧
        (∀ j (a1 : j < us.size) (a2 : j < vs.size), EqP prog w A.in1 s us[j] vs[j] (f j)) ∧
        R (.ok (.ret (.bool (!((List.range (min us.size vs.size)).all f && us.size == vs.size))))) s) :=
  .of_wp fun A R s h => by
    obtain ⟨hp, g, d, tk, os⟩ := s; obtain ⟨hl, hb, he, h⟩ := h
    have st := AutoSeq1.sub_tuple_tuple
    have zl : (us.toList.zip vs.toList).length = min us.size vs.size := by simp
    wp_walk using wpAny_loadPart' hl, wpAny_loadPart' hb, wpAny_forIn_list _ (fun left b s' => b.1 = none ∧ s' = ⟨hp, g, d, tk, os⟩ ∧ ∃ i, left = (us.toList.zip vs.toList).drop i ∧
      R (.ok (.ret (.bool (!(((List.range (min us.size vs.size)).drop i).all f && us.size == vs.size))))) ⟨hp, g, d, tk, os⟩) _
    case turn =>
      rintro ⟨y, x⟩ left b s' ⟨hb', rfl, i, hz, hR⟩
      have hlt : i < (us.toList.zip vs.toList).length := by
        rcases Nat.lt_or_ge i (us.toList.zip vs.toList).length with k | k
        · exact k
        · rw [List.drop_of_length_le k] at hz; cases hz
      have hm : i < min us.size vs.size := zl ▸ hlt
      have a1 : i < us.size := Nat.lt_of_lt_of_le hm (Nat.min_le_left _ _)
      have a2 : i < vs.size := Nat.lt_of_lt_of_le hm (Nat.min_le_right _ _)
      rw [List.drop_eq_getElem_cons hlt] at hz
      injection hz with pair tail
      have hy : y = us[i] := by have := congrArg Prod.fst pair; simpa using this
      have hx : x = vs[i] := by have := congrArg Prod.snd pair; simpa using this
      subst hy hx
      have dr : (List.range (min us.size vs.size)).drop i = i :: (List.range (min us.size vs.size)).drop (i + 1) := by simp [List.drop_eq_getElem_cons, hm]
      rw [dr, List.all_cons] at hR
      refine wpAny_bind (he i a1 a2 _ _ ?_)
      cases hy : f i with
      | true =>
        rw [hy] at hR
        wp_walk
        exact ⟨rfl, rfl, i + 1, tail, by simpa using hR⟩
      | false =>
        rw [hy] at hR
        wp_walk
        exact ⟨_, rfl, by simpa using hR⟩
    case fin =>
      rintro ⟨b1, b2⟩ s' ⟨hb', rfl, i, hz, hR⟩
      simp only at hb'
      subst hb'
      have hge : min us.size vs.size ≤ i := by
        rcases Nat.lt_or_ge i (us.toList.zip vs.toList).length with k | k
        · rw [List.drop_eq_getElem_cons k] at hz; cases hz
        · exact zl ▸ k
      rw [List.drop_of_length_le (by simpa using hge)] at hR
      wp_walk
      exact ⟨_, rfl, by simpa [Builtin.Tuple.tupleCompareSizes, bne] using hR⟩
    case h =>
      exact ⟨rfl, rfl, 0, rfl, by simpa using h⟩
theorem rcP_tupNe {A : Around} {s : Shared} {p q : Addr} {us vs : Array Value} {f : Nat → Bool} (hl : s.heap.IsTuple p us) (hb : s.heap.IsTuple q vs) (hu : A.units < cLine)
    (he : ∀ j (a1 : j < us.size) (a2 : j < vs.size), EqP prog w A.in1 s us[j] vs[j] (f j)) (E Q : Value → Shared → Prop) (h : Q (.bool (!((List.range (min us.size vs.size)).all f && us.size == vs.size))) s) : wpAny (model prog w) A (richCompare .NotEq (.ref p) (.ref q)) Q E s := by
  obtain ⟨⟨c1, d1, e1, z1⟩, o1, rfl, i1, k1⟩ := id hl
  obtain ⟨⟨c2, d2, e2, z2⟩, o2, rfl, i2, k2⟩ := id hb
  simp only at k1 k2
  subst k1 k2
  have ta : s.TypeIs (.ref p) "tuple" := ⟨_, o1, rfl⟩
  have tb : s.TypeIs (.ref q) "tuple" := ⟨_, o2, rfl⟩
  exact wpAny_richCompare_same_room (op := .NotEq) ta tb F.slot_tuple_ne (call_meetsIn F.slot_tuple_ne ta F.entry_tuple_ne (F.args_tuple_ne_2 _ _) (tup_neIn p q us vs i1 i2 d1 d2 z1 z2 f)
    ⟨o1, o2, he, show Value.bool (!((List.range (min us.size vs.size)).all f && us.size == vs.size)) ≠ Value.notImplemented ∧ Q (.bool (!((List.range (min us.size vs.size)).all f && us.size == vs.size))) s from ⟨(fun x => nomatch x), h⟩⟩) hu
end

/-- the same, of dicts within dicts too -/
def eqG : Nat → D → D → Bool
  | 0, _, _ => false
  | n + 1, .dic ks, .dic ls => decide (ks.map (·.1)).Nodup && ((ks.length == ls.length) && (ks.zip ls).all fun p => decide (p.1.1 = p.2.1) && eqG n p.1.2 p.2.2)
  | _ + 1, d, e => eqP d e == some true
def eqGs (n : Nat) (ds es : List D) : Bool := (ds.length == es.length) && (ds.zip es).all fun p => eqG n p.1 p.2
section
variable {X : Cx} {pins : List (Addr × Obj)} {σ : L2.St} {H : Hp} {s : Shared}
theorem eqP_run (I : Inv X pins σ H s) {A : Around} (hu : A.units + 64 < cLine) {d e : D} (h : eqP d e = some true) {x y : V} {v u : Value} (r1 : Rep X.K (fun _ => False) H x d) (r2 : Rep X.K (fun _ => False) H y e) (rx : RelV x v) (ry : RelV y u) : SeqAt.EqP X.prog X.w A s v u true := by
  unfold eqP at h
  obtain ⟨a, f1, h⟩ := Option.bind_eq_some_iff.mp h
  obtain ⟨b, f2, h⟩ := Option.bind_eq_some_iff.mp h
  split at h
  case isFalse => cases h
  case isTrue hs =>
  have h := Option.some.inj h
  obtain ⟨as, q1⟩ := Dp.reads I a x v (r1.dp f1) rx
  obtain ⟨bs, q2⟩ := Dp.reads I b y u (r2.dp f2) ry
  have k := SeqAt.eqAt_reads a b A s v u as bs q1 q2 (SeqAt.canLay_of_shaped hs.1) (SeqAt.canLay_of_shaped hs.2) (SeqAt.room_of_shaped hs.1 hu)
  rw [h] at k
  exact k.eqP
theorem hitsG (I : Inv X pins σ H s) {A : Around} {n : Nat} {full : List (Key × Value)} (hn : (full.map (·.1)).Nodup)
    (ih : ∀ (d e : D) (x y : V) (v u : Value), eqG n d e = true → Rep X.K (fun _ => False) H x d → Rep X.K (fun _ => False) H y e → RelV x v → RelV y u → SeqAt.EqP X.prog X.w A s v u true) :
    ∀ {ks ls : List (Key × D)} {vs ws : List (Key × V)} {va vb : List (Key × Value)}, RepKs X.K (fun _ => False) H vs ks → RepKs X.K (fun _ => False) H ws ls → KV vs va → KV ws vb → (∀ p ∈ vb, p ∈ full) → ks.length = ls.length →
      ((ks.zip ls).all fun p => decide (p.1.1 = p.2.1) && eqG n p.1.2 p.2.2) = true → PySem.W.KeqHitsP X.prog X.w A s full va true
  | _, _, _, _, _, _, .nil, _, ka, _, _, _, _ => by cases ka; exact .nil
  | _, _, _, _, _, _, .cons r q, .nil, _, _, _, hl, _ => by simp at hl
  | _, _, _, _, _, _, .cons (k := k) (v := x) (d := d) r q, .cons (k := k') (v := y) (d := e) r' q', ka, kb, hm, hl, h => by
    cases ka with
    | @cons p1 u1 vs' va' a t =>
    cases kb with
    | @cons p2 u2 ws' vb' b t' =>
    obtain ⟨a1, a2⟩ := a
    obtain ⟨b1, b2⟩ := b
    obtain ⟨k1, v1⟩ := u1
    obtain ⟨k2, v2⟩ := u2
    have a1 : k = k1 := a1
    have b1 : k' = k2 := b1
    subst a1 b1
    rw [List.zip_cons_cons, List.all_cons, Bool.and_eq_true, Bool.and_eq_true] at h
    obtain ⟨⟨h1, h2⟩, h3⟩ := h
    have e1 : k = k' := of_decide_eq_true h1
    subst e1
    obtain ⟨i, hi⟩ := List.getElem?_of_mem (hm _ List.mem_cons_self)
    have hv := PySem.valueAt_of_get hn hi
    have rest := hitsG I hn ih q q' t t' (fun p hp => hm p (List.mem_cons_of_mem _ hp)) (by simpa using hl) h3
    show PySem.W.KeqHitsP X.prog X.w A s full ((k, v1) :: va') (true && true)
    exact .hit hv (ih d e x y v1 v2 h2 r r' a2 b2) rest
theorem keysG {n : Nat} : ∀ {ks ls : List (Key × D)}, ks.length = ls.length → ((ks.zip ls).all fun p => decide (p.1.1 = p.2.1) && eqG n p.1.2 p.2.2) = true → ks.map (·.1) = ls.map (·.1)
  | [], [], _, _ => rfl
  | [], _ :: _, h, _ => by simp at h
  | _ :: _, [], h, _ => by simp at h
  | p :: ks, q :: ls, h, g => by
    rw [List.zip_cons_cons, List.all_cons, Bool.and_eq_true, Bool.and_eq_true] at g
    rw [List.map_cons, List.map_cons, of_decide_eq_true g.1.1, keysG (by simpa using h) g.2]
theorem eqG_run (I : Inv X pins σ H s) : ∀ (n : Nat) (A : Around), A.units + n + 64 < cLine → ∀ (d e : D) (x y : V) (v u : Value), eqG n d e = true → Rep X.K (fun _ => False) H x d → Rep X.K (fun _ => False) H y e → RelV x v → RelV y u → SeqAt.EqP X.prog X.w A s v u true
  | 0, _, _, _, _, _, _, _, _, h, _, _, _, _ => nomatch h
  | n + 1, A, hu, d, e, x, y, v, u, h, r1, r2, rx, ry => by
    have flat : eqP d e = some true → SeqAt.EqP X.prog X.w A s v u true := fun q => eqP_run I (by omega) q r1 r2 rx ry
    unfold eqG at h
    split at h
    · rename_i heq
      cases heq
    · rename_i n' ks ls heq
      cases heq
      simp only [Bool.and_eq_true] at h
      obtain ⟨h1, h2, h3⟩ := h
      have h1 := of_decide_eq_true h1
      have h2 : ks.length = ls.length := by simpa using h2
      cases r1 with
      | @dic a vs _ na ea ra =>
      cases r2 with
      | @dic b ws _ nb eb rb =>
      cases (show v = Value.ref a from rx)
      cases (show u = Value.ref b from ry)
      by_cases eab : a = b
      · subst eab
        exact (SeqAt.EqAt.same _).eqP
      obtain ⟨_, ya, va, ka, da⟩ := dk_rd I.hok ea
      obtain ⟨_, yb, vb, kb, db⟩ := dk_rd I.hok eb
      have kks : vb.map (·.1) = ls.map (·.1) := by
        rw [← rb.length.2]
        exact (KV.keys kb).symm
      have ekl : ks.map (·.1) = ls.map (·.1) := by
        exact keysG h2 h3
      refine SeqAt.eqP_refs eab fun E Q q => ?_
      refine PySem.W.rcP_dicts (knd := mixKind X.prog X.w) (r := true) ya yb da db (by omega) (fun _ => hitsG I (A := A.in1) (n := n) (by rw [kks, ← ekl]; exact h1) (fun d e x y v u g => eqG_run I n A.in1 (by show A.units + 1 + n + 64 < cLine; omega) d e x y v u g) ra rb ka kb (fun _ z => z) h2 h3) E Q ?_
      have e1 : va.length = vb.length := by rw [← ka.length, ← kb.length, ra.length.1, rb.length.1, h2]
      rw [show (va.length == vb.length && true) = true from by rw [e1]; simp]
      exact q
    · exact flat (by first | exact eq_of_beq h | (rename_i heq _; cases heq; exact eq_of_beq h) | (rename_i heq; cases heq; exact eq_of_beq h) | (injections; subst_vars; exact eq_of_beq h))
theorem itemsG (I : Inv X pins σ H s) {n : Nat} {A : Around} (hu : A.units + n + 64 < cLine) : ∀ {ds es : List D} {xs ys : List V} {us ws : List Value}, Reps X.K (fun _ => False) H xs ds → Reps X.K (fun _ => False) H ys es → Vals xs us → Vals ys ws → ((ds.zip es).all fun p => eqG n p.1 p.2) = true →
    ∀ j (a1 : j < us.length) (a2 : j < ws.length), SeqAt.EqP X.prog X.w A s us[j] ws[j] true
  | _, _, _, _, _, _, .nil, _, v1, _, _, j, a1, _ => by cases v1; exact absurd a1 (Nat.not_lt_zero j)
  | _, _, _, _, _, _, .cons _ _, .nil, _, v2, _, j, _, a2 => by cases v2; exact absurd a2 (Nat.not_lt_zero j)
  | _, _, _, _, _, _, .cons r q, .cons r' q', v1, v2, h, j, a1, a2 => by
    cases v1 with
    | cons b1 c1 =>
    cases v2 with
    | cons b2 c2 =>
    rw [List.zip_cons_cons, List.all_cons, Bool.and_eq_true] at h
    cases j with
    | zero => exact eqG_run I n A hu _ _ _ _ _ _ h.1 r r' b1 b2
    | succ j => exact itemsG I hu q q' c1 c2 h.2 j (Nat.lt_of_succ_lt_succ a1) (Nat.lt_of_succ_lt_succ a2)
end
/-- a != b, two tuples that are equal -/
def rNeG (K : PySem.W.Frag) : R2 := fun x y H Q => ∃ a b xs ys ds es, x = .ref a ∧ y = .ref b ∧ SqT K H a xs ∧ SqT K H b ys ∧ Reps K (fun _ => False) H xs ds ∧ Reps K (fun _ => False) H ys es ∧ eqGs 4 ds es = true ∧ Q (.bl false) H
def neG (n : Nat) (a : D) (m : Nat) (b : D) : Option D := match n, a, m, b with
  | 0, .tup ds, 0, .tup es => if eqGs 4 ds es = true then some (.bl false) else none
  | _, _, _, _ => none
section
variable {X : Cx}
theorem op_neG (hu : X.A.units + 72 < cLine) : OpR X (compareOp .NotEq) (rNeG X.K) := by
  intro pins s σ H x y v u Q I rx ry h
  obtain ⟨a, b, xs, ys, ds, es, rfl, rfl, ha, hb, ra, rb, hg, q⟩ := h
  cases (show v = Value.ref a from rx)
  cases (show u = Value.ref b from ry)
  obtain ⟨us, v1, t1, _⟩ := I.tuple ha
  obtain ⟨ws, v2, t2, _⟩ := I.tuple hb
  simp only [eqGs, Bool.and_eq_true] at hg
  have hl : us.length = ws.length := by
    rw [← v1.length, ← v2.length, ra.length, rb.length]
    simpa using hg.1
  refine rcP_tupNe (f := fun _ => true) t1 t2 (by omega) (fun j a1 a2 => ?_) _ _ ?_
  · have k := itemsG I (A := X.A.in1) (n := 4) (by show X.A.units + 1 + 4 + 64 < cLine; omega) ra rb v1 v2 hg.2 j (by simpa using a1) (by simpa using a2)
    simpa using k
  · refine ⟨.bl false, H, I, ?_, q⟩
    show Value.bool _ = Value.bool false
    rw [show ((List.range (min us.toArray.size ws.toArray.size)).all fun _ => true) = true from List.all_eq_true.mpr fun _ _ => rfl]
    simp [hl]
theorem opv_neG {K : PySem.W.Frag} : OpV K (rNeG K) neG := by
  intro S H x y n m a b d f f' Q sd a1 a2 e k
  unfold neG at e
  split at e
  case h_2 => cases e
  case h_1 ds es =>
  split at e
  case isFalse => cases e
  case isTrue hg =>
  cases e
  have r1 := a1.rep0
  have r2 := a2.rep0
  cases r1 with
  | tup l1 q1 =>
  cases r2 with
  | tup l2 q2 =>
  exact ⟨_, _, _, _, _, _, rfl, rfl, l1.sq, l2.sq, q1, q2, hg, k _ H (Same.refl _) (.bl _)⟩
end

theorem RG.hu72 {k : Nat} {A : Around} (r : RG k A) : A.units + 72 < cLine := by have := r.room.un; omega
/-! ## sorted: pairs of texts -/
abbrev SP := Str × Str
/-- p before q -/
def pLt (p q : SP) : Bool := if p.1 = q.1 then sLt p.2 q.2 else sLt p.1 q.1
def pLe (p q : SP) : Bool := !pLt q p
theorem sLe_of {a b : Str} (h : sLt b a = false) : sLe a b = true := by unfold sLe; rw [h]; rfl
theorem of_sLe {a b : Str} (h : sLe a b = true) : sLt b a = false := by unfold sLe at h; simpa using h
theorem sLt_asym {a b : Str} (h : sLt a b = true) : sLt b a = false := by
  rcases Bool.or_eq_true_iff.mp (sLe_total a b) with z | z
  · exact of_sLe z
  · rw [of_sLe z] at h; cases h
theorem sLt_irr (a : Str) : sLt a a = false := by
  rcases Bool.or_eq_true_iff.mp (sLe_total a a) with z | z <;> exact of_sLe z
theorem sLt_no {a b : Str} (h : sLt a b = false) (g : sLt b a = false) : a = b := sLe_anti (sLe_of g) (sLe_of h)
theorem sLt_tr {a b c : Str} (h : sLt b a = false) (g : sLt c b = false) : sLt c a = false := of_sLe (sLe_trans a b c (sLe_of h) (sLe_of g))
theorem pLt_asym {p q : SP} (h : pLt p q = true) : pLt q p = false := by
  unfold pLt at h ⊢
  split at h
  · rename_i e; rw [if_pos e.symm]; exact sLt_asym h
  · rename_i e; rw [if_neg (Ne.symm e)]; exact sLt_asym h
theorem pLt_tr {p q r : SP} (h : pLt q p = false) (g : pLt r q = false) : pLt r p = false := by
  unfold pLt at h g ⊢
  by_cases e1 : q.1 = p.1
  · rw [if_pos e1] at h
    by_cases e2 : r.1 = q.1
    · rw [if_pos e2] at g
      rw [if_pos (e2.trans e1)]
      exact sLt_tr h g
    · rw [if_neg e2] at g
      rw [if_neg (fun z => e2 (z.trans e1.symm)), ← e1]
      exact g
  · rw [if_neg e1] at h
    by_cases e2 : r.1 = q.1
    · rw [if_pos e2] at g
      rw [if_neg (fun z => e1 (e2.symm.trans z)), e2]
      exact h
    · rw [if_neg e2] at g
      have k := sLt_tr h g
      by_cases e3 : r.1 = p.1
      · rw [e3] at g
        exact absurd (sLt_no h g) e1
      · rw [if_neg e3]
        exact k
theorem pLt_no {p q : SP} (h : pLt p q = false) (g : pLt q p = false) : p = q := by
  unfold pLt at h g
  by_cases e : p.1 = q.1
  · rw [if_pos e] at h
    rw [if_pos e.symm] at g
    exact Prod.ext e (sLt_no h g)
  · rw [if_neg e] at h
    rw [if_neg (Ne.symm e)] at g
    exact absurd (sLt_no h g) e
def sortP (l : List SP) : List SP := l.mergeSort pLe
theorem sortP_unique {ys xs : List SP} (h : ys.Perm xs) (s : ys.Pairwise fun a b => pLt b a = false) : ys = sortP xs := by
  have tr : ∀ a b c : SP, pLe a b = true → pLe b c = true → pLe a c = true := fun a b c h1 h2 => by
    unfold pLe at h1 h2 ⊢
    rw [pLt_tr (by simpa using h1) (by simpa using h2)]; rfl
  have tot : ∀ a b : SP, (pLe a b || pLe b a) = true := fun a b => by
    unfold pLe
    cases e : pLt a b with
    | false => simp
    | true => simp [pLt_asym e]
  have p2 : (sortP xs).Pairwise (fun a b => pLe a b = true) := List.pairwise_mergeSort tr tot xs
  refine List.Perm.eq_of_pairwise (le := fun a b => pLe a b = true) (fun a b _ _ h1 h2 => ?_) (s.imp fun {a b} h => by unfold pLe; rw [h]; rfl) p2 (h.trans (List.mergeSort_perm xs pLe).symm)
  unfold pLe at h1 h2
  exact pLt_no (by simpa using h2) (by simpa using h1)
/-- v is the pair of texts p -/
def IsPS (h : Heap) (v : Value) (p : SP) : Prop := ∃ a o t u n, v = .ref a ∧ h.get? a = some o ∧ o.cls = .type "tuple" ∧ o.data = .seq #[.str p.1 t, .str p.2 u] n
theorem IsPS.keeps {h h' : Heap} {v : Value} {p : SP} (q : IsPS h v p) (k : ∀ b o, h.get? b = some o → o.cls = .type "tuple" → h'.get? b = some o) : IsPS h' v p := by
  obtain ⟨a, o, t, u, n, e, ho, hc, hd⟩ := q
  exact ⟨a, o, t, u, n, e, k _ _ ho hc, hc, hd⟩
theorem IsPS.inj {h : Heap} {v : Value} {p q : SP} (a : IsPS h v p) (b : IsPS h v q) : p = q := by
  obtain ⟨x, o, t, u, n, rfl, ho, _, hd⟩ := a
  obtain ⟨x', o', t', u', n', e, ho', _, hd'⟩ := b
  cases e
  rw [ho] at ho'
  cases ho'
  rw [hd] at hd'
  obtain ⟨p1, p2⟩ := p
  obtain ⟨q1, q2⟩ := q
  simp at hd'
  simp [hd'.1.1.1, hd'.1.2.1]
open Classical in
noncomputable def pOf (h : Heap) (v : Value) : SP := if z : ∃ p, IsPS h v p then z.choose else default
theorem pOf_eq {h : Heap} {v : Value} {p : SP} (q : IsPS h v p) : pOf h v = p := by
  have z : ∃ p, IsPS h v p := ⟨p, q⟩
  unfold pOf
  rw [dif_pos z]
  exact IsPS.inj z.choose_spec q
section
variable {prog : Program} {w : World} {A : Around} {E : Value → Shared → Prop} {s : Shared}
theorem swo_ps (k : Value → SP) : SrtO.Swo fun v u => pLt (k v) (k u) := ⟨fun _ _ h => pLt_asym h, fun _ _ _ h g => pLt_tr h g⟩
theorem ps_cmp {vs : List Value} {k : Value → SP} (hp : ∀ v ∈ vs, IsPS s.heap v (k v)) : SrtO.Cmp prog w A s (tuples' true) (fun p => p.1 ∈ vs) (SrtO.lt2 fun v u => pLt (k v) (k u)) := by
  intro p q hm hm'
  have h1 := hp _ hm
  have h2 := hp _ hm'
  show wpAny (model prog w) A (keyLt' (tuples' true) p.1 q.1) (fun r s' => s' = s ∧ r = pLt (k p.1) (k q.1)) (fun _ _ => False) s
  unfold pLt
  generalize k p.1 = m at h1 ⊢
  generalize k q.1 = m' at h2 ⊢
  obtain ⟨x, y⟩ := m
  obtain ⟨x', y'⟩ := m'
  obtain ⟨a, o, t, u, n, e, ho, hc, hd⟩ := h1
  obtain ⟨a', o', t', u', n', e', ho', hc', hd'⟩ := h2
  rw [e, e']
  refine PySem.W.kat_lt ho hd ho' hd' ?_
  show PySem.W.KatLex prog w A true (decide (2 < 2)) _ [(.str x t, .str x' t'), (.str y u, .str y' u')] 0 s
  refine PySem.W.kat_cons (wpAny_eqBool_str ?_)
  refine PySem.W.kat_go (fun e1 => ?_) (fun e1 => ?_)
  · have ex : x = x' := of_decide_eq_true e1
    subst ex
    refine PySem.W.kat_yes (PySem.W.kat_cons (wpAny_eqBool_str ?_))
    refine PySem.W.kat_go (fun e2 => ?_) (fun e2 => ?_)
    · have ey : y = y' := of_decide_eq_true e2
      subst ey
      refine PySem.W.kat_yes (PySem.W.kat_nil ⟨rfl, ?_⟩)
      show false = if x = x then sLt y y else sLt x x
      rw [if_pos rfl]
      exact (sLt_irr y).symm
    · refine PySem.W.kat_no (PySem.W.kat_one _ _ (PyProof.Rows.lt_str ?_))
      refine (show s = s ∧ decide (y.cps.toList < y'.cps.toList) = (if x = x then sLt y y' else sLt x x) from ⟨rfl, ?_⟩)
      rw [if_pos rfl]
      rfl
  · have ex : ¬ x = x' := of_decide_eq_false e1
    refine PySem.W.kat_no (oneLt_str ⟨rfl, ?_⟩)
    show _ = if x = x' then sLt y y' else sLt x x'
    rw [if_neg ex]
    rfl
theorem ps_firsts {h : Heap} : ∀ {vs : List Value}, (∀ v ∈ vs, ∃ p, IsPS h v p) → ∃ fs : List Value, PySem.W.KatTups h vs fs ∧ fs.length = vs.length ∧ ∀ f ∈ fs, ∃ x t, f = Value.str x t
  | [], _ => ⟨[], PySem.W.KatTups.nil, rfl, fun _ hm => by simp at hm⟩
  | v :: vs, hp => by
    obtain ⟨fs, h1, h2, h3⟩ := ps_firsts (vs := vs) fun u hm => hp u (List.mem_cons_of_mem _ hm)
    obtain ⟨p, a, o, t, u, n, e, ho, hc, hd⟩ := hp v List.mem_cons_self
    subst e
    refine ⟨.str p.1 t :: fs, PySem.W.KatTups.cons ho hc hd rfl h1, by rw [List.length_cons, List.length_cons, h2], fun f hm => ?_⟩
    rcases List.mem_cons.mp hm with rfl | hm
    · exact ⟨p.1, t, rfl⟩
    · exact h3 f hm
theorem ps_sortable {a : Addr} {vs : List Value} {k : Value → SP} (h0 : 0 < vs.length) (hp : ∀ v ∈ vs, IsPS s.heap v (k v)) (ha : ∀ o, s.heap.get? a = some o → o.cls ≠ .type "tuple") : SrtO.SortableO prog w A s a vs fun v u => pLt (k v) (k u) := by
  intro h' keep
  have hp' : ∀ v ∈ vs, IsPS h' v (k v) := fun v hm => (hp v hm).keeps fun b o e c => keep b o (fun z => by subst z; exact ha o e c) e
  obtain ⟨fs, h1, h2, h3⟩ := ps_firsts fun v hm => ⟨_, hp' v hm⟩
  refine ⟨tuples' true, fun Q E hq => ?_, ps_cmp hp'⟩
  refine PySem.W.kat_kind (T := .type "str") h1 (by omega) (fun f hm => ?_) (by rfl) ?_
  · obtain ⟨x, t, rfl⟩ := h3 f hm
    exact PySem.W.Looks.now
  · have e : (Value.type "str" != Value.type "tuple") = true := by decide +kernel
    rw [e]
    exact hq
end
def rSortQ (K : PySem.W.Frag) : List V → Hp → VK → Prop := fun vs H Q => ∃ (a : Addr) (xs : List V) (ps : List SP), vs = [V.ref a] ∧ SqL K H a xs ∧ xs.length = ps.length ∧ (∀ i (h1 : i < xs.length) (h2 : i < ps.length), ∃ t, xs[i] = V.ref t ∧ SqT K H t [.str ps[i].1, .str ps[i].2]) ∧
  ∀ (zs : List (V × SP)) p, zs.Perm (xs.zip ps) → zs.map (·.2) = sortP ps → H p = none → Q (.ref p) (upd H p (.lst (zs.map (·.1))))
section
variable {X : Cx}
theorem cr_sortQ : CallR X (.builtin "sorted") (rSortQ X.K) := by
  intro pins s σ H vs us Q I r h
  obtain ⟨a, xs, ps, rfl, hs, hl0, hx, q⟩ := h
  obtain ⟨its, rv, hl, hz⟩ := I.list hs
  rw [Vals.ref1 r]
  obtain ⟨e1, e2⟩ := refs_back rv fun x m => by
    obtain ⟨i, hi, rfl⟩ := List.getElem_of_mem m
    obtain ⟨t, e, _⟩ := hx i hi (hl0 ▸ hi)
    exact ⟨t, e⟩
  have hlen : its.length = ps.length := by rw [← rv.length, hl0]
  have hps : ∀ i (h1 : i < its.length) (h2 : i < ps.length), IsPS s.heap its[i] ps[i] := fun i h1 h2 => by
    obtain ⟨t, e, st⟩ := hx i (by rw [hl0]; exact h2) h2
    obtain ⟨t', et⟩ := e2 _ (List.getElem_mem h1)
    have ex : xs[i]'(by rw [hl0]; exact h2) = backV its[i] := by
      have := congrArg (·[i]?) e1
      simp only [List.getElem?_map] at this
      rw [List.getElem?_eq_getElem (by rw [hl0]; exact h2), List.getElem?_eq_getElem h1] at this
      simpa using this
    rw [et] at ex ⊢
    rw [e] at ex
    have ex : V.ref t = V.ref t' := ex
    cases ex
    obtain ⟨ws, r2, ⟨o, ho, hc, n, hd⟩, _⟩ := I.tuple st
    obtain ⟨u1, u2, rfl, ri, rj⟩ := vals2 r2
    obtain ⟨t1, rfl⟩ := ri
    obtain ⟨t2, rfl⟩ := rj
    exact ⟨t, o, t1, t2, n, rfl, ho, hc, hd⟩
  have hk : its.map (pOf s.heap) = ps := by
    apply List.ext_getElem (by simpa using hlen)
    intro i h1 h2
    rw [List.getElem_map]
    exact pOf_eq (hps i (by simpa using h1) h2)
  have hpv : ∀ v ∈ its, IsPS s.heap v (pOf s.heap v) := fun v hv => by
    obtain ⟨i, hi, rfl⟩ := List.getElem_of_mem hv
    have := hps i hi (hlen ▸ hi)
    rw [pOf_eq this]
    exact this
  refine SrtO.sorted_ord (swo_ps (pOf s.heap)) hl.isList (by rw [← rv.length]; exact hz) (fun h2 h₁ a' ha kk => ?_) fun out h1 h2 => ?_
  · refine ps_sortable (s := { s with heap := h₁ }) (by omega) (fun v hm => (hpv v hm).keeps fun b o e _ => (kk b o e).2) fun o e => ?_
    have e' : some o = some (seqObj "list" its.toArray 0) := e.symm.trans ha
    cases e'
    intro c
    exact absurd (Value.type.inj c) (by decide)
  · have h3 : ∀ u ∈ out, ∃ a, u = Value.ref a := fun u hu => e2 u (h2.perm.mem_iff.mp hu)
    obtain ⟨ep, he'⟩ := PyProof.Rows.sortedAll_at s.heap its out.toArray
    have zip : xs.zip ps = its.map fun v => (backV v, pOf s.heap v) := by
      rw [e1, ← hk]
      clear hps hlen hk hpv h1 h2 h3 e1 e2 rv hl hl0 hx he' q
      induction its with
      | nil => rfl
      | cons v its ih => simp only [List.map_cons, List.zip_cons_cons, ih]
    have pz : (out.map fun v => (backV v, pOf s.heap v)).Perm (xs.zip ps) := by rw [zip]; exact h2.perm.map _
    have sz : (out.map fun v => (backV v, pOf s.heap v)).map (·.2) = sortP ps := by
      rw [List.map_map]
      refine sortP_unique ?_ (List.pairwise_map.mpr h1)
      rw [← hk]
      exact h2.perm.map _
    have ef : (out.map fun v => (backV v, pOf s.heap v)).map (·.1) = out.map backV := by rw [List.map_map]; rfl
    have hle : (out.map backV).length ≤ sizeLine := by
      rw [List.length_map, h2.perm.length_eq, ← rv.length]
      exact hz
    have q' := q _ (s.heap.objs.size + 1) pz sz (I.hok.fresh (Nat.le_succ _))
    rw [ef] at q'
    exact ⟨.ref _, upd H (s.heap.objs.size + 1) (.lst (out.map backV)), I.laid (t' := s.toks) (fun _ _ => PyProof.Rows.sortedAll_old) (Nat.le_succ _) ⟨hle, out, ep, vals_back h3, he'⟩, rfl, q'⟩
end
def asPair : D → Option SP
  | .tup [.str a, .str b] => some (a, b)
  | _ => none
def asPairs : List D → Option (List SP)
  | [] => some []
  | d :: ds => (asPair d).bind fun p => (asPairs ds).map (p :: ·)
def pairD (p : SP) : D := .tup [.str p.1, .str p.2]
theorem asPair_eq {d : D} {p : SP} (h : asPair d = some p) : d = pairD p := by
  unfold asPair at h
  split at h
  · cases h; rfl
  · cases h
theorem asPairs_eq : ∀ {ds : List D} {ps : List SP}, asPairs ds = some ps → ds = ps.map pairD
  | [], _, h => by cases h; rfl
  | d :: ds, ps, h => by
    unfold asPairs at h
    obtain ⟨p, e1, h⟩ := Option.bind_eq_some_iff.mp h
    obtain ⟨qs, e2, rfl⟩ := Option.map_eq_some_iff.mp h
    rw [asPair_eq e1, asPairs_eq e2]
    rfl
theorem asPairs_of (ps : List SP) : asPairs (ps.map pairD) = some ps := by
  induction ps with
  | nil => rfl
  | cons p ps ih => simp [asPairs, ih, pairD, asPair]
def sortQD : List (Nat × D) → Option (List D)
  | [(n, .lst ds)] => if n ≤ 1 then (asPairs ds).map fun ps => (sortP ps).map pairD else none
  | _ => none
theorem reps_zip {K : PySem.W.Frag} {S : Own} {H : Hp} : ∀ {zs : List (V × SP)}, (∀ z ∈ zs, Rep K S H z.1 (pairD z.2)) → Reps K S H (zs.map (·.1)) ((zs.map (·.2)).map pairD)
  | [], _ => .nil
  | _ :: _, h => .cons (h _ List.mem_cons_self) (reps_zip fun z hz => h z (List.mem_cons_of_mem _ hz))
theorem mem_zip_reps {K : PySem.W.Frag} {S : Own} {H : Hp} : ∀ {xs : List V} {ps : List SP}, Reps K S H xs (ps.map pairD) → ∀ z ∈ xs.zip ps, Rep K S H z.1 (pairD z.2)
  | _, [], .nil, _, hz => by simp at hz
  | _, _ :: _, .cons r q, z, hz => by
    rw [List.zip_cons_cons] at hz
    rcases List.mem_cons.mp hz with rfl | hz
    · exact r
    · exact mem_zip_reps q z hz
theorem bul_sortQ {K : PySem.W.Frag} : BuL K (rSortQ K) sortQD := by
  intro S H vs as d Q sd av e k
  unfold sortQD at e
  split at e
  case h_2 => cases e
  case h_1 n ds =>
  split at e
  case isFalse => cases e
  case isTrue hn =>
  obtain ⟨ps, e1, rfl⟩ := Option.map_eq_some_iff.mp e
  have := asPairs_eq e1
  subst this
  cases av with
  | cons a t =>
  cases t
  obtain ⟨l, ws, F, rfl, sq, al, _⟩ := a.list
  have rp : Reps K S H ws (ps.map pairD) := al.reps hn
  refine ⟨l, ws, ps, rfl, sq, by simpa using rp.length, fun i h1 h2 => ?_, fun zs p pm sm hp => ?_⟩
  · obtain ⟨v, ev, r⟩ := rp.get (i := i) (d := pairD ps[i]) (by simp [h2])
    rw [List.getElem?_eq_getElem h1] at ev
    have ev := Option.some.inj ev
    subst ev
    unfold pairD at r
    generalize ws[i] = z at r
    cases r with
    | tup l q =>
    cases q with
    | cons a1 b1 =>
    cases a1
    cases b1 with
    | cons a2 b2 =>
    cases a2
    cases b2
    exact ⟨_, rfl, l.sq⟩
  · have rz : Reps K S H (zs.map (·.1)) ((zs.map (·.2)).map pairD) := reps_zip fun z hz => mem_zip_reps rp z (pm.mem_iff.mp hz)
    rw [sm] at rz
    exact k p _ hp rz

/-! ## a test within a scope -/
def bScope (is : List Nat) (f : EM Bool) : EM Bool := fun ρ => match f (toVal is ρ) with
  | .ok b _ => .ok b ρ
  | _ => .bad
theorem b_scope {X : Cx} {W : WX} (is : List Nat) {e : Expr} {f : EM Bool} (h : PT X e (tB' X.K X.mg W true f)) : PT X e (tB' X.K X.mg W true (bScope is f)) := ptI h fun σ H Q h => by
  obtain ⟨C, ρ, S, ⟨fps, sim⟩, h⟩ := h
  obtain ⟨C', S', s'⟩ := scope_sim is sim
  refine ⟨C', toVal is ρ, S', s', ?_⟩
  unfold bScope at h
  cases ef : f (toVal is ρ) with
  | err x ρ1 => rw [ef] at h; exact h.elim
  | bad => rw [ef] at h; exact h.elim
  | ok b ρ1 =>
  rw [ef] at h
  intro S1 H1 s1 m1 c1
  obtain ⟨rfl, sm⟩ := m1.2 rfl
  exact h S H1 ⟨fps, sim.same sm⟩ (.same sm) fun _ => rfl
end VL

namespace VL
open PySem PySem.Spec
open L2 (Key)
theorem size_big {n : Nat} (h : n < 100000) : n < sizeLine := by
  have : sizeLine = 16777216 := sizeLine_eq
  omega
abbrev Tb (α : Type) := List (Str × α)
def enc {α : Type} (f : α → D) (l : Tb α) : List (Key × D) := l.map fun p => (.inr p.1, f p.2)
def look {α : Type} (l : Tb α) (n : Str) : Option α := (l.find? fun p => decide (p.1 = n)).map (·.2)
def has {α : Type} (l : Tb α) (n : Str) : Bool := l.any fun p => decide (p.1 = n)
def put {α : Type} (l : Tb α) (n : Str) (e : α) : Tb α := if has l n = true then l.map (fun p => if p.1 = n then (p.1, e) else p) else l ++ [(n, e)]
def dropT {α : Type} (l : Tb α) (n : Str) : Tb α := l.filter fun p => decide (p.1 ≠ n)
def modT {α : Type} : Tb α → Str → α → Tb α
  | [], _, _ => []
  | (k', x) :: r, k, d => if k' = k then (k', d) :: r else (k', x) :: modT r k d
def names {α : Type} (l : Tb α) : List Str := l.map (·.1)
def tD (t : Tb D) : D := .dic (enc id t)
def hD (h : Tb (Tb D)) : D := .dic (enc tD h)
section
variable {α : Type} {f : α → D} {l r : Tb α} {n k : Str} {e : α}
theorem val_enc : valD (enc f l) (.inr n) = (look l n).map f := by
  unfold valD enc look
  induction l with
  | nil => rfl
  | cons p l ih =>
    simp only [List.map_cons, List.find?_cons]
    by_cases h : p.1 = n
    · simp [h]
    · simpa [h] using ih
theorem has_enc : hasD (enc f l) (.inr n) = has l n := by
  unfold hasD enc has
  induction l with
  | nil => rfl
  | cons p l ih => simp [ih]
theorem put_enc : putD (enc f l) (.inr n) (f e) = enc f (put l n e) := by
  unfold putD put
  rw [has_enc]
  split
  · unfold enc
    rw [List.map_map, List.map_map]
    apply List.map_congr_left
    intro p _
    simp only [Function.comp]
    by_cases h : p.1 = n
    · simp [h]
    · simp [h]
  · simp [enc]
theorem drop_enc : dropD (enc f l) (.inr n) = enc f (dropT l n) := by
  unfold dropD dropT enc
  rw [List.filter_map]
  congr 1
  apply List.filter_congr
  intro p _
  simp
theorem mod_enc : modD (enc f l) (.inr n) (f e) = enc f (modT l n e) := by
  induction l with
  | nil => rfl
  | cons p l ih =>
    obtain ⟨a, b⟩ := p
    simp only [enc, List.map_cons, modD, modT] at ih ⊢
    by_cases h : a = n
    · simp [h]
    · simp [h]; exact ih
theorem len_enc : (enc f l).length = l.length := by simp [enc]
theorem keys_enc : (enc f l).map (fun kd => keyD kd.1) = (names l).map .str := by simp [enc, names, keyD]
theorem look_none : look l n = none ↔ n ∉ names l := by
  unfold look names
  simp [List.find?_eq_none]
  exact ⟨fun h x hx => h n x hx rfl, fun h a b hx e => h b (e ▸ hx)⟩
theorem has_iff : has l n = true ↔ n ∈ names l := by
  unfold has names
  simp
theorem has_false : has l n = false ↔ n ∉ names l := by
  rw [← has_iff]; simp
theorem look_mem (nd : (names l).Nodup) (h : (n, e) ∈ l) : look l n = some e := by
  induction l with
  | nil => cases h
  | cons p l ih =>
    obtain ⟨a, b⟩ := p
    unfold look
    rw [List.find?_cons]
    simp only [names, List.map_cons, List.nodup_cons] at nd
    by_cases q : a = n
    · subst q
      rcases List.mem_cons.mp h with h | h
      · cases h; simp
      · exact absurd (List.mem_map.mpr ⟨_, h, rfl⟩) nd.1
    · simp [q]
      rcases List.mem_cons.mp h with h | h
      · cases h; exact absurd rfl q
      · have := ih nd.2 h
        unfold look at this
        simpa using this
theorem look_some (h : look l n = some e) : (n, e) ∈ l := by
  unfold look at h
  obtain ⟨p, h1, h2⟩ := Option.map_eq_some_iff.mp h
  have := List.find?_some h1
  simp at this
  obtain ⟨a, b⟩ := p
  simp at this h2
  subst this h2
  exact List.mem_of_find?_eq_some h1
theorem look_snoc (h : n ∉ names l) : look (l ++ [(n, e)]) n = some e := by
  have h1 := look_none.mpr h
  unfold look at h1 ⊢
  rw [List.find?_append]
  simp at h1
  rw [List.find?_eq_none.mpr (by simpa using h1)]
  simp
theorem mod_snoc {e' : α} (h : n ∉ names l) : modT (l ++ [(n, e)]) n e' = l ++ [(n, e')] := by
  induction l with
  | nil => simp [modT]
  | cons p l ih =>
    obtain ⟨a, b⟩ := p
    simp only [names, List.map_cons, List.mem_cons, not_or] at h
    simp only [List.cons_append, modT]
    rw [if_neg (fun q => h.1 q.symm), ih h.2]
theorem put_new (h : n ∉ names l) : put l n e = l ++ [(n, e)] := by
  unfold put
  rw [if_neg (by rw [has_iff]; exact h)]
end
theorem sortS_perm (l : List Str) : (sortS l).Perm l := List.mergeSort_perm l sLe
theorem forL_fun {α : Type} {fg : List Nat} {tg : D → SM} {body : SM} (c : α → D) (st : List α → En) (xs : List α)
    (h : ∀ done x rest, xs = done ++ x :: rest → ∃ ρ2, andS (tg (c x) (st done)) body = .nx ρ2 ∧ forget fg ρ2 = st (done ++ [x])) : forL fg tg body (xs.map c) (st []) = .nx (st xs) := by
  have go : ∀ rest done, xs = done ++ rest → forL fg tg body (rest.map c) (st done) = .nx (st xs) := by
    intro rest
    induction rest with
    | nil => intro done e; rw [List.append_nil] at e; subst e; rfl
    | cons x rest ih =>
      intro done e
      obtain ⟨ρ2, e1, e2⟩ := h done x rest e
      have e3 := ih (done ++ [x]) (by rw [e]; simp)
      rw [← e2] at e3
      rw [List.map_cons]
      unfold forL
      cases et : tg (c x) (st done) with
      | nx ρ1 =>
        rw [et] at e1
        have e1 : body ρ1 = .nx ρ2 := e1
        dsimp only
        rw [e1]
        exact e3
      | rt n x ρ1 => rw [et] at e1; cases e1
      | bk ρ1 => rw [et] at e1; cases e1
      | ct ρ1 => rw [et] at e1; cases e1
      | err x ρ1 => rw [et] at e1; cases e1
      | bad => rw [et] at e1; cases e1
  exact go xs [] rfl
theorem asStrs_map (l : List Str) : asStrs (l.map .str) = some l := by
  induction l with
  | nil => rfl
  | cons s l ih => simp [asStrs, ih]
theorem sorted_dic {t : Tb D} (n : Nat) (h : t.length < 64) : sortedD [(n, tD t)] = some ((sortS (names t)).map .str) := by
  unfold sortedD tD
  dsimp only
  rw [keys_enc]
  unfold sortDs
  rw [if_pos (by simpa [names] using h), asStrs_map]
theorem val_tD {t : Tb D} {n : Str} {x : D} (e : look t n = some x) : valD (enc id t) (.inr n) = some x := by rw [val_enc, e]; rfl
@[simp] theorem keyOf_str (s : Str) : keyOf (.str s) = some (.inr s) := rfl
@[simp] theorem ixD_tD {t : Tb D} {k : Str} : ixD (tD t) (.str k) = valD (enc id t) (.inr k) := rfl
theorem size_64 {n : Nat} (h : n < 64) : n < sizeLine := size_big (by omega)
@[simp] theorem ap_raise {c : Str} {fs : List Str} {f : EM (List D)} {ρ : En} : sRaise c fs f ρ = bndS (f ρ) fun ds ρ1 => if ds.length = fs.length then .err ⟨c, (fs.zip ds).reverse⟩ ρ1 else .bad := rfl
theorem look_isSome {α : Type} {l : Tb α} {n : Str} : (look l n).isSome = has l n := by
  cases e : look l n with
  | none => exact (has_false.mpr (look_none.mp e)).symm
  | some x => exact (has_iff.mpr (List.mem_map.mpr ⟨_, look_some e, rfl⟩)).symm
@[simp] theorem in_tD {neg : Bool} {n m : Nat} {s : Str} {t : Tb D} : inD neg n (.str s) m (tD t) = some (.bl (neg != has t s)) := by
  unfold inD tD
  simp [val_enc, look_isSome]
theorem has_look {α : Type} {l : Tb α} {k : Str} {t : α} (e : look l k = some t) : has l k = true := by
  rw [has_iff]
  exact List.mem_map.mpr ⟨_, look_some e, rfl⟩
@[simp] theorem flat_non : D.flat .non = true := rfl
@[simp] theorem flat_str {s : Str} : D.flat (.str s) = true := rfl
@[simp] theorem flat_bl {s : Bool} : D.flat (.bl s) = true := rfl
theorem put_tD {t : Tb D} {n : Str} {e : D} (hl : t.length < 64) : putC 0 (.str n) e (tD t) = some (tD (put t n e)) := by
  unfold tD putC
  simp only [keyOf_str, Option.bind_some]
  rw [if_pos ⟨by rw [len_enc]; exact size_64 hl, by simp⟩, show e = id e from rfl, put_enc]
  rfl
theorem look_of_mem {α : Type} {t : Tb α} {n : Str} (h : n ∈ names t) : ∃ x, look t n = some x := by
  cases e : look t n with
  | none => exact absurd h (look_none.mp e)
  | some x => exact ⟨x, rfl⟩
theorem forL_pre {α : Type} {fg : List Nat} {tg : D → SM} {body : SM} (c : α → D) (st : List α → En) (xs : List α) (ys : List D)
    (h : ∀ done x rest, xs = done ++ x :: rest → ∃ ρ2, andS (tg (c x) (st done)) body = .nx ρ2 ∧ forget fg ρ2 = st (done ++ [x])) : forL fg tg body (xs.map c ++ ys) (st []) = forL fg tg body ys (st xs) := by
  have go : ∀ rest done, xs = done ++ rest → forL fg tg body (rest.map c ++ ys) (st done) = forL fg tg body ys (st xs) := by
    intro rest
    induction rest with
    | nil => intro done e; rw [List.append_nil] at e; subst e; rfl
    | cons x rest ih =>
      intro done e
      obtain ⟨ρ2, e1, e2⟩ := h done x rest e
      have e3 := ih (done ++ [x]) (by rw [e]; simp)
      rw [← e2] at e3
      rw [List.map_cons, List.cons_append]
      rw [forL]
      cases et : tg (c x) (st done) with
      | nx ρ1 =>
        rw [et] at e1
        have e1 : body ρ1 = .nx ρ2 := e1
        dsimp only
        rw [e1]
        exact e3
      | rt n x ρ1 => rw [et] at e1; cases e1
      | bk ρ1 => rw [et] at e1; cases e1
      | ct ρ1 => rw [et] at e1; cases e1
      | err x ρ1 => rw [et] at e1; cases e1
      | bad => rw [et] at e1; cases e1
  exact go xs [] rfl
theorem forL_stop {fg : List Nat} {tg : D → SM} {body : SM} {d : D} {ys : List D} {ρ ρ1 ρ2 : En} {x : Ex} (h1 : tg d ρ = .nx ρ1) (h2 : body ρ1 = .err x ρ2) : forL fg tg body (d :: ys) ρ = .err x ρ2 := by
  rw [forL, h1]
  dsimp only
  rw [h2]
section
variable {α : Type} {l : Tb α} {k n : Str} {t t' t0 : α}
theorem names_mod : names (modT l k t) = names l := by
  induction l with
  | nil => rfl
  | cons p l ih =>
    obtain ⟨a, b⟩ := p
    unfold modT
    split
    · rfl
    · simp only [names, List.map_cons] at ih ⊢
      rw [ih]
theorem look_mod (h : look l k = some t0) : look (modT l k t) k = some t := by
  induction l with
  | nil => simp [look] at h
  | cons p l ih =>
    obtain ⟨a, b⟩ := p
    unfold modT
    by_cases q : a = k
    · subst q; simp [look]
    · rw [if_neg q]
      have h' : look l k = some t0 := by simpa [look, q] using h
      have := ih h'
      simpa [look, q] using this
theorem look_mod_ne (hn : n ≠ k) : look (modT l k t) n = look l n := by
  induction l with
  | nil => rfl
  | cons p l ih =>
    obtain ⟨a, b⟩ := p
    unfold modT
    by_cases q : a = k
    · subst q
      have : ¬ a = n := fun z => hn z.symm
      simp [look, this]
    · rw [if_neg q]
      by_cases q2 : a = n
      · simp [look, q2]
      · simpa [look, q2] using ih
theorem mod_mod : modT (modT l k t) k t' = modT l k t' := by
  induction l with
  | nil => rfl
  | cons p l ih =>
    obtain ⟨a, b⟩ := p
    by_cases q : a = k
    · simp [modT, q]
    · simp [modT, q, ih]
theorem mod_self (h : look l k = some t) : modT l k t = l := by
  induction l with
  | nil => rfl
  | cons p l ih =>
    obtain ⟨a, b⟩ := p
    by_cases q : a = k
    · have : b = t := by simpa [look, q] using h
      simp [modT, q, this]
    · have h' : look l k = some t := by simpa [look, q] using h
      simp [modT, q, ih h']
theorem look_put : look (put l k t) n = if n = k then some t else look l n := by
  unfold put
  by_cases hh : has l k = true
  · rw [if_pos hh]
    by_cases q : n = k
    · subst q
      rw [if_pos rfl]
      rw [has_iff] at hh
      induction l with
      | nil => simp [names] at hh
      | cons p l ih =>
        obtain ⟨a, b⟩ := p
        by_cases q2 : a = n
        · simp [look, q2]
        · have : n ∈ names l := by
            rcases List.mem_cons.mp hh with z | z
            · exact absurd z.symm q2
            · exact z
          have := ih this
          simpa [look, q2] using this
    · rw [if_neg q]
      clear hh
      induction l with
      | nil => rfl
      | cons p l ih =>
        obtain ⟨a, b⟩ := p
        by_cases q2 : a = n
        · have : ¬ a = k := fun z => q (q2.symm.trans z)
          simp [look, q2, q]
        · by_cases q3 : a = k
          · have : ¬ k = n := fun z => q z.symm
            simpa [look, q2, q3, this] using ih
          · simpa [look, q2, q3] using ih
  · rw [if_neg hh]
    have hk : k ∉ names l := by rw [has_iff] at hh; exact hh
    by_cases q : n = k
    · subst q
      rw [if_pos rfl]
      exact look_snoc hk
    · rw [if_neg q]
      unfold look
      rw [List.find?_append]
      have : ¬ k = n := fun z => q z.symm
      cases e : l.find? fun p => decide (p.1 = n) <;> simp [this]
theorem look_drop : look (dropT l k) n = if n = k then none else look l n := by
  unfold dropT
  induction l with
  | nil => simp [look]
  | cons p l ih =>
    obtain ⟨a, b⟩ := p
    by_cases q2 : a = k
    · by_cases q : n = k
      · simpa [q2, q] using ih
      · have : ¬ k = n := fun z => q z.symm
        rw [List.filter_cons]
        simp only [q2, ne_eq, not_true_eq_false, decide_false, Bool.false_eq_true, if_false]
        rw [ih]
        simp [look, this, q]
    · rw [List.filter_cons]
      simp only [ne_eq, q2, not_false_eq_true, decide_true, if_true]
      by_cases q3 : a = n
      · have : ¬ n = k := fun z => q2 (q3.trans z)
        simp [look, q3, this]
      · have e1 : ∀ m : Tb α, look ((a, b) :: m) n = look m n := fun m => by simp [look, q3]
        rw [e1, e1]
        exact ih
theorem names_put_nd (nd : (names l).Nodup) : (names (put l k t)).Nodup := by
  unfold put
  split
  · have : names (l.map fun p => if p.1 = k then (p.1, t) else p) = names l := by
      unfold names
      rw [List.map_map]
      apply List.map_congr_left
      intro p _
      simp only [Function.comp]
      split <;> rfl
    rw [this]
    exact nd
  · rename_i hh
    have hk : k ∉ names l := by rw [has_iff] at hh; exact hh
    unfold names at *
    rw [List.map_append]
    refine List.nodup_append.mpr ⟨nd, by simp, fun a ha b hb z => ?_⟩
    simp at hb
    subst hb
    exact hk (z ▸ ha)
theorem names_drop_nd (nd : (names l).Nodup) : (names (dropT l k)).Nodup := by
  unfold names dropT at *
  exact nd.sublist (List.Sublist.map _ List.filter_sublist)
theorem mem_names_put (h : n ∈ names (put l k t)) : n = k ∨ n ∈ names l := by
  by_cases q : n = k
  · exact .inl q
  · right
    obtain ⟨x, e⟩ := look_of_mem h
    rw [look_put, if_neg q] at e
    exact List.mem_map.mpr ⟨_, look_some e, rfl⟩
theorem mem_names_drop (h : n ∈ names (dropT l k)) : n ∈ names l := by
  obtain ⟨x, e⟩ := look_of_mem h
  rw [look_drop] at e
  split at e
  · cases e
  · exact List.mem_map.mpr ⟨_, look_some e, rfl⟩
end
theorem few_of : ∀ {l m : List Str}, l.Nodup → (∀ n ∈ l, n ∈ m) → l.length ≤ m.length
  | [], m, _, _ => Nat.zero_le _
  | x :: l, m, nd, sub => by
    rw [List.nodup_cons] at nd
    have hx := sub x List.mem_cons_self
    have := few_of (l := l) (m := m.erase x) nd.2 fun n hn => (List.mem_erase_of_ne (fun (z : n = x) => nd.1 (by rw [← z]; exact hn))).mpr (sub n (List.mem_cons_of_mem _ hn))
    rw [List.length_erase_of_mem hx] at this
    have h1 : 0 < m.length := List.length_pos_of_mem hx
    simp
    omega
mutual
theorem eqv_self : ∀ p : PyData, p.canLay0 = true → PyData.eqv p p = true
  | .none, _ => rfl
  | .bool b, _ => by simp [PyData.eqv]
  | .int i, _ => by simp [PyData.eqv]
  | .str x, _ => by simp [PyData.eqv]
  | .list xs, h => by
    unfold PyData.eqv
    exact eqvAll_self xs (by simpa [PyData.canLay0] using h)
  | .tuple xs, h => by
    unfold PyData.eqv
    exact eqvAll_self xs (by simpa [PyData.canLay0] using h)
  | .dict _, h => by simp [PyData.canLay0] at h
theorem eqvAll_self : ∀ xs : List PyData, PyData.canLayAll0 xs = true → PyData.eqvAll xs xs = true
  | [], _ => rfl
  | x :: xs, h => by
    simp only [PyData.canLayAll0, Bool.and_eq_true] at h
    unfold PyData.eqvAll
    rw [eqv_self x h.1, eqvAll_self xs h.2]
    rfl
end
/-- d is data without dicts, at most k deep -/
def Cm (k : Nat) (d : D) : Prop := ∃ p, toPy d = some p ∧ p.canLay0 = true ∧ p.depth ≤ k
theorem Cm.int {k : Nat} (i : Int) : Cm k (.int i) := ⟨_, rfl, rfl, by simp [PyData.depth]⟩
theorem Cm.bl {k : Nat} (i : Bool) : Cm k (.bl i) := ⟨_, rfl, rfl, by simp [PyData.depth]⟩
theorem Cm.non {k : Nat} : Cm k .non := ⟨_, rfl, rfl, by simp [PyData.depth]⟩
theorem Cm.str {k : Nat} {s : Str} (h : PyData.strOk s = true) : Cm k (.str s) := ⟨_, rfl, by simpa [PyData.canLay0] using h, by simp [PyData.depth]⟩
theorem Cm.all {k : Nat} : ∀ {ds : List D}, (∀ d ∈ ds, Cm k d) → ∃ ps, toPys ds = some ps ∧ PyData.canLayAll0 ps = true ∧ PyData.depthAll ps ≤ k
  | [], _ => ⟨[], rfl, rfl, by simp [PyData.depthAll]⟩
  | d :: ds, h => by
    obtain ⟨p, e1, h1, h2⟩ := h d List.mem_cons_self
    obtain ⟨ps, e2, h3, h4⟩ := Cm.all fun x hx => h x (List.mem_cons_of_mem _ hx)
    exact ⟨p :: ps, by simp [toPys, e1, e2], by simp [PyData.canLayAll0, h1, h3], by simp [PyData.depthAll]; omega⟩
theorem Cm.tup {k : Nat} {ds : List D} (h : ∀ d ∈ ds, Cm k d) : Cm (k + 1) (.tup ds) := by
  obtain ⟨ps, e, h1, h2⟩ := Cm.all h
  exact ⟨.tuple ps, by simp [toPy, e], by simpa [PyData.canLay0] using h1, by simp [PyData.depth]; omega⟩
theorem Cm.lst {k : Nat} {ds : List D} (h : ∀ d ∈ ds, Cm k d) : Cm (k + 1) (.lst ds) := by
  obtain ⟨ps, e, h1, h2⟩ := Cm.all h
  exact ⟨.list ps, by simp [toPy, e], by simpa [PyData.canLay0] using h1, by simp [PyData.depth]; omega⟩
theorem Cm.mono {k m : Nat} {d : D} (h : Cm k d) (hk : k ≤ m) : Cm m d := by
  obtain ⟨p, a, b, c⟩ := h
  exact ⟨p, a, b, by omega⟩
theorem Cm.eqP {k : Nat} {d : D} (h : Cm k d) (hk : k ≤ 64) : eqP d d = some true := by
  obtain ⟨p, a, b, c⟩ := h
  have s : SeqAt.shaped p = true := by unfold SeqAt.shaped; simp [b]; omega
  unfold VL.eqP
  simp [a, s, eqv_self p b]
theorem Cm.nd {k : Nat} {d : D} (h : Cm k d) : ∀ ks, d ≠ .dic ks := fun ks e => by
  subst e
  obtain ⟨p, a, _⟩ := h
  simp [toPy] at a
theorem Cm.eq {k : Nat} {d : D} (h : Cm k d) (hk : k ≤ 64) (n m : Nat) : eqD n d m d = some (.bl true) := by
  have e := h.eqP hk
  have nd := h.nd
  cases d with
  | dic ks => exact absurd rfl (nd ks)
  | _ => simp [eqD, e]
theorem Cm.ne {k : Nat} {d : D} (h : Cm k d) (hk : k ≤ 64) (n m : Nat) : neD n d m d = some (.bl false) := by
  unfold neD
  rw [h.eq hk]
  rfl
theorem strs_ok {l : List Str} (h : ∀ s ∈ l, PyData.strOk s = true) : Cm 2 (.lst (l.map .str)) := Cm.lst (k := 1) fun d hd => by
  obtain ⟨s, hs, rfl⟩ := List.mem_map.mp hd
  exact Cm.str (h s hs)
def isiR (T : String) (d : D) (ρ : En) : R En (Nat × D) := if isScr d = true then .bad else match L2.kitB (tyName d) T with | some b => .ok (0, .bl b) ρ | none => .bad
theorem ap_isi {T : String} {f : EM (Nat × D)} {ρ : En} : eIsi T f ρ = bnd (f ρ) fun a ρ1 => isiR T a.2 ρ1 := rfl
theorem isi_dict {ks : List (Key × D)} {ρ : En} : isiR "dict" (.dic ks) ρ = .ok (0, .bl true) ρ := by
  have : L2.kitB "dict" "dict" = some true := by decide +kernel
  simp [isiR, isScr, tyName, this]
theorem isi_tup {ks : List D} {ρ : En} : isiR "tuple" (.tup ks) ρ = .ok (0, .bl true) ρ := by
  have : L2.kitB "tuple" "tuple" = some true := by decide +kernel
  simp [isiR, isScr, tyName, this]
theorem isi_lst {ks : List D} {ρ : En} : isiR "list" (.lst ks) ρ = .ok (0, .bl true) ρ := by
  have : L2.kitB "list" "list" = some true := by decide +kernel
  simp [isiR, isScr, tyName, this]
def Sh (n : Nat) (s : Str) : Prop := PyData.strOk s = true ∧ s.length ≤ n
theorem Sh.mono {a b : Nat} {s : Str} (h : Sh a s) (hb : a ≤ b) : Sh b s := ⟨h.1, Nat.le_trans h.2 hb⟩
theorem Sh.app {a b : Nat} {s t : Str} (h : Sh a s) (g : Sh b t) : Sh (a + b) (s ++ t) := by
  refine ⟨?_, by rw [strLen_append]; exact Nat.add_le_add h.2 g.2⟩
  have e : (s ++ t).cps = s.cps ++ t.cps := rfl
  have h1 := h.1
  have g1 := g.1
  unfold PyData.strOk at h1 g1 ⊢
  rw [e, Array.all_append, h1, g1]
  rfl
theorem Sh.comma : Sh 2 (", " : String) := ⟨by decide +kernel, by decide +kernel⟩
theorem Sh.join {n : Nat} : ∀ {ts : List Str}, (∀ t ∈ ts, Sh n t) → Sh (ts.length * (n + 2)) (Str.join ", " ts)
  | [], _ => ⟨by decide +kernel, by show 0 ≤ _; exact Nat.zero_le _⟩
  | [x], h => (h x List.mem_cons_self).mono (by simp)
  | x :: y :: r, h => by
    have ih := Sh.join (ts := y :: r) fun t ht => h t (List.mem_cons_of_mem _ ht)
    have a := ((h x List.mem_cons_self).app Sh.comma).app ih
    refine Sh.mono (a := n + 2 + (y :: r).length * (n + 2)) a ?_
    rw [List.length_cons (a := x), Nat.add_mul, Nat.one_mul]
    omega
theorem Sh.textFrom {n : Nat} : ∀ {ts : List Str} {k a : Nat} {acc : Str}, Sh a acc → (∀ t ∈ ts, Sh n t) → Sh (a + ts.length * (n + 2)) (textFrom k acc ts)
  | [], k, a, acc, h, _ => h.mono (by omega)
  | t :: r, k, a, acc, h, hs => by
    have e : Sh 2 ((if k > 0 then ", " else "" : String) : Str) := by
      split
      · exact Sh.comma
      · exact ⟨by decide +kernel, by decide +kernel⟩
    have ih := Sh.textFrom (ts := r) (k := k + 1) ((h.app e).app (hs t List.mem_cons_self)) fun u hu => hs u (List.mem_cons_of_mem _ hu)
    refine Sh.mono (a := a + 2 + n + r.length * (n + 2)) ih ?_
    rw [List.length_cons, Nat.add_mul, Nat.one_mul]
    omega
theorem Sh.list {n : Nat} {ts : List Str} (h : ∀ t ∈ ts, Sh n t) : Sh (ts.length * (n + 2) + 3) (listText ts) :=
  Sh.mono (a := 1 + ts.length * (n + 2) + 1) (Sh.app (Sh.textFrom (k := 0) (a := 1) (acc := "[") ⟨by decide +kernel, by decide +kernel⟩ h) (t := ("]" : String)) ⟨by decide +kernel, by decide +kernel⟩) (by omega)
theorem Sh.tuple {n : Nat} {ts : List Str} (h : ∀ t ∈ ts, Sh n t) : Sh (ts.length * (n + 2) + 3) (tupleText ts) := by
  have e : Sh 2 ((if ts.length == 1 then ",)" else ")" : String) : Str) := by
    split <;> exact ⟨by decide +kernel, by decide +kernel⟩
  have a : Sh 1 (("(" : String) : Str) := ⟨by decide +kernel, by decide +kernel⟩
  exact Sh.mono (a := 1 + ts.length * (n + 2) + 2) ((a.app (Sh.join h)).app e) (by omega)
theorem Sh.dict {n : Nat} {ts : List Str} (h : ∀ t ∈ ts, Sh n t) : Sh (ts.length * (n + 2) + 3) (dictText ts) := by
  have a : Sh 1 (("{" : String) : Str) := ⟨by decide +kernel, by decide +kernel⟩
  have e : Sh 1 (("}" : String) : Str) := ⟨by decide +kernel, by decide +kernel⟩
  exact Sh.mono (a := 1 + ts.length * (n + 2) + 1) ((a.app (Sh.join h)).app e) (by omega)
/-! ## data that repr tells -/
def Wh (q : Bool) (d : D) (pd : PyData) : Prop := if q = true then pd.hasDict = false else noLst d = true
def Rp (q : Bool) (n k : Nat) (d : D) : Prop := ∃ pd, toPyR d = some pd ∧ pd.showable = true ∧ pd.depth ≤ k ∧ Sh n pd.shown ∧ Wh q d pd
theorem Rp.mono {q : Bool} {n m k l : Nat} {d : D} (h : Rp q n k d) (hn : n ≤ m) (hk : k ≤ l) : Rp q m l d := by
  obtain ⟨pd, a, b, c, e, f⟩ := h
  exact ⟨pd, a, b, by omega, e.mono hn, f⟩
theorem Rp.str {q : Bool} {n : Nat} {s : Str} (h : Sh n (reprText s)) : Rp q n 0 (.str s) := ⟨.str s, rfl, rfl, Nat.le_refl _, h, by cases q <;> rfl⟩
theorem small_int {i : Int} (h0 : 0 ≤ i) (h1 : i < 10) : Sh 2 (PyData.shown (.int i)) ∧ (PyData.int i).showable = true := by
  have c : i = 0 ∨ i = 1 ∨ i = 2 ∨ i = 3 ∨ i = 4 ∨ i = 5 ∨ i = 6 ∨ i = 7 ∨ i = 8 ∨ i = 9 := by omega
  rcases c with rfl | rfl | rfl | rfl | rfl | rfl | rfl | rfl | rfl | rfl <;> exact ⟨⟨by decide +kernel, by decide +kernel⟩, by decide +kernel⟩
theorem Rp.int {q : Bool} {i : Int} (h0 : 0 ≤ i) (h1 : i < 10) : Rp q 2 0 (.int i) := ⟨.int i, rfl, (small_int h0 h1).2, Nat.le_refl _, (small_int h0 h1).1, by cases q <;> rfl⟩
theorem Rp.all {q : Bool} {n k : Nat} : ∀ {ds : List D}, (∀ d ∈ ds, Rp q n k d) → ∃ ps, toPyRs ds = some ps ∧ PyData.showableAll ps = true ∧ PyData.depthAll ps ≤ k ∧ (∀ t ∈ PyData.shownAll ps, Sh n t) ∧ (PyData.shownAll ps).length = ds.length ∧ (if q = true then PyData.hasDictAll ps = false else noLsts ds = true)
  | [], _ => ⟨[], rfl, rfl, Nat.zero_le _, fun _ z => (nomatch z), rfl, by cases q <;> rfl⟩
  | d :: ds, h => by
    obtain ⟨p, e1, a1, a2, a3, a4⟩ := h d List.mem_cons_self
    obtain ⟨ps, e2, b1, b2, b3, b4, b5⟩ := Rp.all fun x hx => h x (List.mem_cons_of_mem _ hx)
    refine ⟨p :: ps, by simp [toPyRs, e1, e2], by simp [PyData.showableAll, a1, b1], by simp [PyData.depthAll]; omega, fun t ht => ?_, by simp [PyData.shownAll, b4], ?_⟩
    · simp only [PyData.shownAll] at ht
      rcases List.mem_cons.mp ht with rfl | z
      · exact a3
      · exact b3 t z
    · cases q with
      | true =>
        rw [if_pos rfl] at b5 ⊢
        have a4 : p.hasDict = false := a4
        simp [PyData.hasDictAll, a4, b5]
      | false =>
        rw [if_neg Bool.false_ne_true] at b5 ⊢
        have a4 : noLst d = true := a4
        simp [noLsts, a4, b5]
theorem Rp.tup {q : Bool} {n k : Nat} {ds : List D} (h : ∀ d ∈ ds, Rp q n k d) : Rp q (ds.length * (n + 2) + 3) (k + 1) (.tup ds) := by
  obtain ⟨ps, e, b1, b2, b3, b4, b5⟩ := Rp.all h
  refine ⟨.tuple ps, by simp [toPyR, e], by simpa [PyData.showable] using b1, by simp [PyData.depth]; omega, ?_, ?_⟩
  · have := Sh.tuple b3
    rw [b4] at this
    simpa [PyData.shown] using this
  · cases q with
    | true => rw [if_pos rfl] at b5; show PyData.hasDict (.tuple ps) = false; simpa [PyData.hasDict] using b5
    | false => rw [if_neg Bool.false_ne_true] at b5; show noLst (.tup ds) = true; simpa [noLst] using b5
theorem Rp.lst {n k : Nat} {ds : List D} (h : ∀ d ∈ ds, Rp true n k d) : Rp true (ds.length * (n + 2) + 3) (k + 1) (.lst ds) := by
  obtain ⟨ps, e, b1, b2, b3, b4, b5⟩ := Rp.all h
  refine ⟨.list ps, by simp [toPyR, e], by simpa [PyData.showable] using b1, by simp [PyData.depth]; omega, ?_, ?_⟩
  · have := Sh.list b3
    rw [b4] at this
    simpa [PyData.shown] using this
  · rw [if_pos rfl] at b5; show PyData.hasDict (.list ps) = false; simpa [PyData.hasDict] using b5
theorem Rp.kvs {α : Type} {f : α → D} {m n k : Nat} : ∀ {l : Tb α}, (∀ p ∈ l, Sh m (reprText p.1) ∧ Rp false n k (f p.2)) → ∃ ps, toPyRk (enc f l) = some ps ∧ PyData.showableKv ps = true ∧ PyData.depthKv ps ≤ k ∧ (∀ t ∈ PyData.shownKv ps, Sh (m + 2 + n) t) ∧ (PyData.shownKv ps).length = l.length ∧ noLstk (enc f l) = true
  | [], _ => ⟨[], rfl, rfl, Nat.zero_le _, fun _ z => (nomatch z), rfl, rfl⟩
  | p :: l, h => by
    obtain ⟨hs, pd, e1, a1, a2, a3, a4⟩ := h p List.mem_cons_self
    obtain ⟨ps, e2, b1, b2, b3, b4, b5⟩ := Rp.kvs (f := f) fun x hx => h x (List.mem_cons_of_mem _ hx)
    have a4 : noLst (f p.2) = true := a4
    have ee : enc f (p :: l) = (.inr p.1, f p.2) :: enc f l := rfl
    rw [ee]
    refine ⟨(.str p.1, pd) :: ps, by simp [toPyRk, e1, e2, pyKey], by simp [PyData.showableKv, a1, b1, PyData.showable], by simp [PyData.depthKv, PyData.depth]; omega, fun t ht => ?_, by simp [PyData.shownKv, b4], by simp [noLstk, a4, b5]⟩
    simp only [PyData.shownKv] at ht
    rcases List.mem_cons.mp ht with rfl | z
    · have s2 : Sh 2 ((": " : String) : Str) := ⟨by decide +kernel, by decide +kernel⟩
      exact (hs.app s2).app a3
    · exact b3 t z
theorem Rp.dic {α : Type} {f : α → D} {m n k : Nat} {l : Tb α} (h : ∀ p ∈ l, Sh m (reprText p.1) ∧ Rp false n k (f p.2)) : Rp false (l.length * (m + 2 + n + 2) + 3) (k + 1) (.dic (enc f l)) := by
  obtain ⟨ps, e, b1, b2, b3, b4, b5⟩ := Rp.kvs h
  refine ⟨.dict ps, by simp [toPyR, e], by simpa [PyData.showable] using b1, by simp [PyData.depth]; omega, ?_, by show noLst (.dic _) = true; simpa [noLst] using b5⟩
  have := Sh.dict b3
  rw [b4] at this
  simpa [PyData.shown] using this
theorem Rp.repr {q : Bool} {n k : Nat} {d : D} (h : Rp q n k d) (hc : isCont d = true) (hn : n ≤ 5000) (hk : k ≤ 60) (i : Nat) : ∃ s, reprD [(i, d)] = some (.str s) ∧ Sh n s := by
  obtain ⟨pd, a, b, c, e, f⟩ := h
  have hz : pd.shown.length ≤ sizeLine := by have := size_big (show 5000 < 100000 by decide); have := e.2; omega
  have hw : noLst d = true ∨ pd.hasDict = false := by
    cases q with
    | true => exact .inr f
    | false => exact .inl f
  exact ⟨pd.shown, by simp [reprD, a, hc, b, hw, hz]; omega, e⟩
theorem seq_nx {a b : SM} {ρ ρ' : En} {r : SR} (h : a ρ = .nx ρ') (k : b ρ' = r) : sSeq a b ρ = r := by
  rw [ap_seq, h]
  exact k
@[simp] theorem ixN'_tD {n : Nat} {t : Tb D} {v : D} : ixN' n (tD t) v = ixD (tD t) v := by cases n <;> rfl
@[simp] theorem ixN'_hD {n : Nat} {t : Tb (Tb D)} {v : D} : ixN' n (hD t) v = ixD (hD t) v := by cases n <;> rfl
theorem two_le : (2 : Nat) ≤ sizeLine := by have := size_64 (show 2 < 64 by decide); omega
theorem zero_le : (0 : Nat) ≤ sizeLine := by have := size_64 (show 0 < 64 by decide); omega
theorem one_le : (1 : Nat) ≤ sizeLine := by have := size_64 (show 1 < 64 by decide); omega
theorem three_le : (3 : Nat) ≤ sizeLine := by have := size_64 (show 3 < 64 by decide); omega
theorem four_le : (4 : Nat) ≤ sizeLine := by have := size_64 (show 4 < 64 by decide); omega
theorem five_le : (5 : Nat) ≤ sizeLine := by have := size_64 (show 5 < 64 by decide); omega
theorem eight_le : (8 : Nat) ≤ sizeLine := by have := size_64 (show 8 < 64 by decide); omega
end VL

namespace VL
open PySem PySem.Spec
open L2 (Key)
/-! ## the newer mirrors, evaluated by simp -/
def ckR (o : Option D) (k : EM Bool) (ρ : En) : R En Bool := match o with | some (.bl true) => k ρ | some (.bl false) => .ok false ρ | _ => .bad
def clsR (o : Option D) (ρ : En) : R En Bool := match o with | some (.bl k) => .ok k ρ | _ => .bad
def truR (o : Option Bool) (ρ : En) : R En Bool := match o with | some b => .ok b ρ | none => .bad
def optK (o : Option (List (Key × D))) (ρ : En) : R En D := match o with | some ds => .ok (.dic ds) ρ | none => .bad
def rng2R (a b : D) (ρ : En) : R En (List D) := match a, b with
  | .int i, .int j => if -(2 ^ 62) ≤ i ∧ i < 2 ^ 62 ∧ -(2 ^ 62) ≤ j ∧ j < 2 ^ 62 then .ok ((List.range (j - i).toNat).map fun t => .int (i + (t : Nat))) ρ else .bad
  | _, _ => .bad
def keyR (o : Option Key) (d : D) (kds : List (Key × D)) (ρ : En) : R En (List (Key × D)) := match o with | some k => .ok ((k, d) :: kds) ρ | none => .bad
def clM (o : Option Bool) (i : Nat) (gx : SM) (r : SM) : SM := fun ρ => match o with
  | some true => if i < ρ.length then sufR i (gx (ρ.set i none)) else .bad
  | some false => r ρ
  | none => .bad
section
variable {ρ : En} {f g k : EM (Nat × D)} {b : Bool} {d : D} {n : Nat}
@[simp] theorem ap_chain {kk : D → EM Bool} : bChain f kk ρ = bnd (f ρ) fun a ρ1 => if a.1 = 0 then kk a.2 ρ1 else .bad := rfl
@[simp] theorem ap_kLink {op : Nat → D → Nat → D → Option D} {kk : D → EM Bool} : kLink op g kk d ρ = bnd (g ρ) fun b ρ1 => if b.1 = 0 then ckR (op 0 d 0 b.2) (kk b.2) ρ1 else .bad := rfl
@[simp] theorem ap_kLast {op : Nat → D → Nat → D → Option D} : kLast op g d ρ = bnd (g ρ) fun b ρ1 => if b.1 = 0 then clsR (op 0 d 0 b.2) ρ1 else .bad := rfl
@[simp] theorem ckR_bl {kk : EM Bool} : ckR (some (.bl b)) kk ρ = if b = true then kk ρ else .ok false ρ := by cases b <;> rfl
@[simp] theorem clsR_bl : clsR (some (.bl b)) ρ = .ok b ρ := rfl
@[simp] theorem ap_tru : bTru f ρ = bnd (f ρ) fun a ρ1 => truR (truD a.2) ρ1 := rfl
@[simp] theorem truR_some : truR (some b) ρ = .ok b ρ := rfl
@[simp] theorem truD_lst {ds : List D} : truD (.lst ds) = some !ds.isEmpty := rfl
@[simp] theorem ap_rng2 : iRange2 f g ρ = bnd (f ρ) fun a ρ1 => bnd (g ρ1) fun b ρ2 => rng2R a.2 b.2 ρ2 := rfl
theorem rng2_ok {i j : Int} (h1 : -1000000 ≤ i) (h2 : i < 1000000) (h3 : -1000000 ≤ j) (h4 : j < 1000000) : rng2R (.int i) (.int j) ρ = .ok ((List.range (j - i).toNat).map fun t => .int (i + (t : Nat))) ρ := by
  unfold rng2R
  simp only
  rw [if_pos (by omega)]
def sgnR (d : D) (ρ : En) : R En (List D) := match d with | .str z => .ok (z.cps.toList.map fun c => .str ⟨#[c]⟩) ρ | _ => .bad
@[simp] theorem ap_sgn : iSgn f ρ = bnd (f ρ) fun a ρ1 => sgnR a.2 ρ1 := rfl
@[simp] theorem ap_get : eGet f g k ρ = bnd (f ρ) fun a ρ1 => getF g k a.1 a.2 ρ1 := rfl
@[simp] theorem getF_dic {ks : List (Key × D)} : getF g k 0 (.dic ks) ρ = bnd (g ρ) fun b ρ1 => bnd (k ρ1) fun c ρ2 => getR ks b c ρ2 := rfl
@[simp] theorem getF_tD {t : Tb D} : getF g k 0 (tD t) ρ = bnd (g ρ) fun b ρ1 => bnd (k ρ1) fun c ρ2 => getR (enc id t) b c ρ2 := rfl
@[simp] theorem getR_str {ks : List (Key × D)} {s : Str} : getR ks (n, .str s) (0, d) ρ = .ok (0, (valD ks (.inr s)).getD d) ρ := rfl
@[simp] theorem getR_tD {t : Tb D} {s : Str} : getR (enc id t) (n, .str s) (0, d) ρ = .ok (0, (look t s).getD d) ρ := by
  show R.ok (0, (valD (enc id t) (.inr s)).getD d) ρ = _
  rw [val_enc]
  cases look t s <;> rfl
theorem val_id {t : Tb D} {s : Str} : valD (enc id t) (.inr s) = look t s := by
  rw [val_enc]
  cases look t s <;> rfl
@[simp] theorem ap_disp {h : EM (List (Key × D))} : nDisp h ρ = bnd (h ρ) fun kds ρ1 => if kds.length ≤ 15 ∧ (kds.map (·.1)).Nodup then .ok (.dic kds) ρ1 else .bad := rfl
@[simp] theorem ap_pNil : pNil ρ = .ok [] ρ := rfl
@[simp] theorem ap_pCons {s : Str} {h : EM D} {h2 : EM (List (Key × D))} : pCons s h h2 ρ = bnd (h ρ) fun d ρ1 => bnd (h2 ρ1) fun kds ρ2 => .ok ((.inr s, d) :: kds) ρ2 := rfl
@[simp] theorem ap_pConsE {h : EM D} {h2 : EM (List (Key × D))} : pConsE f h h2 ρ = bnd (f ρ) fun a ρ0 => bnd (h ρ0) fun d ρ1 => bnd (h2 ρ1) fun kds ρ2 => keyR (keyOf a.2) d kds ρ2 := rfl
@[simp] theorem keyR_some {kk : Key} {kds : List (Key × D)} : keyR (some kk) d kds ρ = .ok ((kk, d) :: kds) ρ := rfl
@[simp] theorem ap_nbuk {op : List (Nat × D) → Option (List (Key × D))} {xs : EM (List ArgD)} : nBuK op xs ρ = bnd (xs ρ) fun as ρ1 => optK ((valsOf as).bind op) ρ1 := rfl
@[simp] theorem optK_some {ds : List (Key × D)} : optK (some ds) ρ = .ok (.dic ds) ρ := rfl
@[simp] theorem ap_unp {is : List Nat} : sUnp is f ρ = bndS (f ρ) fun a ρ1 => if a.1 = 0 then gT is a.2 ρ1 else .bad := rfl
@[simp] theorem gT_tup {is : List Nat} {ds : List D} : gT is (.tup ds) ρ = gNs is ds ρ := rfl
@[simp] theorem gNs_nil : gNs [] [] ρ = .nx ρ := rfl
@[simp] theorem gNs_cons {i : Nat} {is : List Nat} {ds : List D} : gNs (i :: is) (d :: ds) ρ = gNs is ds (ρ.set i (some (.val, d))) := rfl
@[simp] theorem ap_tryC {cs : List Clause} {h : SM} : sTryC cs h ρ = trR cs (h ρ) := rfl
@[simp] theorem trR_nx {cs : List Clause} : trR cs (.nx ρ) = .nx ρ := rfl
@[simp] theorem trR_rt {cs : List Clause} : trR cs (.rt n d ρ) = .rt n d ρ := rfl
@[simp] theorem trR_err {cs : List Clause} {x : Ex} : trR cs (.err x ρ) = clR cs x ρ := rfl
@[simp] theorem clR_cons {cs : List Clause} {x : Ex} {mt : Str → Option Bool} {i : Nat} {gx : Ex → SM} : clR ((mt, i, gx) :: cs) x ρ = clM (mt x.cls) i (gx x) (clR cs x) ρ := by
  unfold clM
  cases e : mt x.cls with
  | none => rw [clR, e]
  | some b => cases b <;> rw [clR, e]
@[simp] theorem clM_f {i : Nat} {gx r : SM} : clM (some false) i gx r ρ = r ρ := rfl
@[simp] theorem clM_t {i : Nat} {gx r : SM} : clM (some true) i gx r ρ = if i < ρ.length then sufR i (gx (ρ.set i none)) else .bad := rfl
@[simp] theorem sufR_rt {i : Nat} : sufR i (.rt n d ρ) = .rt n d ρ := rfl
def exR (c f : Str) (x : Ex) (ρ : En) : R En (Nat × D) := if x.cls = c then (match x.fs.lookup f with | some d => .ok (0, d) ρ | none => .bad) else .bad
theorem ap_exf {c f : Str} {x : Ex} : eXf c f x ρ = exR c f x ρ := rfl
/-- loops whose turns may end by continue -/
theorem forL_gen {α : Type} {fg : List Nat} {tg : D → SM} {body : SM} (c : α → D) (st : List α → En) (xs : List α)
    (h : ∀ done x rest, xs = done ++ x :: rest → ∃ ρ2, (andS (tg (c x) (st done)) body = .nx ρ2 ∨ ∃ ρ1, tg (c x) (st done) = .nx ρ1 ∧ body ρ1 = .ct ρ2) ∧ forget fg ρ2 = st (done ++ [x])) : forL fg tg body (xs.map c) (st []) = .nx (st xs) := by
  have go : ∀ rest done, xs = done ++ rest → forL fg tg body (rest.map c) (st done) = .nx (st xs) := by
    intro rest
    induction rest with
    | nil => intro done e; rw [List.append_nil] at e; subst e; rfl
    | cons x rest ih =>
      intro done e
      obtain ⟨ρ2, e1, e2⟩ := h done x rest e
      have e3 := ih (done ++ [x]) (by rw [e]; simp)
      rw [← e2] at e3
      rw [List.map_cons, forL]
      rcases e1 with e1 | ⟨ρ1, e1, e4⟩
      · cases et : tg (c x) (st done) with
        | nx ρ1 =>
          rw [et] at e1
          have e1 : body ρ1 = .nx ρ2 := e1
          dsimp only
          rw [e1]
          exact e3
        | rt n x ρ1 => rw [et] at e1; cases e1
        | bk ρ1 => rw [et] at e1; cases e1
        | ct ρ1 => rw [et] at e1; cases e1
        | err x ρ1 => rw [et] at e1; cases e1
        | bad => rw [et] at e1; cases e1
      · rw [e1]
        dsimp only
        rw [e4]
        exact e3
  exact go xs [] rfl
end
end VL

namespace VL
open PySem PySem.Spec
open L2 (Key)
def lcR (vs : List Nat) (ρ : En) (r : R En (List D)) : R En D := match r with | .ok xs ρ' => if xs.length ≤ sizeLine then .ok (.lst xs) (restoreV vs ρ ρ') else .bad | _ => .bad
theorem ap_nLc {vs : List Nat} {it : EM (List D)} {tg : D → SM} {c : EM Bool} {e : EM D} {ρ : En} : nLc vs it tg c e ρ = bnd (it ρ) fun ds ρ1 => lcR vs ρ1 (lcL vs tg c e ds (forget vs ρ1)) := by
  unfold nLc
  rw [ap_then]
  congr
/-- a comprehension that leaves the rest as it is -/
theorem lcL_fun {α : Type} {vs : List Nat} {tg : D → SM} {e : EM D} (c : α → D) (g : α → D) (ρ : En) : ∀ (xs : List α), (∀ x ∈ xs, ∃ ρ1 ρ3, tg (c x) ρ = .nx ρ1 ∧ e ρ1 = .ok (g x) ρ3 ∧ forget vs ρ3 = ρ) → lcL vs tg bYes e (xs.map c) ρ = .ok (xs.map g) ρ
  | [], _ => rfl
  | x :: xs, h => by
    obtain ⟨ρ1, ρ3, h1, h2, h3⟩ := h x List.mem_cons_self
    have ih := lcL_fun (vs := vs) (tg := tg) (e := e) c g ρ xs fun y hy => h y (List.mem_cons_of_mem _ hy)
    rw [List.map_cons, lcL, h1]
    dsimp only
    rw [ap_bYes]
    dsimp only
    rw [h2]
    dsimp only
    rw [h3, ih]
    rfl
def tupR (d0 : D) (ds : List D) (ρ : En) : R En D := if ds.length + 1 ≤ sizeLine then .ok (.tup (d0 :: ds)) ρ else .bad
@[simp] theorem ap_nTupO {f0 : EM D} {fs : EM (List D)} {ρ : En} : nTupO f0 fs ρ = bnd (f0 ρ) fun d0 ρ1 => bnd (fs ρ1) fun ds ρ2 => tupR d0 ds ρ2 := rfl
theorem tupR_2 {a b : D} {ρ : En} : tupR a [b] ρ = .ok (.tup [a, b]) ρ := by
  unfold tupR
  rw [if_pos (show [b].length + 1 ≤ sizeLine from two_le)]
def scbR (r : R En Bool) (ρ : En) : R En Bool := match r with
  | .ok b _ => .ok b ρ
  | _ => .bad
theorem ap_bScope {is : List Nat} {f : EM Bool} {ρ : En} : bScope is f ρ = scbR (f (toVal is ρ)) ρ := rfl
theorem scbR_ok {b : Bool} {ρ ρ' : En} : scbR (.ok b ρ') ρ = .ok b ρ := rfl
theorem bools_map (bs : List Bool) : bools (bs.map D.bl) = some bs := by
  induction bs with
  | nil => rfl
  | cons b bs ih => simp [bools, ih]
theorem all_bs (bs : List Bool) : allD false [(0, .lst (bs.map D.bl))] = some (.bl (bs.all id)) := by simp [allD, bools_map]
theorem notB {n m : Nat} {a b : Bool} : dIsB true n (.bl a) m (.bl b) = some (.bl (!decide (a = b))) := by unfold dIsB; simp
theorem sortQ_map (n : Nat) (hn : n ≤ 1) (ps : List SP) : sortQD [(n, .lst (ps.map pairD))] = some ((sortP ps).map pairD) := by simp [sortQD, hn, asPairs_of]
theorem neG_ok {ds es : List D} (h : eqGs 4 ds es = true) : neG 0 (.tup ds) 0 (.tup es) = some (.bl false) := by
  show (if eqGs 4 ds es = true then some (D.bl false) else none) = _
  rw [if_pos h]
end VL


namespace Gk80
open PySem PySem.Spec PyProof.Rows L2 VL
def top (i : Nat) : Stmt := PySem.Challenge.pw_trundleyard_k80_three_way_merges.main.body.getD i (.Pass ⟨0, 0, 0, 0⟩)
def meth (s : Stmt) (i : Nat) : Stmt := match s with
  | .ClassDef _ _ _ b _ _ _ _ _ _ _ => b.getD i (.Pass ⟨0, 0, 0, 0⟩)
  | _ => .Pass ⟨0, 0, 0, 0⟩
abbrev s_law_jar : Stmt := top 18
abbrev s_law_draw : Stmt := top 20
abbrev s_law_entry : Stmt := top 21
abbrev s_law_house : Stmt := top 22
abbrev s_law_copy : Stmt := top 24
abbrev s_law_after : Stmt := top 25
abbrev s_law_edits : Stmt := top 23
abbrev s_law_grown : Stmt := top 27
abbrev s_law_entry_at : Stmt := top 28
abbrev s_law_merge : Stmt := top 29
abbrev s_same_keys : Stmt := top 8
abbrev s_check_keys : Stmt := top 11
abbrev s_names_of : Stmt := top 12
abbrev s_check_key : Stmt := top 6
abbrev s_entry_in : Stmt := top 7
abbrev s_settled : Stmt := top 13
abbrev s_merge : Stmt := top 14
abbrev s_law_same : Stmt := top 26
abbrev s_conflicts : Stmt := top 15
abbrev s_law_says : Stmt := top 19
abbrev s_same_house : Stmt := top 9
abbrev s_is_merge : Stmt := top 16
abbrev s_law_refusal : Stmt := top 30
abbrev s_law : Stmt := top 31
abbrev N_law_jar : List Str := ["script", "jar", "at", "cell", "number", "k", "low"]
theorem sc_law_jar : FnScope N_law_jar ["script"] (defScope s_law_jar) := ⟨rfl, rfl, rfl, by decide +kernel, rfl, by decide +kernel, by decide +kernel⟩
abbrev N_law_draw : List Str := ["jar", "at", "many", "place"]
theorem sc_law_draw : FnScope N_law_draw ["jar", "at", "many"] (defScope s_law_draw) := ⟨rfl, rfl, rfl, by decide +kernel, rfl, by decide +kernel, by decide +kernel⟩
abbrev N_law_entry : List Str := ["jar", "at", "pick"]
theorem sc_law_entry : FnScope N_law_entry ["jar", "at"] (defScope s_law_entry) := ⟨rfl, rfl, rfl, by decide +kernel, rfl, by decide +kernel, by decide +kernel⟩
abbrev N_law_house : List Str := ["jar", "at", "house", "key", "name"]
theorem sc_law_house : FnScope N_law_house ["jar", "at"] (defScope s_law_house) := ⟨rfl, rfl, rfl, by decide +kernel, rfl, by decide +kernel, by decide +kernel⟩
abbrev N_law_copy : List Str := ["house", "found", "key", "name"]
theorem sc_law_copy : FnScope N_law_copy ["house"] (defScope s_law_copy) := ⟨rfl, rfl, rfl, by decide +kernel, rfl, by decide +kernel, by decide +kernel⟩
abbrev N_law_after : List Str := ["house", "edit", "found"]
theorem sc_law_after : FnScope N_law_after ["house", "edit"] (defScope s_law_after) := ⟨rfl, rfl, rfl, by decide +kernel, rfl, by decide +kernel, by decide +kernel⟩
abbrev N_law_edits : List Str := ["jar", "at", "house", "many", "edits", "shape", "k", "keys", "key", "name"]
theorem sc_law_edits : FnScope N_law_edits ["jar", "at", "house", "many"] (defScope s_law_edits) := ⟨rfl, rfl, rfl, by decide +kernel, rfl, by decide +kernel, by decide +kernel⟩
abbrev N_law_grown : List Str := ["jar", "at", "base", "many", "house", "edit"]
theorem sc_law_grown : FnScope N_law_grown ["jar", "at", "base", "many"] (defScope s_law_grown) := ⟨rfl, rfl, rfl, by decide +kernel, rfl, by decide +kernel, by decide +kernel⟩
abbrev N_law_entry_at : List Str := ["house", "key", "name"]
theorem sc_law_entry_at : FnScope N_law_entry_at ["house", "key", "name"] (defScope s_law_entry_at) := ⟨rfl, rfl, rfl, by decide +kernel, rfl, by decide +kernel, by decide +kernel⟩
abbrev N_law_merge : List Str := ["base", "one", "two", "house", "met", "key", "name", "was", "left", "right", "stands"]
theorem sc_law_merge : FnScope N_law_merge ["base", "one", "two"] (defScope s_law_merge) := ⟨rfl, rfl, rfl, by decide +kernel, rfl, by decide +kernel, by decide +kernel⟩
abbrev N_same_keys : List Str := ["house", "other"]
theorem sc_same_keys : FnScope N_same_keys ["house", "other"] (defScope s_same_keys) := ⟨rfl, rfl, rfl, by decide +kernel, rfl, by decide +kernel, by decide +kernel⟩
abbrev N_check_keys : List Str := ["base", "houses", "house"]
theorem sc_check_keys : FnScope N_check_keys ["base", "houses"] (defScope s_check_keys) := ⟨rfl, rfl, rfl, by decide +kernel, rfl, by decide +kernel, by decide +kernel⟩
abbrev N_names_of : List Str := ["houses", "key", "met", "house", "name"]
theorem sc_names_of : FnScope N_names_of ["houses", "key"] (defScope s_names_of) := ⟨rfl, rfl, rfl, by decide +kernel, rfl, by decide +kernel, by decide +kernel⟩
abbrev N_check_key : List Str := ["house", "key"]
theorem sc_check_key : FnScope N_check_key ["house", "key"] (defScope s_check_key) := ⟨rfl, rfl, rfl, by decide +kernel, rfl, by decide +kernel, by decide +kernel⟩
abbrev N_entry_in : List Str := ["house", "key", "name"]
theorem sc_entry_in : FnScope N_entry_in ["house", "key", "name"] (defScope s_entry_in) := ⟨rfl, rfl, rfl, by decide +kernel, rfl, by decide +kernel, by decide +kernel⟩
abbrev N_settled : List Str := ["base", "one", "two"]
theorem sc_settled : FnScope N_settled ["base", "one", "two"] (defScope s_settled) := ⟨rfl, rfl, rfl, by decide +kernel, rfl, by decide +kernel, by decide +kernel⟩
abbrev N_merge : List Str := ["base", "one", "two", "house", "met", "key", "table", "name", "found", "other", "is_conflict", "stands"]
theorem sc_merge : FnScope N_merge ["base", "one", "two"] (defScope s_merge) := ⟨rfl, rfl, rfl, by decide +kernel, rfl, by decide +kernel, by decide +kernel⟩
abbrev N_law_same : List Str := ["told", "house", "key"]
theorem sc_law_same : FnScope N_law_same ["told", "house"] (defScope s_law_same) := ⟨rfl, rfl, rfl, by decide +kernel, rfl, by decide +kernel, by decide +kernel⟩
abbrev N_conflicts : List Str := ["base", "one", "two"]
theorem sc_conflicts : FnScope N_conflicts ["base", "one", "two"] (defScope s_conflicts) := ⟨rfl, rfl, rfl, by decide +kernel, rfl, by decide +kernel, by decide +kernel⟩
abbrev N_law_says : List Str := ["actual", "due"]
theorem sc_law_says : FnScope N_law_says ["actual", "due"] (defScope s_law_says) := ⟨rfl, rfl, rfl, by decide +kernel, rfl, by decide +kernel, by decide +kernel⟩
abbrev N_same_house : List Str := ["house", "other", "key"]
theorem sc_same_house : FnScope N_same_house ["house", "other"] (defScope s_same_house) := ⟨rfl, rfl, rfl, by decide +kernel, rfl, by decide +kernel, by decide +kernel⟩
abbrev N_is_merge : List Str := ["base", "one", "two", "house", "right", "met"]
theorem sc_is_merge : FnScope N_is_merge ["base", "one", "two", "house"] (defScope s_is_merge) := ⟨rfl, rfl, rfl, by decide +kernel, rfl, by decide +kernel, by decide +kernel⟩
abbrev N_law_refusal : List Str := ["base", "one", "two", "error"]
theorem sc_law_refusal : FnScope N_law_refusal ["base", "one", "two"] (defScope s_law_refusal) := ⟨rfl, rfl, rfl, by decide +kernel, rfl, by decide +kernel, by decide +kernel⟩
abbrev N_law : List Str := ["script", "jar", "at", "base", "one", "two", "key", "before", "due", "met", "told", "house", "name", "bent", "wider"]
theorem sc_law : FnScope N_law ["script"] (defScope s_law) := ⟨rfl, rfl, rfl, by decide +kernel, rfl, by decide +kernel, by decide +kernel⟩
abbrev s_init_Misfit : Stmt := meth (top 4) 0
theorem sc_init_Misfit : FnScope ["self", "what", "name"] ["self", "what", "name"] (defScope s_init_Misfit) := ⟨rfl, rfl, rfl, by decide +kernel, rfl, by decide +kernel, by decide +kernel⟩
theorem i_init_Misfit {P : Program} {w : World} {K : PySem.W.Frag} {mg : Str → Option Value} {base : Heap} {f : Addr} {fd : FuncData} (F : Fun K "__init__" "Misfit.__init__" s_init_Misfit f fd) : FnOk P w K mg base (L2.CX P w) 1 f fd ["self", "what", "name"] (spInit K ["what", "name"]) :=
  init2 F sc_init_Misfit rfl (.inl rfl) (.inl rfl) (.inl rfl)
abbrev s_init_Unknown : Stmt := meth (top 3) 0
theorem sc_init_Unknown : FnScope ["self", "what", "name"] ["self", "what", "name"] (defScope s_init_Unknown) := ⟨rfl, rfl, rfl, by decide +kernel, rfl, by decide +kernel, by decide +kernel⟩
theorem i_init_Unknown {P : Program} {w : World} {K : PySem.W.Frag} {mg : Str → Option Value} {base : Heap} {f : Addr} {fd : FuncData} (F : Fun K "__init__" "Unknown.__init__" s_init_Unknown f fd) : FnOk P w K mg base (L2.CX P w) 1 f fd ["self", "what", "name"] (spInit K ["what", "name"]) :=
  init2 F sc_init_Unknown rfl (.inl rfl) (.inl rfl) (.inl rfl)
structure Bt (mg : Str → Option Value) : Prop where
  b_abs : mg "abs" = none
  b_all : mg "all" = none
  b_bool : mg "bool" = none
  b_dict : mg "dict" = none
  b_int : mg "int" = none
  b_isinstance : mg "isinstance" = none
  b_len : mg "len" = none
  b_list : mg "list" = none
  b_range : mg "range" = none
  b_repr : mg "repr" = none
  b_sorted : mg "sorted" = none
  b_tuple : mg "tuple" = none
/-! ## the mirrors -/
def mt_Misfit (n : Str) : Option Bool := if n = "Misfit" then some true else if n = "Unknown" then some false else none
def b_law_jar_1 : SM := sIf (eB (eOp true dGt (eV 4) (eC (.int 0)))) (sSeq (sApp 0 (plN 1) (n0 (eOp true dMod (eV 4) (eC (.int 1000))))) (sSet 4 (eOp true dDiv (eV 4) (eC (.int 1000))))) (sNx)
def b_law_jar_2 : SM := sSeq (sSet 2 (eOp true dAdd (eV 2) (eC (.int 1)))) (sSeq (sSet 4 (eBu absD (xVal true (eBu intD (xVal true (eV 3) (xNil))) (xNil)))) (sIf (eB (eOp true dGe (eV 4) (eC (.int 1000000000000000000)))) (sFor [5] (iRange1 (eC (.int 20))) (gN 5) (b_law_jar_1)) (sSeq (sSet 6 (eOp true dMod (eV 4) (eC (.int 1000003)))) (sSeq (sApp 0 (plN 1) (n0 (eOp true dMod (eV 6) (eC (.int 1000))))) (sSeq (sApp 0 (plN 1) (n0 (eOp true dMod (eOp true dMul (eV 6) (eOp true dAdd (eV 6) (eOp true dMul (eC (.int 7)) (eV 2)))) (eC (.int 991))))) (sApp 0 (plN 1) (n0 (eOp true dMod (eOp true dDiv (eOp true dMul (eV 6) (eOp true dAdd (eC (.int 31)) (eV 2))) (eC (.int 7))) (eC (.int 997))))))))))
def g_law_jar : SM := sSeq (sOwn 1 1 (nLst0)) (sSeq (sSet 2 (eC (.int 0))) (sSeq (sFor [3, 4, 5, 6] (iSeq (eN (nSl true (eV 0) (oNo) (oInt (eC (.int 63)))))) (gN 3) (b_law_jar_2)) (sRet (eF 1))))
def m_law_jar : Fn := runF [0] 6 0 g_law_jar
def g_law_draw : SM := sSeq (sIf (eB (eOp true eqD (eBu lenD (xVal true (eV 0) (xNil))) (eC (.int 0)))) (sRet (eC (.int 0))) (sNx)) (sSeq (sSet 3 (eIx true (eV 1) (eC (.int 0)))) (sSeq (sPut 0 (plN 1) (eC (.int 0)) (n0 (eOp true dAdd (eV 3) (eC (.int 1))))) (sSeq (sIf (eB (eOp true dLt (eV 3) (eBu lenD (xVal true (eV 0) (xNil))))) (sRet (eOp true dMod (eBu intD (xVal true (eIx true (eV 0) (eV 3)) (xNil))) (eV 2))) (sNx)) (sRet (eOp true dMod (eOp true dMod (eBu intD (xVal true (eOp true dAdd (eOp true dAdd (eOp true dMul (eIx true (eV 0) (eOp true dMod (eBu intD (xVal true (eV 3) (xNil))) (eBu lenD (xVal true (eV 0) (xNil))))) (eC (.int 61))) (eOp true dMul (eV 3) (eC (.int 37)))) (eOp true dMul (eOp true dDiv (eV 3) (eBu lenD (xVal true (eV 0) (xNil)))) (eC (.int 11)))) (xNil))) (eC (.int 983))) (eV 2))))))
def m_law_draw : Fn := runF [0, 1, 0] 1 0 g_law_draw
def g_law_entry : SM := sSeq (sSet 2 (eCallB [0, 1, 0] m_law_draw (xVal true (eV 0) (xBox 1 (xVal true (eC (.int 5)) (xNil)))))) (sSeq (sIf (eB (eOp true dLt (eV 2) (eC (.int 3)))) (sRet (eOp true dAdd (eV 2) (eC (.int 1)))) (sNx)) (sSeq (sIf (eB (eOp true eqD (eV 2) (eC (.int 3)))) (sRet (eTup (aCons (eC (.str "b")) (aCons (eCallB [0, 1, 0] m_law_draw (xVal true (eV 0) (xBox 1 (xVal true (eC (.int 3)) (xNil))))) (aNil))))) (sNx)) (sRet (eC (.str "word")))))
def m_law_entry : Fn := runF [0, 1] 1 0 g_law_entry
def b_law_house_1 : SM := sIf (eB (eOp true eqD (eCallB [0, 1, 0] m_law_draw (xVal true (eV 0) (xBox 1 (xVal true (eC (.int 2)) (xNil))))) (eC (.int 1)))) (sPut 0 (plK (plN 2) (eV 3)) (eV 4) (n0 (eCallB [0, 1] m_law_entry (xVal true (eV 0) (xBox 1 (xNil)))))) (sNx)
def b_law_house_2 : SM := sSeq (sPut 1 (plN 2) (eV 3) (nDic0)) (sFor [4] (iSeq (eLst (aCons (eC (.str "c")) (aCons (eC (.str "a")) (aCons (eC (.str "b10")) (aCons (eC (.str "b9")) (aNil))))))) (gN 4) (b_law_house_1))
def g_law_house : SM := sSeq (sOwn 2 2 (nDic0)) (sSeq (sFor [3, 4] (iSeq (eN (nSl false (eLst (aCons (eC (.str "t")) (aCons (eC (.str "lanes")) (aCons (eC (.str "a0")) (aNil))))) (oNo) (oInt (eOp false dAdd (eC (.int 1)) (eCallB [0, 1, 0] m_law_draw (xVal true (eV 0) (xBox 1 (xVal true (eC (.int 3)) (xNil)))))))))) (gN 3) (b_law_house_2)) (sRet (eF 2)))
def m_law_house : Fn := runF [0, 1] 3 0 g_law_house
def b_law_copy_1 : SM := sPut 0 (plK (plN 1) (eV 2)) (eV 3) (n0 (eIx true (eIx true (eV 0) (eV 2)) (eV 3)))
def b_law_copy_2 : SM := sSeq (sPut 1 (plN 1) (eV 2) (nDic0)) (sFor [3] (iSeq (eN (nBu sortedD (xVal true (eIx true (eV 0) (eV 2)) (xNil))))) (gN 3) (b_law_copy_1))
def g_law_copy : SM := sSeq (sOwn 2 1 (nDic0)) (sSeq (sFor [2, 3] (iDic (eV 0)) (gN 2) (b_law_copy_2)) (sRetN 2 (nV 2 1)))
def m_law_copy : Fn := runF [0] 3 2 g_law_copy
def g_law_after : SM := sSeq (sOwn 2 2 (nCall [0] m_law_copy (xVal true (eV 0) (xNil)))) (sSeq (sIf (eB (eOp true eqD (eIx true (eV 1) (eC (.int 0))) (eC (.str "put")))) (sPut 0 (plK (plN 2) (eIx true (eV 1) (eC (.int 1)))) (eIx true (eV 1) (eC (.int 2))) (n0 (eIx true (eV 1) (eC (.int 3))))) (sPopD (plK (plN 2) (eIx true (eV 1) (eC (.int 1)))) (eIx true (eV 1) (eC (.int 2))))) (sRetN 2 (nCall [0] m_law_copy (xVal true (eF 2) (xNil)))))
def m_law_after : Fn := runF [0, 0] 1 2 g_law_after
def b_law_edits_1 : SM := sSeq (sSet 7 (eN (nBu listD (xVal true (eV 2) (xNil))))) (sSeq (sSet 8 (eIx false (eV 7) (eCallB [0, 1, 0] m_law_draw (xVal true (eV 0) (xBox 1 (xVal true (eBu lenD (xVal true (eV 7) (xNil))) (xNil))))))) (sSeq (sSet 9 (eIx false (eLst (aCons (eC (.str "c")) (aCons (eC (.str "a")) (aCons (eC (.str "b10")) (aCons (eC (.str "b9")) (aCons (eC (.str "e")) (aNil))))))) (eCallB [0, 1, 0] m_law_draw (xVal true (eV 0) (xBox 1 (xVal true (eC (.int 5)) (xNil))))))) (sSeq (sIf (bAnd (eB (eOp true eqD (eCallB [0, 1, 0] m_law_draw (xVal true (eV 0) (xBox 1 (xVal true (eC (.int 3)) (xNil))))) (eC (.int 1)))) (eB (eOp true (inD false) (eV 9) (eIx true (eV 5) (eV 8))))) (sApp 0 (plN 4) (n0 (eTup (aCons (eC (.str "drop")) (aCons (eV 8) (aCons (eV 9) (aNil))))))) (sApp 0 (plN 4) (n0 (eTup (aCons (eC (.str "put")) (aCons (eV 8) (aCons (eV 9) (aCons (eCallB [0, 1] m_law_entry (xVal true (eV 0) (xBox 1 (xNil)))) (aNil))))))))) (sSet 5 (eCall [0, 0] m_law_after (xVal true (eV 5) (xVal true (eIx true (eV 4) (eOp true dSub (eBu lenD (xVal true (eV 4) (xNil))) (eC (.int 1)))) (xNil))))))))
def g_law_edits : SM := sSeq (sOwn 1 4 (nLst0)) (sSeq (sSet 5 (eCall [0] m_law_copy (xVal true (eV 2) (xNil)))) (sSeq (sFor [6, 7, 8, 9] (iRange1 (eV 3)) (gN 6) (b_law_edits_1)) (sRet (eF 4))))
def m_law_edits : Fn := runF [0, 1, 0, 0] 6 0 g_law_edits
def b_law_grown_1 : SM := sOwn 2 4 (nCall [0, 0] m_law_after (xVal true (eF 4) (xVal true (eV 5) (xNil))))
def g_law_grown : SM := sSeq (sOwn 2 4 (nCall [0] m_law_copy (xVal true (eV 2) (xNil)))) (sSeq (sFor [5] (iSeq (eCallB [0, 1, 0, 0] m_law_edits (xVal true (eV 0) (xBox 1 (xVal true (eV 2) (xVal true (eV 3) (xNil))))))) (gN 5) (b_law_grown_1)) (sRetN 2 (nV 2 4)))
def m_law_grown : Fn := runF [0, 1, 0, 0] 2 2 g_law_grown
def g_law_entry_at : SM := sSeq (sIf (eB (eOp true (inD false) (eV 2) (eIx true (eV 0) (eV 1)))) (sRet (eLst (aCons (eIx true (eIx true (eV 0) (eV 1)) (eV 2)) (aNil)))) (sNx)) (sRet (eLst (aNil)))
def m_law_entry_at : Fn := runF [0, 0, 0] 0 0 g_law_entry_at
def b_law_merge_1 : SM := sSeq (sSet 7 (eCall [0, 0, 0] m_law_entry_at (xVal true (eV 0) (xVal true (eV 5) (xVal true (eV 6) (xNil)))))) (sSeq (sSet 8 (eCall [0, 0, 0] m_law_entry_at (xVal true (eV 1) (xVal true (eV 5) (xVal true (eV 6) (xNil)))))) (sSeq (sSet 9 (eCall [0, 0, 0] m_law_entry_at (xVal true (eV 2) (xVal true (eV 5) (xVal true (eV 6) (xNil)))))) (sSeq (sSet 10 (eV 7)) (sSeq (sIf (bOr (eB (eOp true eqD (eV 8) (eV 9))) (eB (eOp true eqD (eV 9) (eV 7)))) (sSet 10 (eV 8)) (sIf (eB (eOp true eqD (eV 8) (eV 7))) (sSet 10 (eV 9)) (sApp 0 (plN 4) (n0 (eTup (aCons (eV 5) (aCons (eV 6) (aNil)))))))) (sIf (bTru (eV 10)) (sPut 0 (plK (plN 3) (eV 5)) (eV 6) (n0 (eIx true (eV 10) (eC (.int 0))))) (sNx))))))
def b_law_merge_2 : SM := sSeq (sPut 1 (plN 3) (eV 5) (nDic0)) (sFor [6, 7, 8, 9, 10] (iSeq (eLst (aCons (eC (.str "a")) (aCons (eC (.str "b10")) (aCons (eC (.str "b9")) (aCons (eC (.str "c")) (aCons (eC (.str "e")) (aNil)))))))) (gN 6) (b_law_merge_1))
def g_law_merge : SM := sSeq (sOwn 2 3 (nDic0)) (sSeq (sOwn 1 4 (nLst0)) (sSeq (sFor [5, 6, 7, 8, 9, 10] (iDic (eV 0)) (gN 5) (b_law_merge_2)) (sRet (eTup (aCons (eF 3) (aCons (eN (nBu sortQD (xVal true (eV 4) (xNil)))) (aNil)))))))
def m_law_merge : Fn := runF [0, 0, 0] 8 0 g_law_merge
def g_same_keys : SM := sRet (eOp false eqD (eN (nBu sortedD (xVal true (eV 0) (xNil)))) (eN (nBu sortedD (xVal true (eV 1) (xNil)))))
def m_same_keys : Fn := runF [0, 0] 0 0 g_same_keys
def b_check_keys_1 : SM := sIf (bNot (eB (eCall [0, 0] m_same_keys (xVal true (eV 0) (xVal true (eV 2) (xNil)))))) (sRaise "Misfit" ["what", "name"] (aCons (eC (.str "house")) (aCons (eC (.str "tables")) (aNil)))) (sNx)
def g_check_keys : SM := sFor [2] (iSeq (eV 1)) (gN 2) (b_check_keys_1)
def m_check_keys : Fn := runF [0, 0] 1 0 g_check_keys
def b_names_of_1 : SM := sPut 0 (plN 2) (eV 4) (n0 (eC (.bl true)))
def b_names_of_2 : SM := sFor [4] (iDic (eIx true (eV 3) (eV 1))) (gN 4) (b_names_of_1)
def g_names_of : SM := sSeq (sOwn 1 2 (nDic0)) (sSeq (sFor [3, 4] (iSeq (eV 0)) (gN 3) (b_names_of_2)) (sRet (eN (nBu sortedD (xVal true (eV 2) (xNil))))))
def m_names_of : Fn := runF [0, 0] 3 0 g_names_of
def g_check_key : SM := sIf (eB (eOp true (inD true) (eV 1) (eV 0))) (sRaise "Unknown" ["what", "name"] (aCons (eC (.str "table")) (aCons (eV 1) (aNil)))) (sNx)
def m_check_key : Fn := runF [0, 0] 0 0 g_check_key
def g_entry_in : SM := sSeq (sExpr (eCall [0, 0] m_check_key (xVal true (eV 0) (xVal true (eV 1) (xNil))))) (sSeq (sIf (eB (eOp true (inD false) (eV 2) (eIx true (eV 0) (eV 1)))) (sRet (eTup (aCons (eC (.bl true)) (aCons (eIx true (eIx true (eV 0) (eV 1)) (eV 2)) (aNil))))) (sNx)) (sRet (eTup (aCons (eC (.bl false)) (aCons (eC .non) (aNil))))))
def m_entry_in : Fn := runF [0, 0, 0] 0 0 g_entry_in
def g_settled : SM := sSeq (sIf (bOr (eB (eOp true eqD (eV 1) (eV 2))) (eB (eOp true eqD (eV 2) (eV 0)))) (sRet (eTup (aCons (eC (.bl false)) (aCons (eV 1) (aNil))))) (sNx)) (sSeq (sIf (eB (eOp true eqD (eV 1) (eV 0))) (sRet (eTup (aCons (eC (.bl false)) (aCons (eV 2) (aNil))))) (sNx)) (sRet (eTup (aCons (eC (.bl true)) (aCons (eV 0) (aNil))))))
def m_settled : Fn := runF [0, 0, 0] 0 0 g_settled
def b_merge_1 : SM := sSeq (sSet 8 (eN (nLc [9] (iSeq (eTup (aCons (eV 0) (aCons (eV 1) (aCons (eV 2) (aNil)))))) (gN 9) (bYes) (n0 (eCall [0, 0, 0] m_entry_in (xVal true (eV 9) (xVal true (eV 5) (xVal true (eV 7) (xNil))))))))) (sSeq (sUnp [10, 11] (eCall [0, 0, 0] m_settled (xVal true (eIx true (eV 8) (eC (.int 0))) (xVal true (eIx true (eV 8) (eC (.int 1))) (xVal true (eIx true (eV 8) (eC (.int 2))) (xNil)))))) (sSeq (sIf (eB (eV 10)) (sApp 0 (plN 4) (n0 (eTup (aCons (eV 5) (aCons (eV 7) (aNil)))))) (sNx)) (sIf (eB (eIx true (eV 11) (eC (.int 0)))) (sPut 0 (plN 6) (eV 7) (n0 (eIx true (eV 11) (eC (.int 1))))) (sNx))))
def b_merge_2 : SM := sSeq (sOwn 1 6 (nDic0)) (sSeq (sFor [7, 8, 10, 11] (iSeq (eCall [0, 0] m_names_of (xVal true (eLst (aCons (eV 0) (aCons (eV 1) (aCons (eV 2) (aNil))))) (xVal true (eV 5) (xNil))))) (gN 7) (b_merge_1)) (sPut 1 (plN 3) (eV 5) (nV 1 6)))
def g_merge : SM := sSeq (sExpr (eCall [0, 0] m_check_keys (xVal true (eV 0) (xVal true (eLst (aCons (eV 1) (aCons (eV 2) (aNil)))) (xNil))))) (sSeq (sOwn 2 3 (nDic0)) (sSeq (sOwn 1 4 (nLst0)) (sSeq (sFor [5, 6, 7, 8, 10, 11] (iDic (eV 0)) (gN 5) (b_merge_2)) (sRetN 3 (nTupO (nV 2 3) (aCons (eN (nBu sortQD (xVal true (eV 4) (xNil)))) (aNil)))))))
def m_merge : Fn := runF [0, 0, 0] 9 3 g_merge
def b_law_same_1 : SM := sIf (bOr (bNot (eB (eIsi "dict" (eIx true (eV 0) (eV 2))))) (bOr (eB (eOp false neD (eN (nBu listD (xVal true (eIx true (eV 0) (eV 2)) (xNil)))) (eN (nBu sortedD (xVal true (eIx true (eV 1) (eV 2)) (xNil)))))) (eB (eOp true neD (eIx true (eV 0) (eV 2)) (eIx true (eV 1) (eV 2)))))) (sRet (eC (.bl false))) (sNx)
def g_law_same : SM := sSeq (sIf (bOr (bNot (eB (eIsi "dict" (eV 0)))) (eB (eOp false neD (eN (nBu listD (xVal true (eV 0) (xNil)))) (eN (nBu listD (xVal true (eV 1) (xNil))))))) (sRet (eC (.bl false))) (sNx)) (sSeq (sFor [2] (iDic (eV 1)) (gN 2) (b_law_same_1)) (sRet (eC (.bl true))))
def m_law_same : Fn := runF [0, 0] 1 0 g_law_same
def g_conflicts : SM := sRet (eIx true (eCall [0, 0, 0] m_merge (xVal true (eV 0) (xVal true (eV 1) (xVal true (eV 2) (xNil))))) (eC (.int 1)))
def m_conflicts : Fn := runF [0, 0, 0] 0 0 g_conflicts
def g_law_says : SM := sRet (eAnd (eIsi "bool" (eV 0)) (eOp true eqD (eV 0) (eV 1)))
def m_law_says : Fn := runF [0, 0] 0 0 g_law_says
def g_same_house : SM := sRet (eAnd (eCall [0, 0] m_same_keys (xVal true (eV 0) (xVal true (eV 1) (xNil)))) (eBu (allD false) (xVal true (eN (nLc [2] (iDic (eV 0)) (gN 2) (bYes) (n0 (eOp true eqD (eIx true (eV 0) (eV 2)) (eIx true (eV 1) (eV 2)))))) (xNil))))
def m_same_house : Fn := runF [0, 0] 1 0 g_same_house
def g_is_merge : SM := sSeq (sUnp [4, 5] (eCall [0, 0, 0] m_merge (xVal true (eV 0) (xVal true (eV 1) (xVal true (eV 2) (xNil)))))) (sRet (eAnd (eOp true eqD (eV 5) (eLst (aNil))) (eCall [0, 0] m_same_house (xVal true (eV 4) (xVal true (eV 3) (xNil))))))
def m_is_merge : Fn := runF [0, 0, 0, 0] 2 0 g_is_merge
def g_law_refusal : SM := sSeq (sTryAs mt_Misfit 3 (sExpr (eCall [0, 0, 0] m_merge (xVal true (eV 0) (xVal true (eV 1) (xVal true (eV 2) (xNil)))))) (fun x => sRet (eTup (aCons (eXf "Misfit" "what" x) (aCons (eXf "Misfit" "name" x) (aNil)))))) (sRet (eTup (aCons (eC (.str "")) (aCons (eC (.str "")) (aNil)))))
def m_law_refusal : Fn := runF [0, 0, 0] 1 0 g_law_refusal
def b_law_1 : SM := sIf (bOr (eB (eOp true neG (eCall [0, 0, 0] m_merge (xVal true (eV 3) (xVal true (eV 3) (xVal true (eV 11) (xNil))))) (eTup (aCons (eV 11) (aCons (eLst (aNil)) (aNil)))))) (bOr (eB (eOp true neG (eCall [0, 0, 0] m_merge (xVal true (eV 3) (xVal true (eV 11) (xVal true (eV 3) (xNil))))) (eTup (aCons (eV 11) (aCons (eLst (aNil)) (aNil)))))) (eB (eOp true neG (eCall [0, 0, 0] m_merge (xVal true (eV 3) (xVal true (eV 11) (xVal true (eV 11) (xNil))))) (eTup (aCons (eV 11) (aCons (eLst (aNil)) (aNil)))))))) (sRet (eC (.bl false))) (sNx)
def b_law_2 : SM := sSeq (sOwn 2 13 (nCall [0] m_law_copy (xVal true (eV 8) (xNil)))) (sSeq (sPut 0 (plK (plN 13) (eV 6)) (eV 12) (n0 (eTup (aCons (eC (.str "other")) (aCons (eC (.int 2)) (aNil)))))) (sSeq (sIf (eB (eOp true (dIsB true) (eCall [0, 0, 0, 0] m_is_merge (xVal true (eV 3) (xVal true (eV 4) (xVal true (eV 5) (xVal true (eV 13) (xNil)))))) (eC (.bl false)))) (sRet (eC (.bl false))) (sNx)) (sIf (eB (eOp true (inD false) (eV 12) (eIx true (eV 8) (eV 6)))) (sSeq (sPopD (plK (plN 13) (eV 6)) (eV 12)) (sIf (eB (eOp true (dIsB true) (eCall [0, 0, 0, 0] m_is_merge (xVal true (eV 3) (xVal true (eV 4) (xVal true (eV 5) (xVal true (eV 13) (xNil)))))) (eC (.bl false)))) (sRet (eC (.bl false))) (sNx))) (sNx))))
def b_law_3 : SM := sFor [12, 13] (iSeq (eLst (aCons (eC (.str "a")) (aCons (eC (.str "e")) (aNil))))) (gN 12) (b_law_2)
def b_law_4 : SM := sPut 0 (plK (plK (plN 10) (eC (.int 0))) (eV 6)) (eC (.str "x7")) (n0 (eC (.int 7)))
def g_law : SM := sSeq (sSet 1 (eCall [0] m_law_jar (xVal true (eV 0) (xNil)))) (sSeq (sOwn 1 2 (nLst (aCons (eC (.int 0)) (aNil)))) (sSeq (sSet 3 (eCallB [0, 1] m_law_house (xVal true (eV 1) (xBox 2 (xNil))))) (sSeq (sOwn 2 4 (nCall [0, 1, 0, 0] m_law_grown (xVal false (eV 1) (xBox 2 (xVal false (eV 3) (xVal true (eCallB [0, 1, 0] m_law_draw (xVal true (eV 1) (xBox 2 (xVal true (eC (.int 7)) (xNil))))) (xNil))))))) (sSeq (sOwn 2 5 (nCall [0, 1, 0, 0] m_law_grown (xVal false (eV 1) (xBox 2 (xVal false (eV 3) (xVal true (eCallB [0, 1, 0] m_law_draw (xVal true (eV 1) (xBox 2 (xVal true (eC (.int 7)) (xNil))))) (xNil))))))) (sSeq (sIf (eB (eOp true eqD (eCallB [0, 1, 0] m_law_draw (xVal true (eV 1) (xBox 2 (xVal true (eC (.int 3)) (xNil))))) (eC (.int 1)))) (sSeq (sSet 6 (eIx true (eN (nBu listD (xVal true (eV 3) (xNil)))) (eC (.int 0)))) (sSeq (sPut 0 (plK (plN 4) (eV 6)) (eC (.str "e")) (n0 (eTup (aCons (eC (.str "same")) (aCons (eC (.int 1)) (aNil)))))) (sPut 0 (plK (plN 5) (eV 6)) (eC (.str "e")) (n0 (eTup (aCons (eC (.str "same")) (aCons (eC (.int 1)) (aNil)))))))) (sNx)) (sSeq (sSet 7 (eBu reprD (xVal true (eTup (aCons (eV 3) (aCons (eF 4) (aCons (eF 5) (aNil))))) (xNil)))) (sSeq (sUnp [8, 9] (eCall [0, 0, 0] m_law_merge (xVal false (eV 3) (xVal false (eF 4) (xVal true (eF 5) (xNil)))))) (sSeq (sOwn 3 10 (nCall [0, 0, 0] m_merge (xVal false (eV 3) (xVal false (eF 4) (xVal true (eF 5) (xNil)))))) (sSeq (sIf (bScope [10] (bOr (bNot (eB (eIsi "tuple" (eV 10)))) (bOr (eB (eOp true neD (eBu lenD (xVal true (eV 10) (xNil))) (eC (.int 2)))) (bOr (bNot (eB (eCall [0, 0] m_law_same (xVal true (eIx true (eV 10) (eC (.int 0))) (xVal true (eV 8) (xNil)))))) (bOr (eB (eOp true neD (eIx true (eV 10) (eC (.int 1))) (eV 9))) (bNot (eB (eIsi "list" (eIx true (eV 10) (eC (.int 1))))))))))) (sRet (eC (.bl false))) (sNx)) (sSeq (sIf (bOr (eB (eOp true neD (eCall [0, 0, 0] m_conflicts (xVal false (eV 3) (xVal false (eF 4) (xVal true (eF 5) (xNil))))) (eV 9))) (bOr (eB (eOp true neD (eCall [0, 0, 0] m_conflicts (xVal false (eV 3) (xVal false (eF 5) (xVal true (eF 4) (xNil))))) (eV 9))) (bNot (eB (eCall [0, 0] m_law_same (xVal true (eIx true (eCall [0, 0, 0] m_merge (xVal false (eV 3) (xVal false (eF 5) (xVal true (eF 4) (xNil))))) (eC (.int 0))) (xVal true (eV 8) (xNil)))))))) (sRet (eC (.bl false))) (sNx)) (sSeq (sFor [11] (iSeq (eLst (aCons (eF 4) (aCons (eF 5) (aNil))))) (gN 11) (b_law_1)) (sSeq (sIf (bNot (eB (eCall [0, 0] m_law_says (xVal true (eCall [0, 0, 0, 0] m_is_merge (xVal true (eV 3) (xVal true (eV 4) (xVal true (eV 5) (xVal true (eCall [0] m_law_copy (xVal true (eV 8) (xNil))) (xNil)))))) (xVal true (eOp true eqD (eV 9) (eLst (aNil))) (xNil)))))) (sRet (eC (.bl false))) (sNx)) (sSeq (sFor [12, 13] (iDic (eV 3)) (gN 6) (b_law_3)) (sSeq (sOwn 2 14 (nCall [0] m_law_copy (xVal true (eF 4) (xNil)))) (sSeq (sPut 1 (plN 14) (eC (.str "x9")) (nDic0)) (sSeq (sIf (bOr (eB (eOp true neD (eCall [0, 0, 0] m_law_refusal (xVal false (eV 3) (xVal false (eF 14) (xVal true (eF 5) (xNil))))) (eTup (aCons (eC (.str "house")) (aCons (eC (.str "tables")) (aNil)))))) (eB (eOp true neD (eCall [0, 0, 0] m_law_refusal (xVal false (eV 3) (xVal false (eF 5) (xVal true (eF 14) (xNil))))) (eTup (aCons (eC (.str "house")) (aCons (eC (.str "tables")) (aNil))))))) (sRet (eC (.bl false))) (sNx)) (sSeq (sIf (bOr (eB (eOp true neD (eCall [0, 0, 0] m_law_refusal (xVal false (eF 14) (xVal false (eF 4) (xVal true (eF 5) (xNil))))) (eTup (aCons (eC (.str "house")) (aCons (eC (.str "tables")) (aNil)))))) (eB (eOp true (dIsB true) (eCall [0, 0, 0, 0] m_is_merge (xVal true (eV 3) (xVal true (eV 4) (xVal true (eV 5) (xVal true (eV 14) (xNil)))))) (eC (.bl false))))) (sRet (eC (.bl false))) (sNx)) (sSeq (sFor [] (iDic (eV 3)) (gN 6) (b_law_4)) (sRet (eAnd (eOp true eqD (eBu reprD (xVal true (eTup (aCons (eV 3) (aCons (eF 4) (aCons (eF 5) (aNil))))) (xNil))) (eV 7)) (eCall [0, 0] m_law_same (xVal true (eIx true (eCall [0, 0, 0] m_merge (xVal false (eV 3) (xVal false (eF 4) (xVal true (eF 5) (xNil))))) (eC (.int 0))) (xVal true (eV 8) (xNil))))))))))))))))))))))))
def m_law : Fn := runF [0] 14 0 g_law
end Gk80


namespace Gk80
open PySem PySem.Spec PyProof.Rows L2 VL
section
variable {P : Program} {w : World} {K : PySem.W.Frag} {mg : Str → Option Value} {base : Heap} {C_Misfit : Addr} {C_Unknown : Addr}
theorem w_law_jar (B : Bt mg)   {f : Addr} {fd : FuncData} (F : Fun K "_law_jar" "_law_jar" s_law_jar f fd) : FnG P w K mg base 1 f fd ["script"] (SpM K mg [0] 0 m_law_jar) :=
  fn_body F sc_law_jar [0] 6 0 g_law_jar rfl rfl fun cdv A outer s H E hr =>
 (ws_cons (w_own (n := 1) (i := 1) sc_law_jar.nd rfl (by first | exact .inl rfl | exact .inr rfl) n_lst0)
 (ws_cons (w_set (i := 2) sc_law_jar.nd rfl (by first | exact .inl rfl | exact .inr rfl) v_int)
 (ws_cons (w_for (fg := [3, 4, 5, 6]) (passes_of rfl) rfl (i_seq (v_n (n_sl (v_var 0) o_none (o_some v_int)))) (g_name (i := 3) sc_law_jar.nd rfl (by first | exact .inl rfl | exact .inr rfl))
 (ws_cons (w_set (i := 2) sc_law_jar.nd rfl (by first | exact .inl rfl | exact .inr rfl) (v_bin o_add opv_add (v_var 2) v_int))
 (ws_cons (w_set (i := 4) sc_law_jar.nd rfl (by first | exact .inl rfl | exact .inr rfl) (v_bu call_abs buv_abs (by rfl) (B.b_abs) bt_abs (x_val (v_ty call_int1 buv_int (by rfl) (B.b_int) bt_int (x_val (v_var 3) x_nil)) x_nil)))
 (ws_one (w_if (b_cmp o_ge opv_ge (v_var 4) v_int (nomark _))
 (ws_one (w_for (fg := [5]) (passes_of rfl) rfl (i_range1 v_int (by rfl) (B.b_range)) (g_name (i := 5) sc_law_jar.nd rfl (by first | exact .inl rfl | exact .inr rfl))
 (ws_one (w_if (b_cmp o_gt opv_gt (v_var 4) v_int (nomark _))
 (ws_cons (w_app (n := 0) (l_name 1) (n_v (v_bin op_mod opv_mod (v_var 4) v_int)))
 (ws_one (w_set (i := 4) sc_law_jar.nd rfl (by first | exact .inl rfl | exact .inr rfl) (v_bin op_fdivW opv_div (v_var 4) v_int))))
 ws_nil))))
 (ws_cons (w_set (i := 6) sc_law_jar.nd rfl (by first | exact .inl rfl | exact .inr rfl) (v_bin op_mod opv_mod (v_var 4) v_int))
 (ws_cons (w_app (n := 0) (l_name 1) (n_v (v_bin op_mod opv_mod (v_var 6) v_int)))
 (ws_cons (w_app (n := 0) (l_name 1) (n_v (v_bin op_mod opv_mod (v_bin op_mulW opv_mul (v_var 6) (v_bin o_add opv_add (v_var 6) (v_bin op_mulW opv_mul v_int (v_var 2)))) v_int)))
 (ws_one (w_app (n := 0) (l_name 1) (n_v (v_bin op_mod opv_mod (v_bin op_fdivW opv_div (v_bin op_mulW opv_mul (v_var 6) (v_bin o_add opv_add v_int (v_var 2))) v_int) v_int))))))))))))
 (ws_one (w_ret (v_frz 1))))))
theorem w_law_draw (B : Bt mg)   {f : Addr} {fd : FuncData} (F : Fun K "_law_draw" "_law_draw" s_law_draw f fd) : FnG P w K mg base 1 f fd ["jar", "at", "many"] (SpM K mg [0, 1, 0] 0 m_law_draw) :=
  fn_body F sc_law_draw [0, 1, 0] 1 0 g_law_draw rfl rfl fun cdv A outer s H E hr =>
 (ws_cons (w_if (b_cmp (o_eq hr.hu66) opv_eq (v_bu call_lenX buv_len (by rfl) (B.b_len) bt_len (x_val (v_var 0) x_nil)) v_int (nomark _))
 (ws_one (w_ret v_int))
 ws_nil)
 (ws_cons (w_set (i := 3) sc_law_draw.nd rfl (by first | exact .inl rfl | exact .inr rfl) (v_ix hr.hu1 (v_var 1) v_int))
 (ws_cons (w_put (n := 0) hr.hu1 (n_v (v_bin o_add opv_add (v_var 3) v_int)) (l_name 1) v_int)
 (ws_cons (w_if (b_cmp o_lt opv_lt (v_var 3) (v_bu call_lenX buv_len (by rfl) (B.b_len) bt_len (x_val (v_var 0) x_nil)) (nomark _))
 (ws_one (w_ret (v_bin op_mod opv_mod (v_ty call_int1 buv_int (by rfl) (B.b_int) bt_int (x_val (v_ix hr.hu1 (v_var 0) (v_var 3)) x_nil)) (v_var 2))))
 ws_nil)
 (ws_one (w_ret (v_bin op_mod opv_mod (v_bin op_mod opv_mod (v_ty call_int1 buv_int (by rfl) (B.b_int) bt_int (x_val (v_bin o_add opv_add (v_bin o_add opv_add (v_bin op_mulW opv_mul (v_ix hr.hu1 (v_var 0) (v_bin op_mod opv_mod (v_ty call_int1 buv_int (by rfl) (B.b_int) bt_int (x_val (v_var 3) x_nil)) (v_bu call_lenX buv_len (by rfl) (B.b_len) bt_len (x_val (v_var 0) x_nil)))) v_int) (v_bin op_mulW opv_mul (v_var 3) v_int)) (v_bin op_mulW opv_mul (v_bin op_fdivW opv_div (v_var 3) (v_bu call_lenX buv_len (by rfl) (B.b_len) bt_len (x_val (v_var 0) x_nil))) v_int)) x_nil)) v_int) (v_var 2))))))))
theorem w_law_entry (B : Bt mg) (D_law_draw : DefG P w K mg base 1 "_law_draw" [0, 1, 0] 0 m_law_draw)  {f : Addr} {fd : FuncData} (F : Fun K "_law_entry" "_law_entry" s_law_entry f fd) : FnG P w K mg base 2 f fd ["jar", "at"] (SpM K mg [0, 1] 0 m_law_entry) :=
  fn_body F sc_law_entry [0, 1] 1 0 g_law_entry rfl rfl fun cdv A outer s H E hr =>
 (ws_cons (w_set (i := 2) sc_law_entry.nd rfl (by first | exact .inl rfl | exact .inr rfl) (c_lend D_law_draw (takes_of rfl rfl rfl rfl) hr (by rfl) (x_val (v_var 0) (x_box 1 (x_val v_int x_nil)))))
 (ws_cons (w_if (b_cmp o_lt opv_lt (v_var 2) v_int (nomark _))
 (ws_one (w_ret (v_bin o_add opv_add (v_var 2) v_int)))
 ws_nil)
 (ws_cons (w_if (b_cmp (o_eq hr.hu66) opv_eq (v_var 2) v_int (nomark _))
 (ws_one (w_ret (v_tup (a_cons v_str (a_cons (c_lend D_law_draw (takes_of rfl rfl rfl rfl) hr (by rfl) (x_val (v_var 0) (x_box 1 (x_val v_int x_nil)))) a_nil)))))
 ws_nil)
 (ws_one (w_ret v_str)))))
theorem w_law_house (B : Bt mg) (D_law_draw : DefG P w K mg base 1 "_law_draw" [0, 1, 0] 0 m_law_draw) (D_law_entry : DefG P w K mg base 2 "_law_entry" [0, 1] 0 m_law_entry)  {f : Addr} {fd : FuncData} (F : Fun K "_law_house" "_law_house" s_law_house f fd) : FnG P w K mg base 3 f fd ["jar", "at"] (SpM K mg [0, 1] 0 m_law_house) :=
  fn_body F sc_law_house [0, 1] 3 0 g_law_house rfl rfl fun cdv A outer s H E hr =>
 (ws_cons (w_own (n := 2) (i := 2) sc_law_house.nd rfl (by first | exact .inl rfl | exact .inr rfl) n_dic0)
 (ws_cons (w_for (fg := [3, 4]) (passes_of rfl) rfl (i_seq (v_n (n_sl (v_lst (a_cons v_str (a_cons v_str (a_cons v_str a_nil)))) o_none (o_some (v_bin o_add opv_add v_int (c_lend D_law_draw (takes_of rfl rfl rfl rfl) hr (by rfl) (x_val (v_var 0) (x_box 1 (x_val v_int x_nil))))))))) (g_name (i := 3) sc_law_house.nd rfl (by first | exact .inl rfl | exact .inr rfl))
 (ws_cons (w_put (n := 1) hr.hu1 n_dic0 (l_name 2) (v_var 3))
 (ws_one (w_for (fg := [4]) (passes_of rfl) rfl (i_seq (v_lst (a_cons v_str (a_cons v_str (a_cons v_str (a_cons v_str a_nil)))))) (g_name (i := 4) sc_law_house.nd rfl (by first | exact .inl rfl | exact .inr rfl))
 (ws_one (w_if (b_cmp (o_eq hr.hu66) opv_eq (c_lend D_law_draw (takes_of rfl rfl rfl rfl) hr (by rfl) (x_val (v_var 0) (x_box 1 (x_val v_int x_nil)))) v_int (nomark _))
 (ws_one (w_put (n := 0) hr.hu1 (n_v (c_lend D_law_entry (takes_of rfl rfl rfl rfl) hr (by rfl) (x_val (v_var 0) (x_box 1 x_nil)))) (l_sub (W := W0) hr.hu1 (l_name 2) (v_var 3)) (v_var 4)))
 ws_nil))))))
 (ws_one (w_ret (v_frz 2)))))
theorem w_law_copy (B : Bt mg)   {f : Addr} {fd : FuncData} (F : Fun K "_law_copy" "_law_copy" s_law_copy f fd) : FnG P w K mg base 1 f fd ["house"] (SpM K mg [0] 2 m_law_copy) :=
  fn_body F sc_law_copy [0] 3 2 g_law_copy rfl rfl fun cdv A outer s H E hr =>
 (ws_cons (w_own (n := 2) (i := 1) sc_law_copy.nd rfl (by first | exact .inl rfl | exact .inr rfl) n_dic0)
 (ws_cons (w_forD (fg := [2, 3]) (passes_of rfl) rfl (v_var 0) (g_name (i := 2) sc_law_copy.nd rfl (by first | exact .inl rfl | exact .inr rfl))
 (ws_cons (w_put (n := 1) hr.hu1 n_dic0 (l_name 1) (v_var 2))
 (ws_one (w_for (fg := [3]) (passes_of rfl) rfl (i_seq (v_n (n_bu (call_sortX rfl) bul_sorted (by rfl) (B.b_sorted) bt_sorted (x_val (v_ix hr.hu1 (v_var 0) (v_var 2)) x_nil)))) (g_name (i := 3) sc_law_copy.nd rfl (by first | exact .inl rfl | exact .inr rfl))
 (ws_one (w_put (n := 0) hr.hu1 (n_v (v_ix hr.hu1 (v_ix hr.hu1 (v_var 0) (v_var 2)) (v_var 3))) (l_sub (W := W0) hr.hu1 (l_name 1) (v_var 2)) (v_var 3)))))))
 (ws_one (w_retN (n_var 2 1)))))
theorem w_law_after (B : Bt mg) (D_law_copy : DefG P w K mg base 1 "_law_copy" [0] 2 m_law_copy)  {f : Addr} {fd : FuncData} (F : Fun K "_law_after" "_law_after" s_law_after f fd) : FnG P w K mg base 2 f fd ["house", "edit"] (SpM K mg [0, 0] 2 m_law_after) :=
  fn_body F sc_law_after [0, 0] 1 2 g_law_after rfl rfl fun cdv A outer s H E hr =>
 (ws_cons (w_own (n := 2) (i := 2) sc_law_after.nd rfl (by first | exact .inl rfl | exact .inr rfl) (c_new D_law_copy (takes_of rfl rfl rfl rfl) hr (by rfl) (x_val (v_var 0) x_nil)))
 (ws_cons (w_if (b_cmp (o_eq hr.hu66) opv_eq (v_ix hr.hu1 (v_var 1) v_int) v_str (nomark _))
 (ws_one (w_put (n := 0) hr.hu1 (n_v (v_ix hr.hu1 (v_var 1) v_int)) (l_sub (W := W0) hr.hu1 (l_name 2) (v_ix hr.hu1 (v_var 1) v_int)) (v_ix hr.hu1 (v_var 1) v_int)))
 (ws_one (w_popD (W := _) (l_sub (W := W0) hr.hu1 (l_name 2) (v_ix hr.hu1 (v_var 1) v_int)) (v_ix hr.hu1 (v_var 1) v_int) ⟨rfl, rfl, rfl, rfl⟩)))
 (ws_one (w_retN (c_new D_law_copy (takes_of rfl rfl rfl rfl) hr (by rfl) (x_val (v_frz 2) x_nil))))))
theorem w_law_edits (B : Bt mg) (D_law_copy : DefG P w K mg base 1 "_law_copy" [0] 2 m_law_copy) (D_law_draw : DefG P w K mg base 1 "_law_draw" [0, 1, 0] 0 m_law_draw) (D_law_entry : DefG P w K mg base 2 "_law_entry" [0, 1] 0 m_law_entry) (D_law_after : DefG P w K mg base 2 "_law_after" [0, 0] 2 m_law_after)  {f : Addr} {fd : FuncData} (F : Fun K "_law_edits" "_law_edits" s_law_edits f fd) : FnG P w K mg base 3 f fd ["jar", "at", "house", "many"] (SpM K mg [0, 1, 0, 0] 0 m_law_edits) :=
  fn_body F sc_law_edits [0, 1, 0, 0] 6 0 g_law_edits rfl rfl fun cdv A outer s H E hr =>
 (ws_cons (w_own (n := 1) (i := 4) sc_law_edits.nd rfl (by first | exact .inl rfl | exact .inr rfl) n_lst0)
 (ws_cons (w_set (i := 5) sc_law_edits.nd rfl (by first | exact .inl rfl | exact .inr rfl) (c_call D_law_copy (takes_of rfl rfl rfl rfl) hr (by rfl) (x_val (v_var 2) x_nil)))
 (ws_cons (w_for (fg := [6, 7, 8, 9]) (passes_of rfl) rfl (i_range1 (v_var 3) (by rfl) (B.b_range)) (g_name (i := 6) sc_law_edits.nd rfl (by first | exact .inl rfl | exact .inr rfl))
 (ws_cons (w_set (i := 7) sc_law_edits.nd rfl (by first | exact .inl rfl | exact .inr rfl) (v_n (n_ty (call_listX rfl) bul_list (by rfl) (B.b_list) bt_list (x_val (v_var 2) x_nil))))
 (ws_cons (w_set (i := 8) sc_law_edits.nd rfl (by first | exact .inl rfl | exact .inr rfl) (v_ix hr.hu1 (v_var 7) (c_lend D_law_draw (takes_of rfl rfl rfl rfl) hr (by rfl) (x_val (v_var 0) (x_box 1 (x_val (v_bu call_lenX buv_len (by rfl) (B.b_len) bt_len (x_val (v_var 7) x_nil)) x_nil))))))
 (ws_cons (w_set (i := 9) sc_law_edits.nd rfl (by first | exact .inl rfl | exact .inr rfl) (v_ix hr.hu1 (v_lst (a_cons v_str (a_cons v_str (a_cons v_str (a_cons v_str (a_cons v_str a_nil)))))) (c_lend D_law_draw (takes_of rfl rfl rfl rfl) hr (by rfl) (x_val (v_var 0) (x_box 1 (x_val v_int x_nil))))))
 (ws_cons (w_if (bw_and (b_cmp (o_eq hr.hu66) opv_eq (c_lend D_law_draw (takes_of rfl rfl rfl rfl) hr (by rfl) (x_val (v_var 0) (x_box 1 (x_val v_int x_nil)))) v_int (nomark _)) (bw_and1 (b_in hr.hu66 (v_var 9) (v_ix hr.hu1 (v_var 5) (v_var 8)) (by rfl)))).pt
 (ws_one (w_app (n := 0) (l_name 4) (n_v (v_tup (a_cons v_str (a_cons (v_var 8) (a_cons (v_var 9) a_nil)))))))
 (ws_one (w_app (n := 0) (l_name 4) (n_v (v_tup (a_cons v_str (a_cons (v_var 8) (a_cons (v_var 9) (a_cons (c_lend D_law_entry (takes_of rfl rfl rfl rfl) hr (by rfl) (x_val (v_var 0) (x_box 1 x_nil))) a_nil)))))))))
 (ws_one (w_set (i := 5) sc_law_edits.nd rfl (by first | exact .inl rfl | exact .inr rfl) (c_call D_law_after (takes_of rfl rfl rfl rfl) hr (by rfl) (x_val (v_var 5) (x_val (v_ix hr.hu1 (v_var 4) (v_bin op_sub opv_sub (v_bu call_lenX buv_len (by rfl) (B.b_len) bt_len (x_val (v_var 4) x_nil)) v_int)) x_nil))))))))))
 (ws_one (w_ret (v_frz 4))))))
theorem w_law_grown (B : Bt mg) (D_law_copy : DefG P w K mg base 1 "_law_copy" [0] 2 m_law_copy) (D_law_edits : DefG P w K mg base 3 "_law_edits" [0, 1, 0, 0] 0 m_law_edits) (D_law_after : DefG P w K mg base 2 "_law_after" [0, 0] 2 m_law_after)  {f : Addr} {fd : FuncData} (F : Fun K "_law_grown" "_law_grown" s_law_grown f fd) : FnG P w K mg base 4 f fd ["jar", "at", "base", "many"] (SpM K mg [0, 1, 0, 0] 2 m_law_grown) :=
  fn_body F sc_law_grown [0, 1, 0, 0] 2 2 g_law_grown rfl rfl fun cdv A outer s H E hr =>
 (ws_cons (w_own (n := 2) (i := 4) sc_law_grown.nd rfl (by first | exact .inl rfl | exact .inr rfl) (c_new D_law_copy (takes_of rfl rfl rfl rfl) hr (by rfl) (x_val (v_var 2) x_nil)))
 (ws_cons (w_for (fg := [5]) (passes_of rfl) rfl (i_seq (c_lend D_law_edits (takes_of rfl rfl rfl rfl) hr (by rfl) (x_val (v_var 0) (x_box 1 (x_val (v_var 2) (x_val (v_var 3) x_nil)))))) (g_name (i := 5) sc_law_grown.nd rfl (by first | exact .inl rfl | exact .inr rfl))
 (ws_one (w_own (n := 2) (i := 4) sc_law_grown.nd rfl (by first | exact .inl rfl | exact .inr rfl) (c_new D_law_after (takes_of rfl rfl rfl rfl) hr (by rfl) (x_val (v_frz 4) (x_val (v_var 5) x_nil))))))
 (ws_one (w_retN (n_var 2 4)))))
theorem w_law_entry_at (B : Bt mg)   {f : Addr} {fd : FuncData} (F : Fun K "_law_entry_at" "_law_entry_at" s_law_entry_at f fd) : FnG P w K mg base 1 f fd ["house", "key", "name"] (SpM K mg [0, 0, 0] 0 m_law_entry_at) :=
  fn_body F sc_law_entry_at [0, 0, 0] 0 0 g_law_entry_at rfl rfl fun cdv A outer s H E hr =>
 (ws_cons (w_if (b_in hr.hu66 (v_var 2) (v_ix hr.hu1 (v_var 0) (v_var 1)) (by rfl))
 (ws_one (w_ret (v_lst (a_cons (v_ix hr.hu1 (v_ix hr.hu1 (v_var 0) (v_var 1)) (v_var 2)) a_nil))))
 ws_nil)
 (ws_one (w_ret (v_lst a_nil))))
theorem w_law_merge (B : Bt mg) (D_law_entry_at : DefG P w K mg base 1 "_law_entry_at" [0, 0, 0] 0 m_law_entry_at)  {f : Addr} {fd : FuncData} (F : Fun K "_law_merge" "_law_merge" s_law_merge f fd) : FnG P w K mg base 2 f fd ["base", "one", "two"] (SpM K mg [0, 0, 0] 0 m_law_merge) :=
  fn_body F sc_law_merge [0, 0, 0] 8 0 g_law_merge rfl rfl fun cdv A outer s H E hr =>
 (ws_cons (w_own (n := 2) (i := 3) sc_law_merge.nd rfl (by first | exact .inl rfl | exact .inr rfl) n_dic0)
 (ws_cons (w_own (n := 1) (i := 4) sc_law_merge.nd rfl (by first | exact .inl rfl | exact .inr rfl) n_lst0)
 (ws_cons (w_forD (fg := [5, 6, 7, 8, 9, 10]) (passes_of rfl) rfl (v_var 0) (g_name (i := 5) sc_law_merge.nd rfl (by first | exact .inl rfl | exact .inr rfl))
 (ws_cons (w_put (n := 1) hr.hu1 n_dic0 (l_name 3) (v_var 5))
 (ws_one (w_for (fg := [6, 7, 8, 9, 10]) (passes_of rfl) rfl (i_seq (v_lst (a_cons v_str (a_cons v_str (a_cons v_str (a_cons v_str (a_cons v_str a_nil))))))) (g_name (i := 6) sc_law_merge.nd rfl (by first | exact .inl rfl | exact .inr rfl))
 (ws_cons (w_set (i := 7) sc_law_merge.nd rfl (by first | exact .inl rfl | exact .inr rfl) (c_call D_law_entry_at (takes_unl (takes_of rfl rfl rfl rfl)) hr (by rfl) (x_val (v_var 0) (x_val (v_var 5) (x_val (v_var 6) x_nil)))))
 (ws_cons (w_set (i := 8) sc_law_merge.nd rfl (by first | exact .inl rfl | exact .inr rfl) (c_call D_law_entry_at (takes_unl (takes_of rfl rfl rfl rfl)) hr (by rfl) (x_val (v_var 1) (x_val (v_var 5) (x_val (v_var 6) x_nil)))))
 (ws_cons (w_set (i := 9) sc_law_merge.nd rfl (by first | exact .inl rfl | exact .inr rfl) (c_call D_law_entry_at (takes_unl (takes_of rfl rfl rfl rfl)) hr (by rfl) (x_val (v_var 2) (x_val (v_var 5) (x_val (v_var 6) x_nil)))))
 (ws_cons (w_set (i := 10) sc_law_merge.nd rfl (by first | exact .inl rfl | exact .inr rfl) (v_var 7))
 (ws_cons (w_if (bw_or (b_cmp (o_eq hr.hu66) opv_eq (v_var 8) (v_var 9) (nomark _)) (bw_or1 (b_cmp (o_eq hr.hu66) opv_eq (v_var 9) (v_var 7) (nomark _)))).pt
 (ws_one (w_set (i := 10) sc_law_merge.nd rfl (by first | exact .inl rfl | exact .inr rfl) (v_var 8)))
 (ws_one (w_if (b_cmp (o_eq hr.hu66) opv_eq (v_var 8) (v_var 7) (nomark _))
 (ws_one (w_set (i := 10) sc_law_merge.nd rfl (by first | exact .inl rfl | exact .inr rfl) (v_var 9)))
 (ws_one (w_app (n := 0) (l_name 4) (n_v (v_tup (a_cons (v_var 5) (a_cons (v_var 6) a_nil)))))))))
 (ws_one (w_if (b_tru (v_var 10))
 (ws_one (w_put (n := 0) hr.hu1 (n_v (v_ix hr.hu1 (v_var 10) v_int)) (l_sub (W := W0) hr.hu1 (l_name 3) (v_var 5)) (v_var 6)))
 ws_nil)))))))))))
 (ws_one (w_ret (v_tup (a_cons (v_frz 3) (a_cons (v_n (n_bu cr_sortQ bul_sortQ (by rfl) (B.b_sorted) bt_sorted (x_val (v_var 4) x_nil))) a_nil))))))))
theorem w_same_keys (B : Bt mg)   {f : Addr} {fd : FuncData} (F : Fun K "same_keys" "same_keys" s_same_keys f fd) : FnG P w K mg base 1 f fd ["house", "other"] (SpM K mg [0, 0] 0 m_same_keys) :=
  fn_body F sc_same_keys [0, 0] 0 0 g_same_keys rfl rfl fun cdv A outer s H E hr =>
 (ws_one (w_ret (v_cmp (o_eq hr.hu66) opv_eq (v_n (n_bu (call_sortX rfl) bul_sorted (by rfl) (B.b_sorted) bt_sorted (x_val (v_var 0) x_nil))) (v_n (n_bu (call_sortX rfl) bul_sorted (by rfl) (B.b_sorted) bt_sorted (x_val (v_var 1) x_nil))) (nomark _))))
theorem w_check_keys (B : Bt mg) (D_same_keys : DefG P w K mg base 1 "same_keys" [0, 0] 0 m_same_keys) (E_Misfit : ExcC P w K mg base "Misfit" ["what", "name"] C_Misfit) {f : Addr} {fd : FuncData} (F : Fun K "check_keys" "check_keys" s_check_keys f fd) : FnG P w K mg base 3 f fd ["base", "houses"] (SpM K mg [0, 0] 0 m_check_keys) :=
  fn_body F sc_check_keys [0, 0] 1 0 g_check_keys rfl rfl fun cdv A outer s H E hr =>
 (ws_one (w_for (fg := [2]) (passes_of rfl) rfl (i_seq (v_var 1)) (g_name (i := 2) sc_check_keys.nd rfl (by first | exact .inl rfl | exact .inr rfl))
 (ws_one (w_if (b_not (b_val (c_call D_same_keys (takes_of rfl rfl rfl rfl) hr (by rfl) (x_val (v_var 0) (x_val (v_var 2) x_nil)))))
 (ws_one (w_raise (ExcC.raiseF E_Misfit (hr.room.mono (by decide))) rfl (takes_of rfl rfl rfl rfl) passes_no (by rfl) (a_cons v_str (a_cons v_str a_nil))))
 ws_nil))))
theorem w_names_of (B : Bt mg)   {f : Addr} {fd : FuncData} (F : Fun K "names_of" "names_of" s_names_of f fd) : FnG P w K mg base 1 f fd ["houses", "key"] (SpM K mg [0, 0] 0 m_names_of) :=
  fn_body F sc_names_of [0, 0] 3 0 g_names_of rfl rfl fun cdv A outer s H E hr =>
 (ws_cons (w_own (n := 1) (i := 2) sc_names_of.nd rfl (by first | exact .inl rfl | exact .inr rfl) n_dic0)
 (ws_cons (w_for (fg := [3, 4]) (passes_of rfl) rfl (i_seq (v_var 0)) (g_name (i := 3) sc_names_of.nd rfl (by first | exact .inl rfl | exact .inr rfl))
 (ws_one (w_forD (fg := [4]) (passes_of rfl) rfl (v_ix hr.hu1 (v_var 3) (v_var 1)) (g_name (i := 4) sc_names_of.nd rfl (by first | exact .inl rfl | exact .inr rfl))
 (ws_one (w_put (n := 0) hr.hu1 (n_v v_bl) (l_name 2) (v_var 4))))))
 (ws_one (w_ret (v_n (n_bu (call_sortX rfl) bul_sorted (by rfl) (B.b_sorted) bt_sorted (x_val (v_var 2) x_nil)))))))
theorem w_check_key (B : Bt mg)  (E_Unknown : ExcC P w K mg base "Unknown" ["what", "name"] C_Unknown) {f : Addr} {fd : FuncData} (F : Fun K "check_key" "check_key" s_check_key f fd) : FnG P w K mg base 3 f fd ["house", "key"] (SpM K mg [0, 0] 0 m_check_key) :=
  fn_body F sc_check_key [0, 0] 0 0 g_check_key rfl rfl fun cdv A outer s H E hr =>
 (ws_one (w_if (b_notIn hr.hu66 (v_var 1) (v_var 0) (by rfl))
 (ws_one (w_raise (ExcC.raiseF E_Unknown (hr.room.mono (by decide))) rfl (takes_of rfl rfl rfl rfl) passes_no (by rfl) (a_cons v_str (a_cons (v_var 1) a_nil))))
 ws_nil))
theorem w_entry_in (B : Bt mg) (D_check_key : DefG P w K mg base 3 "check_key" [0, 0] 0 m_check_key)  {f : Addr} {fd : FuncData} (F : Fun K "entry_in" "entry_in" s_entry_in f fd) : FnG P w K mg base 4 f fd ["house", "key", "name"] (SpM K mg [0, 0, 0] 0 m_entry_in) :=
  fn_body F sc_entry_in [0, 0, 0] 0 0 g_entry_in rfl rfl fun cdv A outer s H E hr =>
 (ws_cons (w_expr (c_call D_check_key (takes_of rfl rfl rfl rfl) hr (by rfl) (x_val (v_var 0) (x_val (v_var 1) x_nil))))
 (ws_cons (w_if (b_in hr.hu66 (v_var 2) (v_ix hr.hu1 (v_var 0) (v_var 1)) (by rfl))
 (ws_one (w_ret (v_tup (a_cons v_bl (a_cons (v_ix hr.hu1 (v_ix hr.hu1 (v_var 0) (v_var 1)) (v_var 2)) a_nil)))))
 ws_nil)
 (ws_one (w_ret (v_tup (a_cons v_bl (a_cons v_non a_nil)))))))
theorem w_settled (B : Bt mg)   {f : Addr} {fd : FuncData} (F : Fun K "settled" "settled" s_settled f fd) : FnG P w K mg base 1 f fd ["base", "one", "two"] (SpM K mg [0, 0, 0] 0 m_settled) :=
  fn_body F sc_settled [0, 0, 0] 0 0 g_settled rfl rfl fun cdv A outer s H E hr =>
 (ws_cons (w_if (bw_or (b_cmp (o_eq hr.hu66) opv_eq (v_var 1) (v_var 2) (nomark _)) (bw_or1 (b_cmp (o_eq hr.hu66) opv_eq (v_var 2) (v_var 0) (nomark _)))).pt
 (ws_one (w_ret (v_tup (a_cons v_bl (a_cons (v_var 1) a_nil)))))
 ws_nil)
 (ws_cons (w_if (b_cmp (o_eq hr.hu66) opv_eq (v_var 1) (v_var 0) (nomark _))
 (ws_one (w_ret (v_tup (a_cons v_bl (a_cons (v_var 2) a_nil)))))
 ws_nil)
 (ws_one (w_ret (v_tup (a_cons v_bl (a_cons (v_var 0) a_nil)))))))
theorem w_merge (B : Bt mg) (D_check_keys : DefG P w K mg base 3 "check_keys" [0, 0] 0 m_check_keys) (D_names_of : DefG P w K mg base 1 "names_of" [0, 0] 0 m_names_of) (D_entry_in : DefG P w K mg base 4 "entry_in" [0, 0, 0] 0 m_entry_in) (D_settled : DefG P w K mg base 1 "settled" [0, 0, 0] 0 m_settled)  {f : Addr} {fd : FuncData} (F : Fun K "merge" "merge" s_merge f fd) : FnG P w K mg base 5 f fd ["base", "one", "two"] (SpM K mg [0, 0, 0] 3 m_merge) :=
  fn_body F sc_merge [0, 0, 0] 9 3 g_merge rfl rfl fun cdv A outer s H E hr =>
 (ws_cons (w_expr (c_call D_check_keys (takes_of rfl rfl rfl rfl) hr (by rfl) (x_val (v_var 0) (x_val (v_lst (a_cons (v_var 1) (a_cons (v_var 2) a_nil))) x_nil))))
 (ws_cons (w_own (n := 2) (i := 3) sc_merge.nd rfl (by first | exact .inl rfl | exact .inr rfl) n_dic0)
 (ws_cons (w_own (n := 1) (i := 4) sc_merge.nd rfl (by first | exact .inl rfl | exact .inr rfl) n_lst0)
 (ws_cons (w_forD (fg := [5, 6, 7, 8, 10, 11]) (passes_of rfl) rfl (v_var 0) (g_name (i := 5) sc_merge.nd rfl (by first | exact .inl rfl | exact .inr rfl))
 (ws_cons (w_own (n := 1) (i := 6) sc_merge.nd rfl (by first | exact .inl rfl | exact .inr rfl) n_dic0)
 (ws_cons (w_for (fg := [7, 8, 10, 11]) (passes_of rfl) rfl (i_seq (c_call D_names_of (takes_unl (takes_of rfl rfl rfl rfl)) hr (by rfl) (x_val (v_lst (a_cons (v_var 0) (a_cons (v_var 1) (a_cons (v_var 2) a_nil)))) (x_val (v_var 5) x_nil)))) (g_name (i := 7) sc_merge.nd rfl (by first | exact .inl rfl | exact .inr rfl))
 (ws_cons (w_setLc (i := 8) (own := [("other", 9)]) (n := 0) rfl sc_merge.nd rfl (i_seq (v_tup (a_cons (v_var 0) (a_cons (v_var 1) (a_cons (v_var 2) a_nil))))) (blkOk_by (N := N_merge) (sc := (defScope s_merge)) (by decide +kernel)) (fun _ _ _ _ _ => (g_name (i := 9) sc_merge.nd rfl (by first | exact .inl rfl | exact .inr rfl))) (by decide) (fun _ _ _ _ _ => pts_yes) (fun _ _ _ _ _ => (n_v (c_call D_entry_in tk0 hr (by rfl) (x_val (v_var 9) (x_val (v_var 5) (x_val (v_var 7) x_nil)))))))
 (ws_cons (w_unp (c_call D_settled (takes_unl (takes_of rfl rfl rfl rfl)) hr (by rfl) (x_val (v_ix hr.hu1 (v_var 8) v_int) (x_val (v_ix hr.hu1 (v_var 8) v_int) (x_val (v_ix hr.hu1 (v_var 8) v_int) x_nil)))) (g_tup rfl (gs_cons (i := 10) sc_merge.nd rfl (by first | exact .inl rfl | exact .inr rfl) (gs_cons (i := 11) sc_merge.nd rfl (by first | exact .inl rfl | exact .inr rfl) gs_nil))))
 (ws_cons (w_if (b_val (v_var 10))
 (ws_one (w_app (n := 0) (l_name 4) (n_v (v_tup (a_cons (v_var 5) (a_cons (v_var 7) a_nil))))))
 ws_nil)
 (ws_one (w_if (b_val (v_ix hr.hu1 (v_var 11) v_int))
 (ws_one (w_put (n := 0) hr.hu1 (n_v (v_ix hr.hu1 (v_var 11) v_int)) (l_name 6) (v_var 7)))
 ws_nil))))))
 (ws_one (w_put (n := 1) hr.hu1 (n_var 1 6) (l_name 3) (v_var 5))))))
 (ws_one (w_retN (n_tupO (n_var 2 3) (a_cons (v_n (n_bu cr_sortQ bul_sortQ (by rfl) (B.b_sorted) bt_sorted (x_val (v_var 4) x_nil))) a_nil))))))))
theorem w_law_same (B : Bt mg)   {f : Addr} {fd : FuncData} (F : Fun K "_law_same" "_law_same" s_law_same f fd) : FnG P w K mg base 1 f fd ["told", "house"] (SpM K mg [0, 0] 0 m_law_same) :=
  fn_body F sc_law_same [0, 0] 1 0 g_law_same rfl rfl fun cdv A outer s H E hr =>
 (ws_cons (w_if (bw_or (b_not (b_val (v_isi (v_var 0) (by rfl) (B.b_isinstance) bt_isinstance (by rfl) (B.b_dict) bt_dict))) (bw_or1 (b_cmp (o_ne hr.hu66) opv_ne (v_n (n_ty (call_listX rfl) bul_list (by rfl) (B.b_list) bt_list (x_val (v_var 0) x_nil))) (v_n (n_ty (call_listX rfl) bul_list (by rfl) (B.b_list) bt_list (x_val (v_var 1) x_nil))) (nomark _)))).pt
 (ws_one (w_ret v_bl))
 ws_nil)
 (ws_cons (w_forD (fg := [2]) (passes_of rfl) rfl (v_var 1) (g_name (i := 2) sc_law_same.nd rfl (by first | exact .inl rfl | exact .inr rfl))
 (ws_one (w_if (bw_or (b_not (b_val (v_isi (v_ix hr.hu1 (v_var 0) (v_var 2)) (by rfl) (B.b_isinstance) bt_isinstance (by rfl) (B.b_dict) bt_dict))) (bw_or (b_cmp (o_ne hr.hu66) opv_ne (v_n (n_ty (call_listX rfl) bul_list (by rfl) (B.b_list) bt_list (x_val (v_ix hr.hu1 (v_var 0) (v_var 2)) x_nil))) (v_n (n_bu (call_sortX rfl) bul_sorted (by rfl) (B.b_sorted) bt_sorted (x_val (v_ix hr.hu1 (v_var 1) (v_var 2)) x_nil))) (nomark _)) (bw_or1 (b_cmp (o_ne hr.hu66) opv_ne (v_ix hr.hu1 (v_var 0) (v_var 2)) (v_ix hr.hu1 (v_var 1) (v_var 2)) (nomark _))))).pt
 (ws_one (w_ret v_bl))
 ws_nil)))
 (ws_one (w_ret v_bl))))
theorem w_conflicts (B : Bt mg) (D_merge : DefG P w K mg base 5 "merge" [0, 0, 0] 3 m_merge)  {f : Addr} {fd : FuncData} (F : Fun K "conflicts" "conflicts" s_conflicts f fd) : FnG P w K mg base 6 f fd ["base", "one", "two"] (SpM K mg [0, 0, 0] 0 m_conflicts) :=
  fn_body F sc_conflicts [0, 0, 0] 0 0 g_conflicts rfl rfl fun cdv A outer s H E hr =>
 (ws_one (w_ret (v_ix hr.hu1 (c_call D_merge (takes_of rfl rfl rfl rfl) hr (by rfl) (x_val (v_var 0) (x_val (v_var 1) (x_val (v_var 2) x_nil)))) v_int)))
theorem w_law_says (B : Bt mg)   {f : Addr} {fd : FuncData} (F : Fun K "_law_says" "_law_says" s_law_says f fd) : FnG P w K mg base 1 f fd ["actual", "due"] (SpM K mg [0, 0] 0 m_law_says) :=
  fn_body F sc_law_says [0, 0] 0 0 g_law_says rfl rfl fun cdv A outer s H E hr =>
 (ws_one (w_ret (v_and (v_isi (v_var 0) (by rfl) (B.b_isinstance) bt_isinstance (by rfl) (B.b_bool) bt_bool) (v_one (v_cmp (o_eq hr.hu66) opv_eq (v_var 0) (v_var 1) (nomark _))))))
theorem w_same_house (B : Bt mg) (D_same_keys : DefG P w K mg base 1 "same_keys" [0, 0] 0 m_same_keys)  {f : Addr} {fd : FuncData} (F : Fun K "same_house" "same_house" s_same_house f fd) : FnG P w K mg base 2 f fd ["house", "other"] (SpM K mg [0, 0] 0 m_same_house) :=
  fn_body F sc_same_house [0, 0] 1 0 g_same_house rfl rfl fun cdv A outer s H E hr =>
 (ws_one (w_ret (v_and (c_call D_same_keys (takes_of rfl rfl rfl rfl) hr (by rfl) (x_val (v_var 0) (x_val (v_var 1) x_nil))) (v_one (v_bu (cr_all rfl) buv_all (by rfl) (B.b_all) bt_all (x_val (v_n (n_lcD (own := [("key", 2)]) (n := 0) rfl sc_same_house.nd (v_var 0) (blkOk_by (N := N_same_house) (sc := (defScope s_same_house)) (by decide +kernel)) (fun _ _ _ _ _ => (g_name (i := 2) sc_same_house.nd rfl (by first | exact .inl rfl | exact .inr rfl))) (by decide) (fun _ _ _ _ _ => pts_yes) (fun _ _ _ _ _ => (n_v (v_cmp (o_eq hr.hu66) opv_eq (v_ix hr.hu1 (v_var 0) (v_var 2)) (v_ix hr.hu1 (v_var 1) (v_var 2)) (nomark _)))))) x_nil))))))
theorem w_is_merge (B : Bt mg) (D_merge : DefG P w K mg base 5 "merge" [0, 0, 0] 3 m_merge) (D_same_house : DefG P w K mg base 2 "same_house" [0, 0] 0 m_same_house)  {f : Addr} {fd : FuncData} (F : Fun K "is_merge" "is_merge" s_is_merge f fd) : FnG P w K mg base 6 f fd ["base", "one", "two", "house"] (SpM K mg [0, 0, 0, 0] 0 m_is_merge) :=
  fn_body F sc_is_merge [0, 0, 0, 0] 2 0 g_is_merge rfl rfl fun cdv A outer s H E hr =>
 (ws_cons (w_unp (c_call D_merge (takes_of rfl rfl rfl rfl) hr (by rfl) (x_val (v_var 0) (x_val (v_var 1) (x_val (v_var 2) x_nil)))) (g_tup rfl (gs_cons (i := 4) sc_is_merge.nd rfl (by first | exact .inl rfl | exact .inr rfl) (gs_cons (i := 5) sc_is_merge.nd rfl (by first | exact .inl rfl | exact .inr rfl) gs_nil))))
 (ws_one (w_ret (v_and (v_cmp (o_eq hr.hu66) opv_eq (v_var 5) (v_lst a_nil) (nomark _)) (v_one (c_call D_same_house (takes_of rfl rfl rfl rfl) hr (by rfl) (x_val (v_var 4) (x_val (v_var 3) x_nil))))))))
theorem w_law_refusal (B : Bt mg) (D_merge : DefG P w K mg base 5 "merge" [0, 0, 0] 3 m_merge) (E_Misfit : ExcC P w K mg base "Misfit" ["what", "name"] C_Misfit) (M_Misfit : ∀ (m : Str) (b : Bool), mt_Misfit m = some b → ∃ p, mg m = some (.ref p) ∧ PySem.W.exmOne K (.ref p) (.ref C_Misfit) = some b) {f : Addr} {fd : FuncData} (F : Fun K "_law_refusal" "_law_refusal" s_law_refusal f fd) : FnG P w K mg base 6 f fd ["base", "one", "two"] (SpM K mg [0, 0, 0] 0 m_law_refusal) :=
  fn_body F sc_law_refusal [0, 0, 0] 1 0 g_law_refusal rfl rfl fun cdv A outer s H E hr =>
 (ws_cons (w_tryAs (i := 3) rfl rfl sc_law_refusal.nd rfl rfl ⟨rfl, by decide, .inl E_Misfit.at_⟩ (takes_of rfl rfl rfl rfl) M_Misfit
 (fun W tpn txe tkT pwT => (ws_one (w_expr (c_call D_merge tkT hr (by rfl) (x_val (v_var 0) (x_val (v_var 1) (x_val (v_var 2) x_nil)))))))
 (fun ta toe tcls td tpn thz thf => wx_one (wx_ret (x_tup (ax_cons (x_fld (i := 3) (f := "what") E_Misfit.xf E_Misfit.at_ (E_Misfit.no _ (by decide)) thz thf rfl (by first | exact Or.inl rfl | exact Or.inr (Or.inl rfl))) (ax_cons (x_fld (i := 3) (f := "name") E_Misfit.xf E_Misfit.at_ (E_Misfit.no _ (by decide)) thz thf rfl (by first | exact Or.inl rfl | exact Or.inr (Or.inl rfl))) ax_nil))))))
 (ws_one (w_ret (v_tup (a_cons v_str (a_cons v_str a_nil))))))
theorem w_law (B : Bt mg) (D_law_jar : DefG P w K mg base 1 "_law_jar" [0] 0 m_law_jar) (D_law_house : DefG P w K mg base 3 "_law_house" [0, 1] 0 m_law_house) (D_law_grown : DefG P w K mg base 4 "_law_grown" [0, 1, 0, 0] 2 m_law_grown) (D_law_draw : DefG P w K mg base 1 "_law_draw" [0, 1, 0] 0 m_law_draw) (D_law_merge : DefG P w K mg base 2 "_law_merge" [0, 0, 0] 0 m_law_merge) (D_merge : DefG P w K mg base 5 "merge" [0, 0, 0] 3 m_merge) (D_law_same : DefG P w K mg base 1 "_law_same" [0, 0] 0 m_law_same) (D_conflicts : DefG P w K mg base 6 "conflicts" [0, 0, 0] 0 m_conflicts) (D_law_says : DefG P w K mg base 1 "_law_says" [0, 0] 0 m_law_says) (D_is_merge : DefG P w K mg base 6 "is_merge" [0, 0, 0, 0] 0 m_is_merge) (D_law_copy : DefG P w K mg base 1 "_law_copy" [0] 2 m_law_copy) (D_law_refusal : DefG P w K mg base 6 "_law_refusal" [0, 0, 0] 0 m_law_refusal)  {f : Addr} {fd : FuncData} (F : Fun K "law" "law" s_law f fd) : FnG P w K mg base 7 f fd ["script"] (SpM K mg [0] 0 m_law) :=
  fn_body F sc_law [0] 14 0 g_law rfl rfl fun cdv A outer s H E hr =>
 (ws_cons (w_set (i := 1) sc_law.nd rfl (by first | exact .inl rfl | exact .inr rfl) (c_call D_law_jar (takes_of rfl rfl rfl rfl) hr (by rfl) (x_val (v_var 0) x_nil)))
 (ws_cons (w_own (n := 1) (i := 2) sc_law.nd rfl (by first | exact .inl rfl | exact .inr rfl) (n_lst (a_cons v_int a_nil)))
 (ws_cons (w_set (i := 3) sc_law.nd rfl (by first | exact .inl rfl | exact .inr rfl) (c_lend D_law_house (takes_of rfl rfl rfl rfl) hr (by rfl) (x_val (v_var 1) (x_box 2 x_nil))))
 (ws_cons (w_own (n := 2) (i := 4) sc_law.nd rfl (by first | exact .inl rfl | exact .inr rfl) (c_new D_law_grown (takes_of rfl rfl rfl rfl) hr (by rfl) (x_val (v_var 1) (x_box 2 (x_val (v_var 3) (x_val (c_lend D_law_draw (takes_of rfl rfl rfl rfl) hr (by rfl) (x_val (v_var 1) (x_box 2 (x_val v_int x_nil)))) x_nil))))))
 (ws_cons (w_own (n := 2) (i := 5) sc_law.nd rfl (by first | exact .inl rfl | exact .inr rfl) (c_new D_law_grown (takes_of rfl rfl rfl rfl) hr (by rfl) (x_val (v_var 1) (x_box 2 (x_val (v_var 3) (x_val (c_lend D_law_draw (takes_of rfl rfl rfl rfl) hr (by rfl) (x_val (v_var 1) (x_box 2 (x_val v_int x_nil)))) x_nil))))))
 (ws_cons (w_if (b_cmp (o_eq hr.hu66) opv_eq (c_lend D_law_draw (takes_of rfl rfl rfl rfl) hr (by rfl) (x_val (v_var 1) (x_box 2 (x_val v_int x_nil)))) v_int (nomark _))
 (ws_cons (w_set (i := 6) sc_law.nd rfl (by first | exact .inl rfl | exact .inr rfl) (v_ix hr.hu1 (v_n (n_ty (call_listX rfl) bul_list (by rfl) (B.b_list) bt_list (x_val (v_var 3) x_nil))) v_int))
 (ws_cons (w_put (n := 0) hr.hu1 (n_v (v_tup (a_cons v_str (a_cons v_int a_nil)))) (l_sub (W := W0) hr.hu1 (l_name 4) (v_var 6)) v_str)
 (ws_one (w_put (n := 0) hr.hu1 (n_v (v_tup (a_cons v_str (a_cons v_int a_nil)))) (l_sub (W := W0) hr.hu1 (l_name 5) (v_var 6)) v_str))))
 ws_nil)
 (ws_cons (w_set (i := 7) sc_law.nd rfl (by first | exact .inl rfl | exact .inr rfl) (v_bu (call_repr hr.gu hr.hu64) buv_repr (by rfl) (B.b_repr) bt_repr (x_val (v_tup (a_cons (v_var 3) (a_cons (v_frz 4) (a_cons (v_frz 5) a_nil)))) x_nil)))
 (ws_cons (w_unp (c_call D_law_merge (takes_of rfl rfl rfl rfl) hr (by rfl) (x_val (v_var 3) (x_val (v_frz 4) (x_val (v_frz 5) x_nil)))) (g_tup rfl (gs_cons (i := 8) sc_law.nd rfl (by first | exact .inl rfl | exact .inr rfl) (gs_cons (i := 9) sc_law.nd rfl (by first | exact .inl rfl | exact .inr rfl) gs_nil))))
 (ws_cons (w_own (n := 3) (i := 10) sc_law.nd rfl (by first | exact .inl rfl | exact .inr rfl) (c_new D_merge (takes_of rfl rfl rfl rfl) hr (by rfl) (x_val (v_var 3) (x_val (v_frz 4) (x_val (v_frz 5) x_nil)))))
 (ws_cons (w_if (b_scope [10] (bw_or (b_not (b_val (v_isi (v_var 10) (by rfl) (B.b_isinstance) bt_isinstance (by rfl) (B.b_tuple) bt_tuple))) (bw_or (b_cmp (o_ne hr.hu66) opv_ne (v_bu call_lenX buv_len (by rfl) (B.b_len) bt_len (x_val (v_var 10) x_nil)) v_int (nomark _)) (bw_or (b_not (b_val (c_call D_law_same (takes_of rfl rfl rfl rfl) hr (by rfl) (x_val (v_ix hr.hu1 (v_var 10) v_int) (x_val (v_var 8) x_nil))))) (bw_or (b_cmp (o_ne hr.hu66) opv_ne (v_ix hr.hu1 (v_var 10) v_int) (v_var 9) (nomark _)) (bw_or1 (b_not (b_val (v_isi (v_ix hr.hu1 (v_var 10) v_int) (by rfl) (B.b_isinstance) bt_isinstance (by rfl) (B.b_list) bt_list)))))))).pt)
 (ws_one (w_ret v_bl))
 ws_nil)
 (ws_cons (w_if (bw_or (b_cmp (o_ne hr.hu66) opv_ne (c_call D_conflicts (takes_of rfl rfl rfl rfl) hr (by rfl) (x_val (v_var 3) (x_val (v_frz 4) (x_val (v_frz 5) x_nil)))) (v_var 9) (nomark _)) (bw_or (b_cmp (o_ne hr.hu66) opv_ne (c_call D_conflicts (takes_of rfl rfl rfl rfl) hr (by rfl) (x_val (v_var 3) (x_val (v_frz 5) (x_val (v_frz 4) x_nil)))) (v_var 9) (nomark _)) (bw_or1 (b_not (b_val (c_call D_law_same (takes_of rfl rfl rfl rfl) hr (by rfl) (x_val (v_ix hr.hu1 (c_call D_merge (takes_of rfl rfl rfl rfl) hr (by rfl) (x_val (v_var 3) (x_val (v_frz 5) (x_val (v_frz 4) x_nil)))) v_int) (x_val (v_var 8) x_nil)))))))).pt
 (ws_one (w_ret v_bl))
 ws_nil)
 (ws_cons (w_for (fg := [11]) (passes_of rfl) rfl (i_seq (v_lst (a_cons (v_frz 4) (a_cons (v_frz 5) a_nil)))) (g_name (i := 11) sc_law.nd rfl (by first | exact .inl rfl | exact .inr rfl))
 (ws_one (w_if (bw_or (b_cmp (op_neG hr.hu72) opv_neG (c_call D_merge (takes_of rfl rfl rfl rfl) hr (by rfl) (x_val (v_var 3) (x_val (v_var 3) (x_val (v_var 11) x_nil)))) (v_tup (a_cons (v_var 11) (a_cons (v_lst a_nil) a_nil))) (nomark _)) (bw_or (b_cmp (op_neG hr.hu72) opv_neG (c_call D_merge (takes_of rfl rfl rfl rfl) hr (by rfl) (x_val (v_var 3) (x_val (v_var 11) (x_val (v_var 3) x_nil)))) (v_tup (a_cons (v_var 11) (a_cons (v_lst a_nil) a_nil))) (nomark _)) (bw_or1 (b_cmp (op_neG hr.hu72) opv_neG (c_call D_merge (takes_of rfl rfl rfl rfl) hr (by rfl) (x_val (v_var 3) (x_val (v_var 11) (x_val (v_var 11) x_nil)))) (v_tup (a_cons (v_var 11) (a_cons (v_lst a_nil) a_nil))) (nomark _))))).pt
 (ws_one (w_ret v_bl))
 ws_nil)))
 (ws_cons (w_if (b_not (b_val (c_call D_law_says (takes_of rfl rfl rfl rfl) hr (by rfl) (x_val (c_call D_is_merge (takes_of rfl rfl rfl rfl) hr (by rfl) (x_val (v_var 3) (x_val (v_var 4) (x_val (v_var 5) (x_val (c_call D_law_copy (takes_of rfl rfl rfl rfl) hr (by rfl) (x_val (v_var 8) x_nil)) x_nil))))) (x_val (v_cmp (o_eq hr.hu66) opv_eq (v_var 9) (v_lst a_nil) (nomark _)) x_nil)))))
 (ws_one (w_ret v_bl))
 ws_nil)
 (ws_cons (w_forD (fg := [12, 13]) (passes_of rfl) rfl (v_var 3) (g_name (i := 6) sc_law.nd rfl (by first | exact .inl rfl | exact .inr rfl))
 (ws_one (w_for (fg := [12, 13]) (passes_of rfl) rfl (i_seq (v_lst (a_cons v_str (a_cons v_str a_nil)))) (g_name (i := 12) sc_law.nd rfl (by first | exact .inl rfl | exact .inr rfl))
 (ws_cons (w_own (n := 2) (i := 13) sc_law.nd rfl (by first | exact .inl rfl | exact .inr rfl) (c_new D_law_copy (takes_unl (takes_of rfl rfl rfl rfl)) hr (by rfl) (x_val (v_var 8) x_nil)))
 (ws_cons (w_put (n := 0) hr.hu1 (n_v (v_tup (a_cons v_str (a_cons v_int a_nil)))) (l_sub (W := W0) hr.hu1 (l_name 13) (v_var 6)) (v_var 12))
 (ws_cons (w_if (b_cmp op_isnot_bl opv_notB (c_call D_is_merge (takes_unl (takes_of rfl rfl rfl rfl)) hr (by rfl) (x_val (v_var 3) (x_val (v_var 4) (x_val (v_var 5) (x_val (v_var 13) x_nil))))) v_bl (nomark _))
 (ws_one (w_ret v_bl))
 ws_nil)
 (ws_one (w_if (b_in hr.hu66 (v_var 12) (v_ix hr.hu1 (v_var 8) (v_var 6)) (by rfl))
 (ws_cons (w_popD (W := _) (l_sub (W := W0) hr.hu1 (l_name 13) (v_var 6)) (v_var 12) ⟨rfl, rfl, rfl, rfl⟩)
 (ws_one (w_if (b_cmp op_isnot_bl opv_notB (c_call D_is_merge (takes_unl (takes_of rfl rfl rfl rfl)) hr (by rfl) (x_val (v_var 3) (x_val (v_var 4) (x_val (v_var 5) (x_val (v_var 13) x_nil))))) v_bl (nomark _))
 (ws_one (w_ret v_bl))
 ws_nil)))
 ws_nil))))))))
 (ws_cons (w_own (n := 2) (i := 14) sc_law.nd rfl (by first | exact .inl rfl | exact .inr rfl) (c_new D_law_copy (takes_of rfl rfl rfl rfl) hr (by rfl) (x_val (v_frz 4) x_nil)))
 (ws_cons (w_put (n := 1) hr.hu1 n_dic0 (l_name 14) v_str)
 (ws_cons (w_if (bw_or (b_cmp (o_ne hr.hu66) opv_ne (c_call D_law_refusal (takes_of rfl rfl rfl rfl) hr (by rfl) (x_val (v_var 3) (x_val (v_frz 14) (x_val (v_frz 5) x_nil)))) (v_tup (a_cons v_str (a_cons v_str a_nil))) (nomark _)) (bw_or1 (b_cmp (o_ne hr.hu66) opv_ne (c_call D_law_refusal (takes_of rfl rfl rfl rfl) hr (by rfl) (x_val (v_var 3) (x_val (v_frz 5) (x_val (v_frz 14) x_nil)))) (v_tup (a_cons v_str (a_cons v_str a_nil))) (nomark _)))).pt
 (ws_one (w_ret v_bl))
 ws_nil)
 (ws_cons (w_if (bw_or (b_cmp (o_ne hr.hu66) opv_ne (c_call D_law_refusal (takes_of rfl rfl rfl rfl) hr (by rfl) (x_val (v_frz 14) (x_val (v_frz 4) (x_val (v_frz 5) x_nil)))) (v_tup (a_cons v_str (a_cons v_str a_nil))) (nomark _)) (bw_or1 (b_cmp op_isnot_bl opv_notB (c_call D_is_merge (takes_of rfl rfl rfl rfl) hr (by rfl) (x_val (v_var 3) (x_val (v_var 4) (x_val (v_var 5) (x_val (v_var 14) x_nil))))) v_bl (nomark _)))).pt
 (ws_one (w_ret v_bl))
 ws_nil)
 (ws_cons (w_forD (fg := []) (passes_of rfl) rfl (v_var 3) (g_name (i := 6) sc_law.nd rfl (by first | exact .inl rfl | exact .inr rfl))
 (ws_one (w_put (n := 0) hr.hu1 (n_v v_int) (l_sub (W := W0) hr.hu1 (l_sub (W := W0) hr.hu1 (l_name 10) v_int) (v_var 6)) v_str)))
 (ws_one (w_ret (v_and (v_cmp (o_eq hr.hu66) opv_eq (v_bu (call_repr hr.gu hr.hu64) buv_repr (by rfl) (B.b_repr) bt_repr (x_val (v_tup (a_cons (v_var 3) (a_cons (v_frz 4) (a_cons (v_frz 5) a_nil)))) x_nil)) (v_var 7) (nomark _)) (v_one (c_call D_law_same (takes_of rfl rfl rfl rfl) hr (by rfl) (x_val (v_ix hr.hu1 (c_call D_merge (takes_of rfl rfl rfl rfl) hr (by rfl) (x_val (v_var 3) (x_val (v_frz 4) (x_val (v_frz 5) x_nil)))) v_int) (x_val (v_var 8) x_nil))))))))))))))))))))))))))
end
end Gk80

namespace Gk80
open PySem PySem.Spec VL
theorem draw_nil (p many : Int) : m_law_draw [.lst [], .lst [.int p], .int many] = .ok (.int 0) [.lst [.int p]] := by
  simp [m_law_draw, ap_run, g_law_draw, initE, valsOf, lenD, outsE]
theorem draw_in (js : List Int) (p : Nat) (many : Int) (hm : 0 < many) (h : p < js.length) : m_law_draw [.lst (js.map .int), .lst [.int p], .int many] = .ok (.int ((js[p]'h) % many)) [.lst [.int (p + 1)]] := by
  have h0 : js ≠ [] := fun e => by subst e; simp at h
  have hl : ¬ ((js.length : Int) = 0) := by omega
  have ha : L2.atI (js.map D.int) (p : Int) = some (.int (js[p]'h)) := by
    rw [atI_pos (by omega) (by simp; omega)]
    simp [h]
  simp [m_law_draw, ap_run, g_law_draw, initE, valsOf, lenD, outsE, h0, h, hl, ha, intD, mod_ok hm, sPut, plN, putC, L2.ixN]
theorem draw_out (js : List Int) (hj : ∀ j ∈ js, 0 ≤ j ∧ j < 1000) (p : Nat) (hp : p < 1000000) (many : Int) (hm : 0 < many) (h : js.length ≤ p) (h0 : js ≠ []) :
    ∃ r, m_law_draw [.lst (js.map .int), .lst [.int p], .int many] = .ok (.int (r % many)) [.lst [.int (p + 1)]] := by
  have hl : ¬ ((js.length : Int) = 0) := by have := List.length_pos_iff.mpr h0; omega
  have hlp : (0 : Int) < js.length := by omega
  have hi : (((p : Int) % (js.length : Int))).toNat < js.length := by
    have h1 := Int.emod_nonneg (p : Int) hl
    have h2 := Int.emod_lt_of_pos (p : Int) hlp
    omega
  have ha : L2.atI (js.map D.int) ((p : Int) % (js.length : Int)) = some (.int (js[((p : Int) % (js.length : Int)).toNat]'hi)) := by
    rw [atI_pos (Int.emod_nonneg _ hl) (by rw [List.length_map]; exact Int.emod_lt_of_pos _ hlp)]
    simp [hi]
  obtain ⟨b1, b2⟩ := hj _ (List.getElem_mem hi)
  have hnl : ¬ p < js.length := by omega
  have hsm : js.length < 2 ^ 60 := by omega
  have hq : (((p : Int) / (js.length : Int))).natAbs < 2 ^ 60 := by
    have h1 : 0 ≤ (p : Int) / (js.length : Int) := Int.ediv_nonneg (by omega) (by omega)
    have h2 : (p : Int) / (js.length : Int) ≤ p := Int.ediv_le_self _ (by omega)
    omega
  have e1 : ∀ n m, dMul n (.int (js[((p : Int) % (js.length : Int)).toNat]'hi)) m (.int 61) = some (.int (js[((p : Int) % (js.length : Int)).toNat]'hi * 61)) := fun n m => mul_ok (by omega) (by decide)
  have e2 : ∀ n m, dMul n (.int (p : Int)) m (.int 37) = some (.int ((p : Int) * 37)) := fun n m => mul_ok (by omega) (by decide)
  have e3 : ∀ n m, dDiv n (.int (p : Int)) m (.int (js.length : Int)) = some (.int ((p : Int) / (js.length : Int))) := fun n m => div_ok hlp (by omega)
  have e4 : ∀ n m, dMul n (.int ((p : Int) / (js.length : Int))) m (.int 11) = some (.int ((p : Int) / (js.length : Int) * 11)) := fun n m => mul_ok hq (by decide)
  refine ⟨(js[((p : Int) % (js.length : Int)).toNat]'hi * 61 + (p : Int) * 37 + (p : Int) / (js.length : Int) * 11) % 983, ?_⟩
  simp [m_law_draw, ap_run, g_law_draw, initE, valsOf, lenD, outsE, h0, hnl, hl, ha, intD, mod_ok hm, mod_ok hlp, mod_ok (show (0 : Int) < 983 by decide), sPut, plN, putC, L2.ixN, e1, e2, e3, e4]
/-- a draw -/
theorem draw (js : List Int) (hj : ∀ j ∈ js, 0 ≤ j ∧ j < 1000) (p : Nat) (hp : p < 1000000) (many : Int) (hm : 0 < many) :
    ∃ (r : Int) (p' : Nat), m_law_draw [.lst (js.map .int), .lst [.int p], .int many] = .ok (.int r) [.lst [.int p']] ∧ 0 ≤ r ∧ r < many ∧ p' ≤ p + 1 := by
  by_cases h0 : js = []
  · subst h0
    exact ⟨0, p, draw_nil _ _, by omega, hm, by omega⟩
  · by_cases h : p < js.length
    · exact ⟨_, p + 1, draw_in js p many hm h, Int.emod_nonneg _ (by omega), Int.emod_lt_of_pos _ hm, by omega⟩
    · obtain ⟨r, e⟩ := draw_out js hj p hp many hm (by omega) h0
      exact ⟨_, p + 1, e, Int.emod_nonneg _ (by omega), Int.emod_lt_of_pos _ hm, by omega⟩
end Gk80

namespace Gk80
open PySem PySem.Spec VL
def Jar (js : List Int) : Prop := ∀ j ∈ js, 0 ≤ j ∧ j < 1000
theorem Jar.snoc {js : List Int} {j : Int} (h : Jar js) (h0 : 0 ≤ j) (h1 : j < 1000) : Jar (js ++ [j]) := fun x hx => by
  rcases List.mem_append.mp hx with hx | hx
  · exact h x hx
  · simp at hx; subst hx; exact ⟨h0, h1⟩
theorem jar_in (S0 : D) (at_ : Int) (c : D) (js : List Int) (n : Int) (hj : Jar js) (hl : js.length < 2000) (h0 : 0 ≤ n) :
    ∃ ρ', forL [5] (gN 5) b_law_jar_1 ((List.range 20).map fun i => .int (i : Nat)) [some (.val, S0), some (.own 1, .lst (js.map .int)), some (.val, .int at_), some (.val, c), some (.val, .int n), none, none] = .nx ρ' ∧
      ∃ js' n', Jar js' ∧ js'.length ≤ js.length + 20 ∧ ρ' = [some (.val, S0), some (.own 1, .lst (js'.map .int)), some (.val, .int at_), some (.val, c), some (.val, .int n'), none, none] := by
  obtain ⟨ρ', e, js', n', h1, h2, h3, h4⟩ := forL_ok (fg := [5]) (tg := gN 5) (body := b_law_jar_1) (fun k ρ => ∃ js' n', Jar js' ∧ js'.length ≤ js.length + k ∧ 0 ≤ n' ∧ ρ = [some (.val, S0), some (.own 1, .lst (js'.map .int)), some (.val, .int at_), some (.val, c), some (.val, .int n'), none, none])
    ((List.range 20).map fun i => .int (i : Nat)) 0 _ ⟨js, n, hj, by omega, h0, rfl⟩ (fun i d ρ ed hP => by
      obtain ⟨js', n', h1, h2, h3, rfl⟩ := hP
      have hi : i < 20 := by
        have := (List.getElem?_eq_some_iff.mp ed).1
        simpa using this
      by_cases hz : 0 < n'
      · refine ⟨[some (.val, S0), some (.own 1, .lst ((js' ++ [n' % 1000]).map .int)), some (.val, .int at_), some (.val, c), some (.val, .int (n' / 1000)), some (.val, d), none], ?_, js' ++ [n' % 1000], n' / 1000, h1.snoc (by omega) (by omega), by simp; omega, by omega, rfl⟩
        have hs : js'.length < sizeLine := size_big (by omega)
        have e1 : ∀ n m, dMod n (.int n') m (.int 1000) = some (.int (n' % 1000)) := fun _ _ => mod_ok (by decide)
        have e2 : ∀ n m, dDiv n (.int n') m (.int 1000) = some (.int (n' / 1000)) := fun _ _ => div_ok (by decide) (by decide)
        simp [b_law_jar_1, hz, sApp, plN, appC, hs, e1, e2]
      · refine ⟨[some (.val, S0), some (.own 1, .lst (js'.map .int)), some (.val, .int at_), some (.val, c), some (.val, .int n'), some (.val, d), none], ?_, js', n', h1, by omega, h3, rfl⟩
        simp [b_law_jar_1, hz])
  exact ⟨ρ', e, js', n', h1, by simpa using h2, h4⟩
theorem jar_step (S0 : D) (k : Nat) (hk : k < 63) (c : Int) (js : List Int) (hj : Jar js) (hl : js.length ≤ 20 * k) :
    ∃ ρ2, b_law_jar_2 [some (.val, S0), some (.own 1, .lst (js.map .int)), some (.val, .int k), some (.val, .int c), none, none, none] = .nx ρ2 ∧
      ∃ js', Jar js' ∧ js'.length ≤ 20 * (k + 1) ∧ forget [3, 4, 5, 6] ρ2 = [some (.val, S0), some (.own 1, .lst (js'.map .int)), some (.val, .int (k + 1)), none, none, none, none] := by
  obtain ⟨n, hn⟩ : ∃ n : Int, n = if c < 0 then -c else c := ⟨_, rfl⟩
  have hn0 : 0 ≤ n := by rw [hn]; split <;> omega
  by_cases hb : 1000000000000000000 ≤ n
  · obtain ⟨ρ', e, js', n', h1, h2, rfl⟩ := jar_in S0 (k + 1) (.int c) js n hj (by omega) hn0
    refine ⟨[some (.val, S0), some (.own 1, .lst (js'.map .int)), some (.val, .int ((k : Int) + 1)), some (.val, .int c), some (.val, .int n'), none, none], ?_, js', h1, by omega, rfl⟩
    have er := rng_ok (ρ := [some (.val, S0), some (.own 1, .lst (js.map .int)), some (.val, .int ((k : Int) + 1)), some (.val, .int c), some (.val, .int n), none, none]) (j := 20) (by decide)
    simp [b_law_jar_2, valsOf, intD, absD, ← hn, hb]
    rw [show (20 : Int) = ((20 : Nat) : Int) from rfl, er]
    simp only [bndS_ok]
    exact e
  · obtain ⟨low, hlo⟩ : ∃ low : Int, low = n % 1000003 := ⟨_, rfl⟩
    have l1 : 0 ≤ low := by omega
    have l2 : low < 1000003 := by omega
    have e1 : ∀ a m, dMod a (.int n) m (.int 1000003) = some (.int low) := fun _ _ => by rw [mod_ok (by decide), hlo]
    have e2 : ∀ a m, dMod a (.int low) m (.int 1000) = some (.int (low % 1000)) := fun _ _ => mod_ok (by decide)
    have e3 : ∀ a m, dMul a (.int 7) m (.int ((k : Int) + 1)) = some (.int (7 * ((k : Int) + 1))) := fun _ _ => mul_ok (by decide) (by omega)
    have e4 : ∀ a m, dMul a (.int low) m (.int (low + 7 * ((k : Int) + 1))) = some (.int (low * (low + 7 * ((k : Int) + 1)))) := fun _ _ => mul_ok (by omega) (by omega)
    have e5 : ∀ a m, dMod a (.int (low * (low + 7 * ((k : Int) + 1)))) m (.int 991) = some (.int (low * (low + 7 * ((k : Int) + 1)) % 991)) := fun _ _ => mod_ok (by decide)
    have e6 : ∀ a m, dMul a (.int low) m (.int (31 + ((k : Int) + 1))) = some (.int (low * (31 + ((k : Int) + 1)))) := fun _ _ => mul_ok (by omega) (by omega)
    have e7 : ∀ a m, dDiv a (.int (low * (31 + ((k : Int) + 1)))) m (.int 7) = some (.int (low * (31 + ((k : Int) + 1)) / 7)) := fun _ _ => div_ok (by decide) (by decide)
    have e8 : ∀ a m, dMod a (.int (low * (31 + ((k : Int) + 1)) / 7)) m (.int 997) = some (.int (low * (31 + ((k : Int) + 1)) / 7 % 997)) := fun _ _ => mod_ok (by decide)
    have s1 : js.length < sizeLine := size_big (by omega)
    have s2 : js.length + 1 < sizeLine := size_big (by omega)
    have s3 : js.length + 1 + 1 < sizeLine := size_big (by omega)
    refine ⟨[some (.val, S0), some (.own 1, .lst ((js ++ [low % 1000] ++ [low * (low + 7 * ((k : Int) + 1)) % 991] ++ [low * (31 + ((k : Int) + 1)) / 7 % 997]).map .int)), some (.val, .int ((k : Int) + 1)), some (.val, .int c), some (.val, .int n), none, some (.val, .int low)], ?_,
      js ++ [low % 1000] ++ [low * (low + 7 * ((k : Int) + 1)) % 991] ++ [low * (31 + ((k : Int) + 1)) / 7 % 997], ?_, by simp; omega, rfl⟩
    · simp [b_law_jar_2, valsOf, intD, absD, ← hn, hb, e1, e2, e3, e4, e5, e6, e7, e8, sApp, plN, appC, s1, s2, s3]
    · exact ((hj.snoc (by omega) (by omega)).snoc (Int.emod_nonneg _ (by decide)) (by have := Int.emod_lt_of_pos (low * (low + 7 * ((k : Int) + 1))) (show (0 : Int) < 991 by decide); omega)).snoc (Int.emod_nonneg _ (by decide)) (by have := Int.emod_lt_of_pos (low * (31 + ((k : Int) + 1)) / 7) (show (0 : Int) < 997 by decide); omega)
theorem jar_ok (ns : List Int) : ∃ js, Jar js ∧ m_law_jar [.sset (ns.map Sum.inl)] = .ok (.lst (js.map .int)) [] := by
  have ec : cutD (ns.map (keyD ∘ (Sum.inl : Int → L2.Key))) none (some 63) = (ns.take 63).map .int := by
    rw [show (63 : Int) = ((63 : Nat) : Int) from rfl, cutD_hi, ← List.map_take]
    rfl
  obtain ⟨ρ', e, js, hj, hl, e2⟩ := forL_ok (fg := [3, 4, 5, 6]) (tg := gN 3) (body := b_law_jar_2)
    (fun k ρ => ∃ js, Jar js ∧ js.length ≤ 20 * k ∧ ρ = [some (.val, .sset (ns.map Sum.inl)), some (.own 1, .lst (js.map .int)), some (.val, .int k), none, none, none, none]) ((ns.take 63).map .int) 0 [some (.val, .sset (ns.map Sum.inl)), some (.own 1, .lst []), some (.val, .int 0), none, none, none, none] ⟨[], fun _ z => (nomatch z), by simp, rfl⟩ (fun k d ρ ed hP => by
      rw [Nat.zero_add] at hP ⊢
      obtain ⟨js, hj, hl, rfl⟩ := hP
      have hk : k < 63 := by
        have := (List.getElem?_eq_some_iff.mp ed).1
        simp at this
        omega
      rw [List.getElem?_map] at ed
      obtain ⟨c, _, rfl⟩ := Option.map_eq_some_iff.mp ed
      exact jar_step _ k hk c js hj hl)
  refine ⟨js, hj, ?_⟩
  simp [m_law_jar, ap_run, g_law_jar, initE, ec, -List.map_take]
  try rw [← List.map_take]
  rw [e, e2]
  simp [outsE]
end Gk80

namespace Gk80
open PySem PySem.Spec VL
open L2 (Key)
/-- the rows of a table, ascending -/
def srt (t : Tb D) : Tb D := (sortS (names t)).filterMap fun n => (look t n).map fun e => (n, e)
def copyH (h : Tb (Tb D)) : Tb (Tb D) := h.map fun p => (p.1, srt p.2)
theorem srt_eq {t : Tb D} (nd : (names t).Nodup) {val : Str → D} (hv : ∀ n e, (n, e) ∈ t → val n = e) : srt t = (sortS (names t)).map fun n => (n, val n) := by
  unfold srt
  have hm : ∀ n ∈ sortS (names t), look t n = some (val n) := fun n hn => by
    have hn := (sortS_perm _).mem_iff.mp hn
    unfold names at hn
    obtain ⟨⟨a, b⟩, h1, h2⟩ := List.mem_map.mp hn
    simp at h2
    subst h2
    rw [hv _ _ h1]
    exact look_mem nd h1
  generalize sortS (names t) = l at hm
  induction l with
  | nil => rfl
  | cons n l ih =>
    rw [List.filterMap_cons, hm n List.mem_cons_self]
    simp only [Option.map_some, List.map_cons]
    rw [ih fun m hm' => hm m (List.mem_cons_of_mem _ hm')]
def valOf (t : Tb D) (n : Str) : D := (look t n).getD .non
theorem srt_val {t : Tb D} (nd : (names t).Nodup) : srt t = (sortS (names t)).map fun n => (n, valOf t n) :=
  srt_eq nd fun n e h => by unfold valOf; rw [look_mem nd h]; rfl
theorem names_srt {t : Tb D} (nd : (names t).Nodup) : names (srt t) = sortS (names t) := by
  rw [srt_val nd]
  unfold names
  rw [List.map_map]
  exact List.map_id _
theorem look_srt {t : Tb D} (nd : (names t).Nodup) (n : Str) : look (srt t) n = look t n := by
  have nds : (names (srt t)).Nodup := by rw [names_srt nd]; exact (sortS_perm _).nodup_iff.mpr nd
  cases e : look t n with
  | none =>
    rw [look_none] at e ⊢
    rw [names_srt nd]
    exact fun h => e ((sortS_perm _).mem_iff.mp h)
  | some x =>
    have h1 := look_some e
    refine look_mem nds ?_
    rw [srt_val nd]
    refine List.mem_map.mpr ⟨n, (sortS_perm _).mem_iff.mpr (List.mem_map.mpr ⟨_, h1, rfl⟩), ?_⟩
    unfold valOf
    rw [e]; rfl
/-- the sorted table hangs on the names and what stands under them alone -/
theorem srt_congr {t u : Tb D} (h1 : (names t).Nodup) (h2 : (names u).Nodup) (hn : ∀ n, look t n = look u n) : srt t = srt u := by
  have hp : (names t).Perm (names u) := by
    rw [List.perm_ext_iff_of_nodup h1 h2]
    intro a
    have q := hn a
    by_cases ha : a ∈ names t
    · by_cases hb : a ∈ names u
      · simp [ha, hb]
      · rw [look_none.mpr hb] at q
        exact absurd ha (look_none.mp q)
    · by_cases hb : a ∈ names u
      · rw [look_none.mpr ha] at q
        exact absurd hb (look_none.mp q.symm)
      · simp [ha, hb]
  have hs : sortS (names t) = sortS (names u) := by
    have p1 : (sortS (names t)).Pairwise (fun a b => sLe a b = true) := List.pairwise_mergeSort (le := sLe) sLe_trans sLe_total _
    have p2 : (sortS (names u)).Pairwise (fun a b => sLe a b = true) := List.pairwise_mergeSort (le := sLe) sLe_trans sLe_total _
    exact List.Perm.eq_of_pairwise (le := fun a b => sLe a b = true) (fun a b _ _ => sLe_anti) p1 p2 (((sortS_perm _).trans hp).trans (sortS_perm _).symm)
  rw [srt_val h1, srt_val h2, hs]
  congr 1
  funext n
  unfold valOf
  rw [hn]
theorem srt_srt {t : Tb D} (nd : (names t).Nodup) : srt (srt t) = srt t :=
  srt_congr (by rw [names_srt nd]; exact (sortS_perm _).nodup_iff.mpr nd) nd (look_srt nd)
structure WT (t : Tb D) : Prop where
  nd : (names t).Nodup
  few : t.length < 64
structure WH (h : Tb (Tb D)) : Prop where
  nd : (names h).Nodup
  few : h.length < 64
  ts : ∀ p ∈ h, WT p.2
theorem look_row {h : Tb (Tb D)} (w : WH h) {p : Str × Tb D} (hp : p ∈ h) : look h p.1 = some p.2 := look_mem w.nd hp
theorem val_hD {h : Tb (Tb D)} {k : Str} {t : Tb D} (e : look h k = some t) : valD (enc tD h) (.inr k) = some (tD t) := by rw [val_enc, e]; rfl
@[simp] theorem ixD_hD {h : Tb (Tb D)} {k : Str} : ixD (hD h) (.str k) = valD (enc tD h) (.inr k) := rfl
/-- found[key][name] = e, key's row the last, name new there -/
theorem put_in {ρ : En} {i : Nat} {fs : Tb (Tb D)} {k n : Str} {ts : Tb D} {e : D} {kf : EM (Nat × D)} {kk : EM (Nat × D)} {f : EM D} (ei : ρ[i]? = some (some (.own 2, .dic (enc tD (fs ++ [(k, ts)]))))) (ek : kk ρ = .ok (0, .str k) ρ) (en : kf ρ = .ok (0, .str n) ρ) (ef : f ρ = .ok e ρ)
    (hk : k ∉ names fs) (hn : n ∉ names ts) (hl : ts.length < 64) : sPut 0 (plK (plN i) kk) kf f ρ = .nx (ρ.set i (some (.own 2, .dic (enc tD (fs ++ [(k, ts ++ [(n, e)])]))))) := by
  have h1 : valD (enc tD (fs ++ [(k, ts)])) (.inr k) = some (tD ts) := val_hD (look_snoc hk)
  have h2 : putC 0 (.str n) e (tD ts) = some (tD (ts ++ [(n, e)])) := by
    unfold tD putC
    simp only [keyOf_str, Option.bind_some]
    rw [if_pos ⟨by rw [len_enc]; exact size_64 hl, by simp⟩, show e = id e from rfl, put_enc, put_new hn]
    rfl
  have h3 : modD (enc tD (fs ++ [(k, ts)])) (.inr k) (tD (ts ++ [(n, e)])) = enc tD (fs ++ [(k, ts ++ [(n, e)])]) := by rw [mod_enc, mod_snoc hk]
  unfold sPut
  rw [ap_s, ef, bndS_ok]
  simp only [plK, plN, ei, lv_own, ek, childC, keyOf_str, Option.bind_some, h1]
  simp [en, h2, setC, keyOf_str, h3]
theorem copy_in (h : Tb (Tb D)) (w : WH h) (k : Str) (t : Tb D) (ht : look h k = some t) (wt : WT t) (fs : Tb (Tb D)) (hk : k ∉ names fs) :
    forL [3] (gN 3) b_law_copy_1 ((sortS (names t)).map .str) [some (.val, hD h), some (.own 2, .dic (enc tD (fs ++ [(k, [])]))), some (.val, .str k), none] = .nx [some (.val, hD h), some (.own 2, .dic (enc tD (fs ++ [(k, srt t)]))), some (.val, .str k), none] := by
  rw [srt_val wt.nd]
  refine forL_fun (fg := [3]) (tg := gN 3) (body := b_law_copy_1) D.str (fun done => [some (.val, hD h), some (.own 2, .dic (enc tD (fs ++ [(k, done.map fun n => (n, valOf t n))]))), some (.val, .str k), none]) (sortS (names t)) fun done n rest e => ?_
  have hn : n ∈ names t := (sortS_perm _).mem_iff.mp (by rw [e]; simp)
  have hnd : (sortS (names t)).Nodup := (sortS_perm _).nodup_iff.mpr wt.nd
  rw [e] at hnd
  have hdn : n ∉ done := fun hm => by
    have := List.nodup_append.mp hnd
    exact this.2.2 n hm n List.mem_cons_self rfl
  have hlen : done.length < 64 := by
    have h1 : (sortS (names t)).length = t.length := by rw [(sortS_perm _).length_eq]; simp [names]
    have h2 := wt.few
    rw [e] at h1
    simp at h1
    omega
  have hx : look t n = some (valOf t n) := by
    cases q : look t n with
    | none => exact absurd hn (look_none.mp q)
    | some x => unfold valOf; rw [q]; rfl
  refine ⟨[some (.val, hD h), some (.own 2, .dic (enc tD (fs ++ [(k, (done.map fun n => (n, valOf t n)) ++ [(n, valOf t n)])]))), some (.val, .str k), some (.val, .str n)], ?_, by simp⟩
  simp only [ap_gN, andS_nx, b_law_copy_1]
  refine (put_in (i := 1) (kk := eV 2) (kf := eV 3) (f := n0 (eIx true (eIx true (eV 0) (eV 2)) (eV 3))) (fs := fs) (k := k) (ts := done.map fun n => (n, valOf t n)) (n := n) (e := valOf t n) (ρ := [some (.val, hD h), some (.own 2, .dic (enc tD (fs ++ [(k, done.map fun n => (n, valOf t n))]))), some (.val, .str k), some (.val, .str n)]) rfl rfl rfl ?_ hk (by simpa [names] using hdn) (by simpa using hlen)).trans ?_
  · simp [val_hD ht, val_tD hx]
  · simp
theorem put_row {ρ : En} {i : Nat} {fs : Tb (Tb D)} {k : Str} {kf : EM (Nat × D)} (ei : ρ[i]? = some (some (.own 2, .dic (enc tD fs)))) (ek : kf ρ = .ok (0, .str k) ρ) (hk : k ∉ names fs) (hl : fs.length < 64) :
    sPut 1 (plN i) kf nDic0 ρ = .nx (ρ.set i (some (.own 2, .dic (enc tD (fs ++ [(k, [])]))))) := by
  have h1 : putC 1 (.str k) (.dic []) (.dic (enc tD fs)) = some (.dic (enc tD (fs ++ [(k, [])]))) := by
    unfold putC
    simp only [keyOf_str, Option.bind_some]
    rw [if_pos ⟨by rw [len_enc]; exact size_64 hl, .inr (by rw [has_enc]; exact has_false.mpr hk)⟩, show (D.dic []) = tD [] from rfl, put_enc, put_new hk]
  unfold sPut
  rw [ap_s, ap_dic0, bndS_ok]
  simp [plN, ei, ek, h1]
theorem copyH_snoc (l : Tb (Tb D)) (p : Str × Tb D) : copyH (l ++ [p]) = copyH l ++ [(p.1, srt p.2)] := by simp [copyH]
theorem names_copyH (l : Tb (Tb D)) : names (copyH l) = names l := by simp [names, copyH]
theorem copy_rows (h : Tb (Tb D)) (w : WH h) : forL [2, 3] (gN 2) b_law_copy_2 (h.map fun p => .str p.1) [some (.val, hD h), some (.own 2, .dic (enc tD [])), none, none] = .nx [some (.val, hD h), some (.own 2, .dic (enc tD (copyH h))), none, none] := by
  refine forL_fun (fg := [2, 3]) (tg := gN 2) (body := b_law_copy_2) (fun p : Str × Tb D => D.str p.1) (fun done => [some (.val, hD h), some (.own 2, .dic (enc tD (copyH done))), none, none]) h fun done p rest e => ?_
  have hp : p ∈ h := by rw [e]; simp
  have nd := w.nd
  rw [e] at nd
  have hk : p.1 ∉ names (copyH done) := by
    rw [names_copyH]
    unfold names at nd ⊢
    rw [List.map_append, List.map_cons] at nd
    exact fun hm => (List.nodup_append.mp nd).2.2 _ hm _ List.mem_cons_self rfl
  have hl : (copyH done).length < 64 := by
    have := w.few
    rw [e] at this
    simp [copyH] at this ⊢
    omega
  have wt := w.ts p hp
  refine ⟨[some (.val, hD h), some (.own 2, .dic (enc tD (copyH done ++ [(p.1, srt p.2)]))), some (.val, .str p.1), none], ?_, by simp [copyH_snoc]⟩
  simp only [ap_gN, andS_nx, b_law_copy_2, ap_seq]
  rw [show ([some (Md.val, hD h), some (Md.own 2, D.dic (enc tD (copyH done))), none, none] : En).set 2 (some (Md.val, D.str p.1)) = [some (.val, hD h), some (.own 2, .dic (enc tD (copyH done))), some (.val, .str p.1), none] from rfl]
  rw [put_row (i := 1) (kf := eV 2) (k := p.1) (fs := copyH done) rfl rfl hk hl]
  have hv := val_hD (look_row w hp)
  simp [valsOf, hv, sorted_dic 0 wt.few, -List.map_map]
  exact copy_in h w p.1 p.2 (look_row w hp) wt (copyH done) hk
theorem law_copy (h : Tb (Tb D)) (w : WH h) : m_law_copy [hD h] = .ok (hD (copyH h)) [] := by
  have e := copy_rows h w
  have ek : (enc tD h).map (fun kd => keyD kd.1) = h.map fun p => D.str p.1 := by rw [keys_enc]; simp [names]
  have ed : ∀ ρ, dicR (0, hD h) ρ = .ok (h.map fun p => D.str p.1) ρ := fun ρ => by unfold hD; rw [dicR_dic, ek]
  simp only [m_law_copy, ap_run, g_law_copy, initE, List.replicate, List.cons_append, List.nil_append, ap_seq, ap_own, ap_dic0, bndS_ok, andS_nx, List.set, ap_for, ap_iDic, ap_v, List.getElem?_cons_zero, slotR_some, lv_val, bnd_ok, ed]
  rw [show (D.dic []) = D.dic (enc tD []) from rfl, e]
  simp [outsE, hD]
/-! ## edits -/
inductive Ed where
  | put (k n : Str) (e : D) | drop (k n : Str)
def eD : Ed → D
  | .put k n e => .tup [.str "put", .str k, .str n, e]
  | .drop k n => .tup [.str "drop", .str k, .str n]
def Ed.key : Ed → Str
  | .put k _ _ => k | .drop k _ => k
def Ed.name : Ed → Str
  | .put _ n _ => n | .drop _ n => n
def chgT (t : Tb D) : Ed → Tb D
  | .put _ n e => put t n e
  | .drop _ n => dropT t n
def chg (h : Tb (Tb D)) (ed : Ed) : Tb (Tb D) := modT h ed.key (chgT ((look h ed.key).getD []) ed)
def fits (h : Tb (Tb D)) (ed : Ed) : Prop := ∃ t, look h ed.key = some t ∧ t.length < 63 ∧ ∀ k n, ed = .drop k n → n ∈ names t
def unk (what name : Str) : Ex := ⟨"Unknown", [("name", .str name), ("what", .str what)]⟩
@[simp] theorem in_hD {neg : Bool} {n m : Nat} {s : Str} {h : Tb (Tb D)} : inD neg n (.str s) m (hD h) = some (.bl (neg != has h s)) := by
  unfold inD hD
  simp [val_enc, look_isSome]
theorem ok_put : PyData.strOk "put" = true := by decide +kernel
theorem ok_drop : PyData.strOk "drop" = true := by decide +kernel
theorem check_key_ok {h : Tb (Tb D)} {k : Str} (hk : has h k = true) : m_check_key [hD h, .str k] = .ok .non [] := by
  simp [m_check_key, ap_run, g_check_key, initE, hk, outsE]
theorem check_key_no {h : Tb (Tb D)} {k : Str} (hk : has h k = false) : m_check_key [hD h, .str k] = .err (unk "table" k) [] := by
  simp [m_check_key, ap_run, g_check_key, initE, hk, outsE, unk]
@[simp] theorem ixD_e0p {k n : Str} {e : D} : ixD (eD (.put k n e)) (.int 0) = some (.str "put") := by unfold eD; simp
@[simp] theorem ixD_e0d {k n : Str} : ixD (eD (.drop k n)) (.int 0) = some (.str "drop") := by unfold eD; simp
@[simp] theorem ixD_e1 {ed : Ed} : ixD (eD ed) (.int 1) = some (.str ed.key) := by cases ed <;> (unfold eD Ed.key; simp)
@[simp] theorem ixD_e2 {ed : Ed} : ixD (eD ed) (.int 2) = some (.str ed.name) := by cases ed <;> (unfold eD Ed.name; simp)
@[simp] theorem ixD_e3 {k n : Str} {e : D} : ixD (eD (.put k n e)) (.int 3) = some e := by unfold eD; simp
theorem eq_pd (n m : Nat) : eqD n (.str "put") m (.str "drop") = some (.bl false) := by rw [eq_str ok_put ok_drop]; rfl
theorem eq_dd (n m : Nat) : eqD n (.str "drop") m (.str "drop") = some (.bl true) := by rw [eq_str ok_drop ok_drop]; rfl
theorem eq_pp (n m : Nat) : eqD n (.str "put") m (.str "put") = some (.bl true) := by rw [eq_str ok_put ok_put]; rfl
theorem eq_dp (n m : Nat) : eqD n (.str "drop") m (.str "put") = some (.bl false) := by rw [eq_str ok_drop ok_put]; rfl
theorem mod_hD {h : Tb (Tb D)} {k : Str} {t : Tb D} : modD (enc tD h) (.inr k) (tD t) = enc tD (modT h k t) := mod_enc
theorem del_tD {t : Tb D} {n : Str} {x : D} (e : look t n = some x) : delC (.str n) (tD t) = some (x, tD (dropT t n)) := by
  unfold tD delC
  simp [val_tD e, drop_enc]
theorem chg_put {h : Tb (Tb D)} {k n : Str} {e : D} {t : Tb D} (ht : look h k = some t) : chg h (.put k n e) = modT h k (put t n e) := by
  unfold chg Ed.key chgT; simp [ht]
theorem chg_drop {h : Tb (Tb D)} {k n : Str} {t : Tb D} (ht : look h k = some t) : chg h (.drop k n) = modT h k (dropT t n) := by
  unfold chg Ed.key chgT; simp [ht]
theorem law_after_ok {h : Tb (Tb D)} {ed : Ed} (w : WH h) (f : fits (copyH h) ed) (w2 : WH (chg (copyH h) ed)) : m_law_after [hD h, eD ed] = .ok (hD (copyH (chg (copyH h) ed))) [] := by
  have c1 := law_copy h w
  have c2 := law_copy _ w2
  obtain ⟨t, ht, hl, hd⟩ := f
  cases ed with
  | put k n e =>
    simp only [Ed.key] at ht
    have hp := put_tD (t := t) (n := n) (e := e) (by omega)
    rw [chg_put ht] at c2 ⊢
    simp [m_law_after, ap_run, g_law_after, initE, boxes, callDs, asFlat, c1, plK, plN, eq_pp, sPut, childC, setC, Ed.key, Ed.name, setB, setD]
    unfold hD at *
    simp [val_hD ht, eq_pp, hp, mod_hD, outsE, childC, setC, Ed.key, Ed.name, boxes, callDs, asFlat, c2, setB]
  | drop k n =>
    simp only [Ed.key] at ht
    obtain ⟨x, hx⟩ := look_of_mem (hd k n rfl)
    have hp := del_tD hx
    rw [chg_drop ht] at c2 ⊢
    simp [m_law_after, ap_run, g_law_after, initE, boxes, callDs, asFlat, c1, plK, plN, eq_dp, sPopD, sDel, childC, setC, Ed.key, Ed.name, setB, setD]
    unfold hD at *
    simp [val_hD ht, eq_dp, hp, mod_hD, outsE, childC, setC, Ed.key, Ed.name, boxes, callDs, asFlat, c2, setB]
def run (h : Tb (Tb D)) (es : List Ed) : Tb (Tb D) := es.foldl chg h
def Fit : Tb (Tb D) → List Ed → Prop
  | _, [] => True
  | h, e :: es => fits h e ∧ Fit (chg h e) es
theorem Fit.at : ∀ {es : List Ed} {h : Tb (Tb D)} {done : List Ed} {x : Ed} {rest : List Ed}, Fit h es → es = done ++ x :: rest → fits (run h done) x
  | _, h, [], x, rest, f, e => by subst e; exact f.1
  | _, h, d :: done, x, rest, f, e => by
    subst e
    exact Fit.at (es := done ++ x :: rest) (h := chg h d) (done := done) f.2 rfl
theorem run_snoc (h : Tb (Tb D)) (es : List Ed) (e : Ed) : run h (es ++ [e]) = chg (run h es) e := by simp [run]
theorem look_copy (h : Tb (Tb D)) (k : Str) : look (copyH h) k = (look h k).map srt := by
  unfold copyH look
  induction h with
  | nil => rfl
  | cons p h ih =>
    by_cases q : p.1 = k
    · simp [q]
    · simpa [q] using ih
theorem copy_mod (h : Tb (Tb D)) (k : Str) (t : Tb D) : copyH (modT h k t) = modT (copyH h) k (srt t) := by
  unfold copyH
  induction h with
  | nil => rfl
  | cons p h ih =>
    obtain ⟨a, b⟩ := p
    by_cases q : a = k
    · simp [modT, q]
    · simpa [modT, q] using ih
/-! ## good houses -/
def N5 : List Str := ["c", "a", "b10", "b9", "e"]
def K3 : List Str := ["t", "lanes", "a0"]
structure GT (P : D → Prop) (t : Tb D) : Prop where
  nd : (names t).Nodup
  sub : ∀ n ∈ names t, n ∈ N5
  val : ∀ n e, look t n = some e → P e
structure GH (P : D → Prop) (h : Tb (Tb D)) : Prop where
  nd : (names h).Nodup
  sub : ∀ k ∈ names h, k ∈ K3
  ts : ∀ k t, look h k = some t → GT P t
section
variable {P : D → Prop} {h : Tb (Tb D)} {t : Tb D} {ed : Ed}
theorem GT.few (g : GT P t) : t.length ≤ 5 := by
  have := few_of g.nd g.sub
  simpa [names, N5] using this
theorem GT.wt (g : GT P t) : WT t := ⟨g.nd, by have := g.few; omega⟩
theorem GH.wh (g : GH P h) : WH h := ⟨g.nd, by have := few_of g.nd g.sub; simp [names, K3] at this; omega, fun p hp => (g.ts p.1 p.2 (look_mem g.nd hp)).wt⟩
theorem GT.srt (g : GT P t) : GT P (srt t) := ⟨by rw [names_srt g.nd]; exact (sortS_perm _).nodup_iff.mpr g.nd, fun n hn => g.sub n (by rw [names_srt g.nd] at hn; exact (sortS_perm _).mem_iff.mp hn), fun n e he => g.val n e (by rw [look_srt g.nd] at he; exact he)⟩
theorem GH.copy (g : GH P h) : GH P (copyH h) := ⟨by rw [names_copyH]; exact g.nd, by rw [names_copyH]; exact g.sub, fun k t e => by
  rw [look_copy] at e
  obtain ⟨u, e1, rfl⟩ := Option.map_eq_some_iff.mp e
  exact (g.ts k u e1).srt⟩
/-- an edit that may be made -/
structure GE (P : D → Prop) (h : Tb (Tb D)) (ed : Ed) : Prop where
  key : ed.key ∈ names h
  name : ed.name ∈ N5
  val : ∀ k n e, ed = .put k n e → P e
  drop : ∀ k n, ed = .drop k n → ∃ t, look h k = some t ∧ n ∈ names t
theorem GE.fits (e : GE P h ed) (g : GH P h) : fits h ed := by
  obtain ⟨t, ht⟩ := look_of_mem e.key
  refine ⟨t, ht, by have := (g.ts _ _ ht).few; omega, fun k n q => ?_⟩
  obtain ⟨u, h1, h2⟩ := e.drop k n q
  subst q
  rw [show (Ed.drop k n).key = k from rfl, h1] at ht
  cases ht
  exact h2
theorem GE.chgT (e : GE P h ed) (g : GT P t) : GT P (chgT t ed) := by
  cases ed with
  | put k n x =>
    refine ⟨names_put_nd g.nd, fun m hm => ?_, fun m y hy => ?_⟩
    · rcases mem_names_put hm with rfl | z
      · exact e.name
      · exact g.sub m z
    · have hy : look (put t n x) m = some y := hy
      rw [look_put] at hy
      split at hy
      · cases hy; exact e.val k n x rfl
      · exact g.val m y hy
  | drop k n =>
    refine ⟨names_drop_nd g.nd, fun m hm => g.sub m (mem_names_drop hm), fun m y hy => ?_⟩
    have hy : look (dropT t n) m = some y := hy
    rw [look_drop] at hy
    split at hy
    · cases hy
    · exact g.val m y hy
theorem GE.chg (e : GE P h ed) (g : GH P h) : GH P (chg h ed) := by
  obtain ⟨t, ht⟩ := look_of_mem e.key
  unfold Gk80.chg
  refine ⟨by rw [names_mod]; exact g.nd, by rw [names_mod]; exact g.sub, fun k u hu => ?_⟩
  by_cases q : k = ed.key
  · subst q
    rw [look_mod ht] at hu
    cases hu
    rw [ht]
    exact e.chgT (g.ts _ _ ht)
  · rw [look_mod_ne q] at hu
    exact g.ts k u hu
theorem chg_eq (ht : look h ed.key = some t) : chg h ed = modT h ed.key (chgT t ed) := by unfold chg; rw [ht]; rfl
theorem srt_chg {u : Tb D} (h1 : GT P t) (h2 : GT P u) (e : GE P h ed) (hs : ∀ n, look t n = look u n) : srt (chgT t ed) = srt (chgT u ed) := by
  refine srt_congr (e.chgT h1).nd (e.chgT h2).nd fun n => ?_
  cases ed with
  | put k m x => show look (put t m x) n = look (put u m x) n; rw [look_put, look_put, hs]
  | drop k m => show look (dropT t m) n = look (dropT u m) n; rw [look_drop, look_drop, hs]
end
end Gk80

namespace Gk80
open PySem PySem.Spec VL
open L2 (Key)
section
variable {P : D → Prop} {h g : Tb (Tb D)} {ed : Ed}
theorem copy_copy (w : GH P h) : copyH (copyH h) = copyH h := by
  unfold copyH
  rw [List.map_map]
  apply List.map_congr_left
  intro p hp
  simp only [Function.comp]
  rw [srt_srt (w.ts p.1 p.2 (look_mem w.nd hp)).nd]
theorem names_chg : names (chg h ed) = names h := names_mod
theorem GE.copy (e : GE P h ed) : GE P (copyH h) ed := ⟨by rw [names_copyH]; exact e.key, e.name, e.val, fun k n q => by
  obtain ⟨t, h1, h2⟩ := e.drop k n q
  refine ⟨srt t, by rw [look_copy, h1]; rfl, ?_⟩
  unfold Gk80.srt names
  obtain ⟨x, hx⟩ := look_of_mem h2
  refine List.mem_map.mpr ⟨(n, x), List.mem_filterMap.mpr ⟨n, (sortS_perm _).mem_iff.mpr h2, by rw [hx]; rfl⟩, rfl⟩⟩
theorem chg_copy (w : GH P h) (e : GE P h ed) : copyH (chg (copyH h) ed) = copyH (chg h ed) := by
  obtain ⟨t, ht⟩ := look_of_mem e.key
  have gt := w.ts _ _ ht
  have ht2 : look (copyH h) ed.key = some (srt t) := by rw [look_copy, ht]; rfl
  rw [chg_eq ht2, chg_eq ht, copy_mod, copy_mod, copy_copy w, srt_chg gt.srt gt e (look_srt gt.nd)]
def GEs (P : D → Prop) : Tb (Tb D) → List Ed → Prop
  | _, [] => True
  | h, e :: es => GE P h e ∧ GEs P (chg h e) es
theorem GEs.run : ∀ {es : List Ed} {h : Tb (Tb D)}, GH P h → GEs P h es → GH P (Gk80.run h es) ∧ Fit h es
  | [], h, w, _ => ⟨w, trivial⟩
  | e :: es, h, w, x => by
    obtain ⟨h1, h2⟩ := GEs.run (x.1.chg w) x.2
    exact ⟨h1, x.1.fits w, h2⟩
theorem GEs.snoc : ∀ {es : List Ed} {h : Tb (Tb D)} {x : Ed}, GEs P h es → GE P (Gk80.run h es) x → GEs P h (es ++ [x])
  | [], h, x, _, q => ⟨q, trivial⟩
  | e :: es, h, x, f, q => ⟨f.1, GEs.snoc (h := chg h e) f.2 q⟩
end
theorem hits_self {t : Tb D} : ∀ (r : Tb D), (∀ p ∈ r, look t p.1 = some p.2 ∧ Cm 60 p.2) → hitsD (enc id t) (enc id r) = some true
  | [], _ => rfl
  | p :: r, h => by
    obtain ⟨h1, h2⟩ := h p List.mem_cons_self
    have ih := hits_self r fun q hq => h q (List.mem_cons_of_mem _ hq)
    show hitsD (enc id t) ((.inr p.1, id p.2) :: enc id r) = some true
    unfold hitsD
    rw [val_tD h1]
    simp [h2.eqP (by decide), ih]
def P0 : D → Prop := Cm 60
theorem ne_tab {t : Tb D} (g : GT P0 t) (n m : Nat) : neD n (tD t) m (tD t) = some (.bl false) := by
  have : hitsD (enc id t) (enc id t) = some true := hits_self t fun p hp => by
    have := look_mem g.nd hp
    exact ⟨this, g.val _ _ this⟩
  unfold neD eqD tD
  simp [this]
theorem n5_ok : ∀ s ∈ N5, PyData.strOk s = true := by decide +kernel
theorem k3_ok : ∀ s ∈ K3, PyData.strOk s = true := by decide +kernel
theorem isi_hD {h : Tb (Tb D)} {ρ : En} : isiR "dict" (hD h) ρ = .ok (0, .bl true) ρ := isi_dict
theorem isi_tD {h : Tb D} {ρ : En} : isiR "dict" (tD h) ρ = .ok (0, .bl true) ρ := isi_dict
theorem list_hD {h : Tb (Tb D)} (n : Nat) : listD [(n, hD h)] = some ((names h).map .str) := by unfold listD hD; dsimp only; rw [keys_enc]
theorem list_tD {h : Tb D} (n : Nat) : listD [(n, tD h)] = some ((names h).map .str) := by unfold listD tD; dsimp only; rw [keys_enc]
theorem dic_hD {h : Tb (Tb D)} {ρ : En} : dicR (0, hD h) ρ = .ok ((names h).map .str) ρ := by unfold hD; rw [dicR_dic, keys_enc]
theorem law_same_ok {h : Tb (Tb D)} (g : GH P0 h) (hc : copyH h = h) : m_law_same [hD h, hD h] = .ok (.bl true) [] := by
  have nk : neD 0 (.lst ((names h).map .str)) 0 (.lst ((names h).map .str)) = some (.bl false) := (strs_ok fun s hs => k3_ok s (g.sub s hs)).ne (by decide) _ _
  have lp := forL_fun (fg := [2]) (tg := gN 2) (body := b_law_same_1) D.str (fun _ => [some (.val, hD h), some (.val, hD h), none]) (names h) fun done k rest e => by
    have hk : k ∈ names h := by rw [e]; simp
    obtain ⟨t, ht⟩ := look_of_mem hk
    have gt := g.ts _ _ ht
    have hs : srt t = t := by
      have : look (copyH h) k = some (srt t) := by rw [look_copy, ht]; rfl
      rw [hc, ht] at this
      exact (Option.some.inj this).symm
    have hn : sortS (names t) = names t := by rw [← names_srt gt.nd, hs]
    have n1 : neD 0 (.lst ((names t).map .str)) 0 (.lst ((names t).map .str)) = some (.bl false) := (strs_ok fun s hs => n5_ok s (gt.sub s hs)).ne (by decide) _ _
    have n2 := ne_tab gt 0 0
    refine ⟨[some (.val, hD h), some (.val, hD h), some (.val, .str k)], ?_, rfl⟩
    simp [b_law_same_1, ap_isi, val_hD ht, isi_tD, valsOf, list_tD, sorted_dic 0 gt.wt.few, hn, n1, n2]
  simp [m_law_same, ap_run, g_law_same, initE, ap_isi, isi_hD, valsOf, list_hD, nk, dic_hD]
  rw [lp]
  simp [outsE]
end Gk80

namespace Gk80
open PySem PySem.Spec VL
open L2 (Key)
/-- an entry -/
def P1 (e : D) : Prop := (∃ i : Int, e = .int i ∧ 0 ≤ i ∧ i < 10) ∨ (∃ i : Int, e = .tup [.str "b", .int i] ∧ 0 ≤ i ∧ i < 10) ∨ e = .str "word"
theorem P1.p0 {e : D} (h : P1 e) : P0 e := by
  rcases h with ⟨i, rfl, _⟩ | ⟨i, rfl, _⟩ | rfl
  · exact Cm.int i
  · refine Cm.tup (k := 59) fun d hd => ?_
    rcases List.mem_cons.mp hd with rfl | hd
    · exact Cm.str (by decide +kernel)
    · rcases List.mem_cons.mp hd with rfl | hd
      · exact Cm.int i
      · cases hd
  · exact Cm.str (by decide +kernel)
theorem GT.mono {P Q : D → Prop} {t : Tb D} (g : GT P t) (h : ∀ e, P e → Q e) : GT Q t := ⟨g.nd, g.sub, fun n e q => h e (g.val n e q)⟩
theorem GH.mono {P Q : D → Prop} {t : Tb (Tb D)} (g : GH P t) (h : ∀ e, P e → Q e) : GH Q t := ⟨g.nd, g.sub, fun k u q => (g.ts k u q).mono h⟩
theorem drawJ {js : List Int} (hj : Jar js) (p : Nat) (hp : p < 1000000) (many : Int) (hm : 0 < many) :
    ∃ (r : Int) (p' : Nat), m_law_draw [.lst (js.map .int), .lst [.int p], .int many] = .ok (.int r) [.lst [.int p']] ∧ 0 ≤ r ∧ r < many ∧ p' ≤ p + 1 := draw js hj p hp many hm
theorem entry_ok {js : List Int} (hj : Jar js) (p : Nat) (hp : p < 1000) : ∃ (e : D) (p' : Nat), m_law_entry [.lst (js.map .int), .lst [.int p]] = .ok e [.lst [.int p']] ∧ P1 e ∧ p' ≤ p + 2 := by
  obtain ⟨r, p1, d1, h0, h1, h2⟩ := drawJ hj p (by omega) 5 (by decide)
  by_cases c1 : r < 3
  · refine ⟨.int (r + 1), p1, ?_, .inl ⟨r + 1, rfl, by omega, by omega⟩, by omega⟩
    simp [m_law_entry, ap_run, g_law_entry, initE, asFlat, boxes, callDs, d1, setB, setD, c1, outsE]
  · by_cases c2 : r = 3
    · subst c2
      obtain ⟨i, p2, d2, h3, h4, h5⟩ := drawJ hj p1 (by omega) 3 (by decide)
      refine ⟨.tup [.str "b", .int i], p2, ?_, .inr (.inl ⟨i, rfl, by omega, by omega⟩), by omega⟩
      simp [m_law_entry, ap_run, g_law_entry, initE, asFlat, boxes, callDs, d1, d2, setB, setD, outsE, two_le]
    · refine ⟨.str "word", p1, ?_, .inr (.inr rfl), by omega⟩
      simp [m_law_entry, ap_run, g_law_entry, initE, asFlat, boxes, callDs, d1, setB, setD, c1, c2, outsE]
def N4 : List Str := ["c", "a", "b10", "b9"]
theorem n4_n5 : ∀ n ∈ N4, n ∈ N5 := by decide +kernel
theorem n4_nd : N4.Nodup := by decide +kernel
/-- a table is filled -/
theorem house_in {js : List Int} (hj : Jar js) (fs : Tb (Tb D)) (k : Str) (hk : k ∉ names fs) (p : Nat) (hp : p < 500) :
    ∃ ρ', forL [4] (gN 4) b_law_house_1 (N4.map .str) [some (.val, .lst (js.map .int)), some (.bor 1, .lst [.int p]), some (.own 2, .dic (enc tD (fs ++ [(k, [])]))), some (.val, .str k), none] = .nx ρ' ∧
      ∃ (t : Tb D) (p' : Nat), ρ' = [some (.val, .lst (js.map .int)), some (.bor 1, .lst [.int p']), some (.own 2, .dic (enc tD (fs ++ [(k, t)]))), some (.val, .str k), none] ∧ GT P1 t ∧ (∀ n ∈ names t, n ∈ N4) ∧ p' ≤ p + 12 := by
  obtain ⟨ρ', e, t, p', h1, h2, h3, h4, h5⟩ := forL_ok (fg := [4]) (tg := gN 4) (body := b_law_house_1) (fun i ρ => ∃ (t : Tb D) (p' : Nat), ρ = [some (.val, .lst (js.map .int)), some (.bor 1, .lst [.int p']), some (.own 2, .dic (enc tD (fs ++ [(k, t)]))), some (.val, .str k), none] ∧ GT P1 t ∧ (∀ n ∈ names t, n ∈ N4.take i) ∧ p' ≤ p + 3 * i ∧ True)
    (N4.map .str) 0 _ ⟨[], p, rfl, ⟨.nil, fun _ z => (nomatch z), fun _ _ z => (by simp [look] at z)⟩, fun _ z => (nomatch z), by omega, trivial⟩ (fun i d ρ ed hP => by
      rw [Nat.zero_add] at hP ⊢
      obtain ⟨t, p', rfl, g, ht, hp', _⟩ := hP
      rw [List.getElem?_map] at ed
      obtain ⟨n, en, rfl⟩ := Option.map_eq_some_iff.mp ed
      have hi : i < N4.length := (List.getElem?_eq_some_iff.mp en).1
      have hi4 : i < 4 := hi
      have et : N4.take (i + 1) = N4.take i ++ [n] := by rw [List.take_succ, en]; rfl
      have hn : n ∉ names t := fun hm => by
        have h1 := ht n hm
        have h2 : (N4.take (i + 1)).Nodup := n4_nd.sublist (List.take_sublist _ _)
        rw [et] at h2
        exact (List.nodup_append.mp h2).2.2 n h1 n List.mem_cons_self rfl
      have hn5 : n ∈ N5 := n4_n5 n (List.mem_of_getElem? en)
      obtain ⟨r, p1, d1, q0, q1, q2⟩ := drawJ hj p' (by omega) 2 (by decide)
      by_cases c : r = 1
      · subst c
        obtain ⟨x, p2, d2, hx, q3⟩ := entry_ok hj p1 (by omega)
        have st := put_in (ρ := [some (.val, .lst (js.map .int)), some (.bor 1, .lst [.int p1]), some (.own 2, .dic (enc tD (fs ++ [(k, t)]))), some (.val, .str k), some (.val, .str n)]) (i := 2) (fs := fs) (k := k) (n := n) (ts := t) (e := x) (kf := eV 4) (kk := eV 3) (f := fun ρ => .ok x ρ) rfl rfl rfl rfl hk hn (by have := g.few; omega)
        refine ⟨[some (.val, .lst (js.map .int)), some (.bor 1, .lst [.int p2]), some (.own 2, .dic (enc tD (fs ++ [(k, t ++ [(n, x)])]))), some (.val, .str k), some (.val, .str n)], ?_, t ++ [(n, x)], p2, rfl, ?_, ?_, by omega, trivial⟩
        · have st := put_in (ρ := [some (.val, .lst (js.map .int)), some (.bor 1, .lst [.int p2]), some (.own 2, .dic (enc tD (fs ++ [(k, t)]))), some (.val, .str k), some (.val, .str n)]) (i := 2) (fs := fs) (k := k) (n := n) (ts := t) (e := x) (kf := eV 4) (kk := eV 3) (f := fun ρ => .ok x ρ) rfl rfl rfl rfl hk hn (by have := g.few; omega)
          simp [b_law_house_1, asFlat, boxes, callDs, d1, setB, setD]
          unfold sPut at st ⊢
          rw [ap_s] at st ⊢
          simp [asFlat, boxes, callDs, d2, setB, setD] at st ⊢
          exact st
        · refine ⟨?_, ?_, ?_⟩
          · have := names_put_nd (k := n) (t := x) g.nd
            rwa [put_new hn] at this
          · intro m hm
            rw [← put_new (e := x) hn] at hm
            rcases mem_names_put hm with rfl | z
            · exact hn5
            · exact g.sub m z
          · intro m y hy
            rw [← put_new (e := x) hn, look_put] at hy
            split at hy
            · cases hy; exact hx
            · exact g.val m y hy
        · intro m hm
          rw [et]
          rw [← put_new (e := x) hn] at hm
          rcases mem_names_put hm with rfl | z
          · simp
          · exact List.mem_append_left _ (ht m z)
      · refine ⟨[some (.val, .lst (js.map .int)), some (.bor 1, .lst [.int p1]), some (.own 2, .dic (enc tD (fs ++ [(k, t)]))), some (.val, .str k), some (.val, .str n)], ?_, t, p1, rfl, g, fun m hm => by rw [et]; exact List.mem_append_left _ (ht m hm), by omega, trivial⟩
        simp [b_law_house_1, asFlat, boxes, callDs, d1, setB, setD, c])
  exact ⟨ρ', e, t, p', h1, h2, fun n hn => List.mem_of_mem_take (h3 n hn), by simpa [N4] using h4⟩
end Gk80

namespace Gk80
open PySem PySem.Spec VL
open L2 (Key)
theorem k3_nd : K3.Nodup := by decide +kernel
theorem GH.snoc {P : D → Prop} {h : Tb (Tb D)} {k : Str} {t : Tb D} (g : GH P h) (gt : GT P t) (hk : k ∉ names h) (k3 : k ∈ K3) : GH P (h ++ [(k, t)]) := by
  have e : h ++ [(k, t)] = put h k t := (put_new hk).symm
  rw [e]
  refine ⟨names_put_nd g.nd, fun m hm => ?_, fun m u hu => ?_⟩
  · rcases mem_names_put hm with rfl | z
    · exact k3
    · exact g.sub m z
  · rw [look_put] at hu
    split at hu
    · cases hu; exact gt
    · exact g.ts m u hu
theorem len3 : (3 : Nat) ≤ sizeLine := by have := size_64 (show 3 < 64 by decide); omega
theorem len4 : (4 : Nat) ≤ sizeLine := by have := size_64 (show 4 < 64 by decide); omega
theorem len5 : (5 : Nat) ≤ sizeLine := by have := size_64 (show 5 < 64 by decide); omega
theorem house_ok {js : List Int} (hj : Jar js) : ∃ (h : Tb (Tb D)) (p' : Nat), m_law_house [.lst (js.map .int), .lst [.int 0]] = .ok (hD h) [.lst [.int p']] ∧ GH P1 h ∧ h ≠ [] ∧ p' ≤ 100 := by
  obtain ⟨r, p1, d1, h0, h1, h2⟩ := drawJ hj 0 (by decide) 3 (by decide)
  rw [show ((0 : Nat) : Int) = 0 from rfl] at d1
  obtain ⟨m, hm⟩ : ∃ m : Nat, m = (1 + r).toNat := ⟨_, rfl⟩
  have em : (1 : Int) + r = (m : Int) := by omega
  have hm1 : 1 ≤ m := by omega
  have hm3 : m ≤ 3 := by omega
  obtain ⟨ρ', e, h, p', e1, g, hn, hp⟩ := forL_ok (fg := [3, 4]) (tg := gN 3) (body := b_law_house_2) (fun i ρ => ∃ (h : Tb (Tb D)) (p' : Nat), ρ = [some (.val, .lst (js.map .int)), some (.bor 1, .lst [.int p']), some (.own 2, .dic (enc tD h)), none, none] ∧ GH P1 h ∧ names h = (K3.take m).take i ∧ p' ≤ 1 + 12 * i)
    ((K3.take m).map .str) 0 [some (.val, .lst (js.map .int)), some (.bor 1, .lst [.int p1]), some (.own 2, .dic (enc tD [])), none, none] ⟨[], p1, rfl, ⟨.nil, fun _ z => (nomatch z), fun _ _ z => (by simp [look] at z)⟩, rfl, by omega⟩ (fun i d ρ ed hP => by
      rw [Nat.zero_add] at hP ⊢
      obtain ⟨h, p', rfl, g, hn, hp'⟩ := hP
      rw [List.getElem?_map] at ed
      obtain ⟨k, en, rfl⟩ := Option.map_eq_some_iff.mp ed
      have hi : i < (K3.take m).length := (List.getElem?_eq_some_iff.mp en).1
      have hi3 : i < 3 := by
        have : (K3.take m).length ≤ 3 := by rw [List.length_take]; simp [K3]; omega
        omega
      have et : (K3.take m).take (i + 1) = (K3.take m).take i ++ [k] := by rw [List.take_succ, en]; rfl
      have hk : k ∉ names h := fun hm => by
        rw [hn] at hm
        have h2 : ((K3.take m).take (i + 1)).Nodup := k3_nd.sublist ((List.take_sublist _ _).trans (List.take_sublist _ _))
        rw [et] at h2
        exact (List.nodup_append.mp h2).2.2 k hm k List.mem_cons_self rfl
      have hk3 : k ∈ K3 := List.mem_of_mem_take (List.mem_of_getElem? en)
      obtain ⟨ρ2, e2, t, p2, rfl, gt, hn4, hp2⟩ := house_in hj h k hk p' (by omega)
      have st := put_row (ρ := [some (.val, .lst (js.map .int)), some (.bor 1, .lst [.int p']), some (.own 2, .dic (enc tD h)), some (.val, .str k), none]) (i := 2) (fs := h) (k := k) (kf := eV 3) rfl rfl hk (by have := g.wh.few; omega)
      refine ⟨[some (.val, .lst (js.map .int)), some (.bor 1, .lst [.int p2]), some (.own 2, .dic (enc tD (h ++ [(k, t)]))), some (.val, .str k), none], ?_, h ++ [(k, t)], p2, rfl, g.snoc gt hk hk3, ?_, by omega⟩
      · simp only [ap_gN, andS_nx, b_law_house_2, ap_seq, List.set, st, ap_for, ap_iSeq, ap_lst, ap_aCons, ap_c, ap_aNil, bnd_ok, if_true, List.length_cons, List.length_nil, Nat.zero_add, Nat.reduceAdd, if_pos len4, seqR_lst, bndS_ok]
        exact e2
      · rw [et, ← hn]; simp [names])
  refine ⟨h, p', ?_, g, ?_, ?_⟩
  · have ec : cutD [D.str "t", D.str "lanes", D.str "a0"] none (some (m : Int)) = (K3.take m).map .str := by rw [cutD_hi, List.map_take]; rfl
    simp [m_law_house, ap_run, g_law_house, initE, asFlat, boxes, callDs, d1, setB, setD, len3, em, ec, -List.map_take]
    have e' := e
    rw [show (enc tD ([] : Tb (Tb D))) = [] from rfl] at e'
    first
    | rw [e']
    | (rw [← List.map_take, e'])
    rw [e1]
    simp [outsE, hD]
  · intro hz
    subst hz
    have : (K3.take m).length = 0 := by
      have h3 := congrArg List.length hn
      simp [names] at h3
      simp [K3] at h3 ⊢
      omega
    simp [K3] at this
    omega
  · have : (List.map D.str (K3.take m)).length ≤ 3 := by simp [K3]; omega
    omega
end Gk80

namespace Gk80
open PySem PySem.Spec VL
open L2 (Key)
theorem atI_last' (l : List D) (d : D) : L2.atI (l ++ [d]) (((l.length : Nat) : Int) + 1 - 1) = some d := by
  rw [atI_pos (by omega) (by simp; omega)]
  have : ((l.length : Int) + 1 - 1).toNat = l.length := by omega
  rw [this]
  simp
theorem wn : (("what" : Str) == ("name" : Str)) = false := by decide +kernel
theorem names_run {h : Tb (Tb D)} : ∀ (es : List Ed), names (run h es) = names h := by
  intro es
  induction es generalizing h with
  | nil => rfl
  | cons e es ih => show names (run (chg h e) es) = names h; rw [ih, names_chg]
theorem n5_get {r : Int} (h0 : 0 ≤ r) (h1 : r < 5) : ∃ n, L2.atI [D.str "c", D.str "a", D.str "b10", D.str "b9", D.str "e"] r = some (.str n) ∧ n ∈ N5 := by
  have : r = 0 ∨ r = 1 ∨ r = 2 ∨ r = 3 ∨ r = 4 := by omega
  rcases this with rfl | rfl | rfl | rfl | rfl
  · exact ⟨"c", by rw [atI_pos (by decide) (by decide)]; rfl, by decide +kernel⟩
  · exact ⟨"a", by rw [atI_pos (by decide) (by decide)]; rfl, by decide +kernel⟩
  · exact ⟨"b10", by rw [atI_pos (by decide) (by decide)]; rfl, by decide +kernel⟩
  · exact ⟨"b9", by rw [atI_pos (by decide) (by decide)]; rfl, by decide +kernel⟩
  · exact ⟨"e", by rw [atI_pos (by decide) (by decide)]; rfl, by decide +kernel⟩
theorem after_shape {P : D → Prop} {h0 : Tb (Tb D)} {es : List Ed} {ed : Ed} (g : GH P h0) (f : GEs P h0 es) (x : GE P (run h0 es) ed) :
    m_law_after [hD (copyH (run h0 es)), eD ed] = .ok (hD (copyH (run h0 (es ++ [ed])))) [] := by
  have gr := (f.run g).1
  have gs := gr.copy
  have cc := copy_copy gr
  have xs := x.copy
  have xcc : GE P (copyH (copyH (run h0 es))) ed := by rw [cc]; exact xs
  have gcc : GH P (copyH (copyH (run h0 es))) := by rw [cc]; exact gs
  have a := law_after_ok gs.wh (xcc.fits gcc) (xcc.chg gcc).wh
  rw [a, cc, chg_copy gr x, run_snoc]
theorem edit_step {js : List Int} (hj : Jar js) {h : Tb (Tb D)} (g : GH P1 h) (hne : h ≠ []) (mD : D) (es : List Ed) (f : GEs P1 (copyH h) es) (hl : es.length < 20) (p : Nat) (hp : p < 400) (d : D) :
    ∃ ρ2, b_law_edits_1 [some (.val, .lst (js.map .int)), some (.bor 1, .lst [.int p]), some (.val, hD h), some (.val, mD), some (.own 1, .lst (es.map eD)), some (.val, hD (copyH (run (copyH h) es))), some (.val, d), none, none, none] = .nx ρ2 ∧
      ∃ (ed : Ed) (p' : Nat), forget [6, 7, 8, 9] ρ2 = [some (.val, .lst (js.map .int)), some (.bor 1, .lst [.int p']), some (.val, hD h), some (.val, mD), some (.own 1, .lst ((es ++ [ed]).map eD)), some (.val, hD (copyH (run (copyH h) (es ++ [ed])))), none, none, none, none] ∧ GEs P1 (copyH h) (es ++ [ed]) ∧ p' ≤ p + 5 := by
  have gc := g.copy
  have gr := (f.run gc).1
  have gs := gr.copy
  have hlen : 0 < (names h).length := by
    cases h with
    | nil => exact absurd rfl hne
    | cons a b => simp [names]
  obtain ⟨r, p1, d1, a0, a1, a2⟩ := drawJ hj p (by omega) ((names h).length : Int) (by omega)
  have hrl : r.toNat < (names h).length := by omega
  obtain ⟨k, hkdef⟩ : ∃ k, k = (names h)[r.toNat] := ⟨_, rfl⟩
  have ek : L2.atI ((names h).map D.str) r = some (.str k) := by
    rw [atI_pos a0 (by rw [List.length_map]; exact a1), hkdef]
    simp [hrl]
  have hk : k ∈ names h := by rw [hkdef]; exact List.getElem_mem hrl
  have hk2 : k ∈ names (run (copyH h) es) := by rw [names_run, names_copyH]; exact hk
  have hk3 : k ∈ names (copyH (run (copyH h) es)) := by rw [names_copyH]; exact hk2
  obtain ⟨t, ht⟩ := look_of_mem hk3
  obtain ⟨r2, p2, d2, b0, b1, b2⟩ := drawJ hj p1 (by omega) 5 (by decide)
  obtain ⟨n, en, hn5⟩ := n5_get b0 b1
  obtain ⟨r3, p3, d3, c0, c1, c2⟩ := drawJ hj p2 (by omega) 3 (by decide)
  have hs1 : es.length < sizeLine := size_big (by omega)
  have la : ∀ x : D, L2.atI (es.map eD ++ [x]) (es.length : Int) = some x := fun x => by
    have := atI_last' (es.map eD) x
    rw [List.length_map] at this
    simpa using this
  -- the edit and what it does
  have fin : ∀ (ed : Ed) (p' : Nat), GE P1 (run (copyH h) es) ed → p' ≤ p + 5 →
      ∃ ρ2, andS (SR.nx [some (.val, .lst (js.map .int)), some (.bor 1, .lst [.int p']), some (.val, hD h), some (.val, mD), some (.own 1, .lst (es.map eD ++ [eD ed])), some (.val, hD (copyH (run (copyH h) es))), some (.val, d), some (.val, .lst ((names h).map .str)), some (.val, .str k), some (.val, .str n)])
          (sSet 5 (eCall [0, 0] m_law_after (xVal true (eV 5) (xVal true (eIx true (eV 4) (eOp true dSub (eBu lenD (xVal true (eV 4) (xNil))) (eC (.int 1)))) (xNil))))) = .nx ρ2 ∧
        ∃ (ed : Ed) (p' : Nat), forget [6, 7, 8, 9] ρ2 = [some (.val, .lst (js.map .int)), some (.bor 1, .lst [.int p']), some (.val, hD h), some (.val, mD), some (.own 1, .lst ((es ++ [ed]).map eD)), some (.val, hD (copyH (run (copyH h) (es ++ [ed])))), none, none, none, none] ∧ GEs P1 (copyH h) (es ++ [ed]) ∧ p' ≤ p + 5 := by
    intro ed p' x hp'
    have af := after_shape gc f x
    refine ⟨[some (.val, .lst (js.map .int)), some (.bor 1, .lst [.int p']), some (.val, hD h), some (.val, mD), some (.own 1, .lst (es.map eD ++ [eD ed])), some (.val, hD (copyH (run (copyH h) (es ++ [ed])))), some (.val, d), some (.val, .lst ((names h).map .str)), some (.val, .str k), some (.val, .str n)], ?_, ed, p', by simp, f.snoc x, hp'⟩
    simp [valsOf, lenD, la, boxes, callDs, asFlat, af]
  by_cases c : r3 = 1 ∧ has t n = true
  · obtain ⟨rfl, hnt⟩ := c
    have x : GE P1 (run (copyH h) es) (.drop k n) := ⟨hk2, hn5, fun _ _ _ q => (nomatch q), fun k' n' q => by
      cases q
      rw [look_copy] at ht
      obtain ⟨u, h1, h2⟩ := Option.map_eq_some_iff.mp ht
      refine ⟨u, h1, ?_⟩
      have gu := gr.ts _ _ h1
      rw [has_iff] at hnt
      rw [← h2, names_srt gu.nd] at hnt
      exact (sortS_perm _).mem_iff.mp hnt⟩
    obtain ⟨ρ2, e1, e2⟩ := fin (.drop k n) p3 x (by omega)
    refine ⟨ρ2, ?_, e2⟩
    rw [← e1]
    simp [b_law_edits_1, valsOf, list_hD, lenD, asFlat, boxes, callDs, d1, d2, d3, setB, setD, ek, en, len5, len3, val_hD ht, hnt, sApp, plN, appC, hs1]
    rfl
  · obtain ⟨xD, p4, d4, hx, c3⟩ := entry_ok hj p3 (by omega)
    have x : GE P1 (run (copyH h) es) (.put k n xD) := ⟨hk2, hn5, fun _ _ _ q => (by cases q; exact hx), fun k' n' q => (nomatch q)⟩
    obtain ⟨ρ2, e1, e2⟩ := fin (.put k n xD) p4 x (by omega)
    refine ⟨ρ2, ?_, e2⟩
    rw [← e1]
    by_cases c4 : r3 = 1
    · subst c4
      have hnt : has t n = false := by
        cases q : has t n with
        | true => exact absurd ⟨rfl, q⟩ c
        | false => rfl
      simp [b_law_edits_1, valsOf, list_hD, lenD, asFlat, boxes, callDs, d1, d2, d3, d4, setB, setD, ek, en, len5, len4, val_hD ht, hnt, sApp, plN, appC, hs1]
      rfl
    · simp [b_law_edits_1, valsOf, list_hD, lenD, asFlat, boxes, callDs, d1, d2, d3, d4, setB, setD, ek, en, len5, len4, c4, sApp, plN, appC, hs1]
      rfl
theorem rng_bnd (ρ : En) (many : Nat) (hm : many < 2 ^ 62) (k : List D → SM) : bndS (rngR (.int many) ρ) k = k ((List.range many).map fun i => .int (i : Nat)) ρ := by
  rw [rng_ok hm, bndS_ok]
theorem lt62 {many : Nat} (hm : many < 9) : many < 2 ^ 62 := by
  have : (9 : Nat) ≤ 2 ^ 62 := by decide
  exact Nat.lt_of_lt_of_le hm this
theorem for_rng {fg : List Nat} {i : Nat} {tg : D → SM} {B : SM} {ρ : En} {many : Nat} (hm : many < 2 ^ 62) (e : ρ[i]? = some (some (.val, .int many))) : sFor fg (iRange1 (eV i)) tg B ρ = forL fg tg B ((List.range many).map fun i => .int (i : Nat)) ρ := by
  rw [ap_for, ap_rng, ap_v, e, slotR_some, bnd_ok, rng_bnd ρ many hm]
theorem edits_end (B : SM) (m : Fn) (jar h s s2 mD : D) (p p' : Int) (l : List D) (hm : m [h] = .ok s []) (hB : B [some (.val, jar), some (.bor 1, .lst [.int p]), some (.val, h), some (.val, mD), some (.own 1, .lst []), some (.val, s), none, none, none, none] = .nx [some (.val, jar), some (.bor 1, .lst [.int p']), some (.val, h), some (.val, mD), some (.own 1, .lst l), some (.val, s2), none, none, none, none]) :
    finR [0, 1, 0, 0] 0 (sSeq (sOwn 1 4 nLst0) (sSeq (sSet 5 (eCall [0] m (xVal true (eV 2) xNil))) (sSeq B (sRet (eF 4)))) [some (.val, jar), some (.bor 1, .lst [.int p]), some (.val, h), some (.val, mD), none, none, none, none, none, none]) = .ok (.lst l) [.lst [.int p']] := by
  simp [asFlat, boxes, callDs, hm, hB, outsE]
theorem edits_ok {js : List Int} (hj : Jar js) {h : Tb (Tb D)} (g : GH P1 h) (hne : h ≠ []) (p : Nat) (hp : p < 200) (many : Nat) (hm : many < 9) :
    ∃ (es : List Ed) (p' : Nat), m_law_edits [.lst (js.map .int), .lst [.int p], hD h, .int many] = .ok (.lst (es.map eD)) [.lst [.int p']] ∧ GEs P1 (copyH h) es ∧ p' ≤ p + 40 := by
  have c1 := law_copy h g.wh
  have cc := copy_copy g
  obtain ⟨ρ', e, es, p', e1, f, hl, hp'⟩ := forL_ok (fg := [6, 7, 8, 9]) (tg := gN 6) (body := b_law_edits_1) (fun i ρ => ∃ (es : List Ed) (p' : Nat), ρ = [some (.val, .lst (js.map .int)), some (.bor 1, .lst [.int p']), some (.val, hD h), some (.val, .int many), some (.own 1, .lst (es.map eD)), some (.val, hD (copyH (run (copyH h) es))), none, none, none, none] ∧ GEs P1 (copyH h) es ∧ es.length = i ∧ p' ≤ p + 5 * i)
    ((List.range many).map fun i => .int (i : Nat)) 0 _ ⟨[], p, rfl, trivial, rfl, by omega⟩ (fun i d ρ ed hP => by
      rw [Nat.zero_add] at hP ⊢
      obtain ⟨es, p', rfl, f, hl, hp'⟩ := hP
      have hi : i < many := by
        have := (List.getElem?_eq_some_iff.mp ed).1
        simpa using this
      obtain ⟨ρ2, e1, x, p2, e2, f2, h2⟩ := edit_step hj g hne (.int many) es f (by omega) p' (by omega) d
      refine ⟨ρ2, ?_, es ++ [x], p2, e2, f2, by simp [hl], by omega⟩
      simp only [ap_gN, andS_nx, List.set]
      exact e1)
  have e' : forL [6, 7, 8, 9] (gN 6) b_law_edits_1 ((List.range many).map fun i => .int (i : Nat)) [some (.val, .lst (js.map .int)), some (.bor 1, .lst [.int p]), some (.val, hD h), some (.val, .int many), some (.own 1, .lst []), some (.val, hD (copyH h)), none, none, none, none] = .nx ρ' := by
    rw [← e]
    simp only [List.map_nil, run, List.foldl_nil, cc]
  have hfor := for_rng (fg := [6, 7, 8, 9]) (i := 3) (tg := gN 6) (B := b_law_edits_1) (ρ := [some (.val, .lst (js.map .int)), some (.bor 1, .lst [.int p]), some (.val, hD h), some (.val, .int many), some (.own 1, .lst []), some (.val, hD (copyH h)), none, none, none, none]) (lt62 hm) rfl
  have hl' : p' ≤ p + 40 := by simp at hp'; omega
  have hb := hfor.trans (e'.trans (congrArg SR.nx e1))
  refine ⟨es, p', ?_, f, hl'⟩
  rw [m_law_edits, ap_run, g_law_edits]
  exact edits_end _ m_law_copy _ _ _ _ _ _ _ _ c1 hb
end Gk80

namespace Gk80
open PySem PySem.Spec VL
open L2 (Key)
/-! ## entries, compared -/
inductive Et where
  | i (n : Int) | b (n : Int) | w | s | o
deriving DecidableEq
def eE : Et → D
  | .i n => .int n
  | .b n => .tup [.str "b", .int n]
  | .w => .str "word"
  | .s => .tup [.str "same", .int 1]
  | .o => .tup [.str "other", .int 2]
theorem sb : PyData.strOk "b" = true := by decide +kernel
theorem sw : PyData.strOk "word" = true := by decide +kernel
theorem ss : PyData.strOk "same" = true := by decide +kernel
theorem so : PyData.strOk "other" = true := by decide +kernel
theorem nbs : (("b" : Str) == ("same" : Str)) = false := by decide +kernel
theorem nbo : (("b" : Str) == ("other" : Str)) = false := by decide +kernel
theorem nsb : (("same" : Str) == ("b" : Str)) = false := by decide +kernel
theorem nob : (("other" : Str) == ("b" : Str)) = false := by decide +kernel
theorem nso : (("same" : Str) == ("other" : Str)) = false := by decide +kernel
theorem nos : (("other" : Str) == ("same" : Str)) = false := by decide +kernel
def eP : Et → PyData
  | .i n => .int n
  | .b n => .tuple [.str "b", .int n]
  | .w => .str "word"
  | .s => .tuple [.str "same", .int 1]
  | .o => .tuple [.str "other", .int 2]
theorem toP (x : Et) : toPy (eE x) = some (eP x) := by cases x <;> rfl
theorem layP (x : Et) : (eP x).canLay0 = true := by cases x <;> simp [eP, PyData.canLay0, PyData.canLayAll0, sb, sw, ss, so]
theorem depP (x : Et) : (eP x).depth ≤ 2 := by cases x <;> simp [eP, PyData.depth, PyData.depthAll]
theorem eqvP (x y : Et) : PyData.eqv (eP x) (eP y) = decide (x = y) := by
  cases x <;> cases y <;> simp [eP, PyData.eqv, PyData.eqvAll, nbs, nbo, nsb, nob, nso, nos]
  all_goals first
    | done
    | (first | rfl | decide +kernel)
theorem shaped_of {p : PyData} (h : p.canLay0 = true) (g : p.depth ≤ 64) : SeqAt.shaped p = true := by unfold SeqAt.shaped; simp [h, g]
/-- an entry that the law may meet -/
def P3 (e : D) : Prop := ∃ x : Et, e = eE x
theorem eE_inj {x y : Et} (h : eE x = eE y) : x = y := by
  cases x <;> cases y <;> simp [eE] at h <;> first | (subst h; rfl) | rfl | (exact absurd h (by decide +kernel)) | (exact absurd h.1 (by decide +kernel))

theorem eqP_of {d e : D} {p q : PyData} (h1 : toPy d = some p) (h2 : toPy e = some q) (l1 : p.canLay0 = true) (l2 : q.canLay0 = true) (g1 : p.depth ≤ 64) (g2 : q.depth ≤ 64) : eqP d e = some (PyData.eqv p q) := by
  unfold eqP
  simp [h1, h2, shaped_of l1 g1, shaped_of l2 g2]
theorem eqE (x y : Et) : eqP (eE x) (eE y) = some (decide (x = y)) := by
  rw [eqP_of (toP x) (toP y) (layP x) (layP y) (by have := depP x; omega) (by have := depP y; omega), eqvP]
/-- what entry_in finds; what the law's own finds -/
def fD : Option D → D
  | some x => .tup [.bl true, x]
  | none => .tup [.bl false, .non]
def lD : Option D → D
  | some x => .lst [x]
  | none => .lst []
def OE (a : Option D) : Prop := ∀ x, a = some x → P3 x
theorem OE.cases {a : Option D} (h : OE a) : a = none ∨ ∃ x : Et, a = some (eE x) := by
  cases a with
  | none => exact .inl rfl
  | some x =>
    obtain ⟨e, rfl⟩ := h x rfl
    exact .inr ⟨e, rfl⟩
theorem toPy_f (x : Et) : toPy (fD (some (eE x))) = some (.tuple [.bool true, eP x]) := by simp [fD, toPy, toPys, toP]
theorem toPy_fn : toPy (fD none) = some (.tuple [.bool false, .none]) := rfl
theorem toPy_l (x : Et) : toPy (lD (some (eE x))) = some (.list [eP x]) := by simp [lD, toPy, toPys, toP]
theorem toPy_ln : toPy (lD none) = some (.list []) := rfl
theorem eqD_f (a b : Option D) (n m : Nat) : eqD n (fD a) m (fD b) = (eqP (fD a) (fD b)).map .bl := by cases a <;> cases b <;> rfl
theorem eqD_l (a b : Option D) (n m : Nat) : eqD n (lD a) m (lD b) = (eqP (lD a) (lD b)).map .bl := by cases a <;> cases b <;> rfl
open Classical in
theorem eq_f {a b : Option D} (ha : OE a) (hb : OE b) (n m : Nat) : eqD n (fD a) m (fD b) = some (.bl (decide (a = b))) := by
  rw [eqD_f]
  have inj : ∀ x y : Et, (eE x = eE y) = (x = y) := fun x y => propext ⟨eE_inj, fun h => by rw [h]⟩
  rcases ha.cases with rfl | ⟨x, rfl⟩ <;> rcases hb.cases with rfl | ⟨y, rfl⟩
  · rw [eqP_of toPy_fn toPy_fn (by decide) (by decide) (by decide) (by decide)]; simp [PyData.eqv, PyData.eqvAll]
  · rw [eqP_of toPy_fn (toPy_f y) (by decide) (by simp [PyData.canLay0, PyData.canLayAll0, layP]) (by decide) (by have := depP y; simp [PyData.depth, PyData.depthAll]; omega)]; cases y <;> simp [PyData.eqv, PyData.eqvAll, eP]
  · rw [eqP_of (toPy_f x) toPy_fn (by simp [PyData.canLay0, PyData.canLayAll0, layP]) (by decide) (by have := depP x; simp [PyData.depth, PyData.depthAll]; omega) (by decide)]; cases x <;> simp [PyData.eqv, PyData.eqvAll, eP]
  · rw [eqP_of (toPy_f x) (toPy_f y) (by simp [PyData.canLay0, PyData.canLayAll0, layP]) (by simp [PyData.canLay0, PyData.canLayAll0, layP]) (by have := depP x; simp [PyData.depth, PyData.depthAll]; omega) (by have := depP y; simp [PyData.depth, PyData.depthAll]; omega)]
    simp [PyData.eqv, PyData.eqvAll, eqvP, inj]
open Classical in
theorem eq_l {a b : Option D} (ha : OE a) (hb : OE b) (n m : Nat) : eqD n (lD a) m (lD b) = some (.bl (decide (a = b))) := by
  rw [eqD_l]
  have inj : ∀ x y : Et, (eE x = eE y) = (x = y) := fun x y => propext ⟨eE_inj, fun h => by rw [h]⟩
  rcases ha.cases with rfl | ⟨x, rfl⟩ <;> rcases hb.cases with rfl | ⟨y, rfl⟩
  · rw [eqP_of toPy_ln toPy_ln (by decide) (by decide) (by decide) (by decide)]; simp [PyData.eqv, PyData.eqvAll]
  · rw [eqP_of toPy_ln (toPy_l y) (by decide) (by simp [PyData.canLay0, PyData.canLayAll0, layP]) (by decide) (by have := depP y; simp [PyData.depth, PyData.depthAll]; omega)]; simp [PyData.eqv, PyData.eqvAll]
  · rw [eqP_of (toPy_l x) toPy_ln (by simp [PyData.canLay0, PyData.canLayAll0, layP]) (by decide) (by have := depP x; simp [PyData.depth, PyData.depthAll]; omega) (by decide)]; simp [PyData.eqv, PyData.eqvAll]
  · rw [eqP_of (toPy_l x) (toPy_l y) (by simp [PyData.canLay0, PyData.canLayAll0, layP]) (by simp [PyData.canLay0, PyData.canLayAll0, layP]) (by have := depP x; simp [PyData.depth, PyData.depthAll]; omega) (by have := depP y; simp [PyData.depth, PyData.depthAll]; omega)]
    simp [PyData.eqv, PyData.eqvAll, eqvP, inj]
open Classical in
/-- what stands of one entry, and whether it is a conflict -/
noncomputable def setl (b o t : Option D) : Bool × Option D := if o = t ∨ t = b then (false, o) else if o = b then (false, t) else (true, b)
theorem setl_comm (b o t : Option D) : setl b o t = setl b t o := by
  unfold setl
  by_cases h1 : o = t
  · subst h1; simp
  · have h1' : ¬ t = o := Ne.symm h1
    by_cases h2 : t = b
    · have : ¬ o = b := fun h => h1 (h.trans h2.symm)
      simp [h1, h1', h2, this]
      intro h; exact absurd h.symm this
    · by_cases h3 : o = b <;> simp [h1, h1', h2, h3]
theorem setl_bb (b h : Option D) : setl b b h = (false, h) := by
  unfold setl
  by_cases e : b = h
  · simp [e]
  · have e' : ¬ h = b := Ne.symm e
    simp [e, e']
theorem setl_hb (b h : Option D) : setl b h b = (false, h) := by rw [setl_comm, setl_bb]
theorem setl_hh (b h : Option D) : setl b h h = (false, h) := by unfold setl; simp
theorem setl_non : setl none none none = (false, none) := setl_hh _ _
theorem setl_oe {b o t : Option D} (hb : OE b) (ho : OE o) (ht : OE t) : OE (setl b o t).2 := by
  unfold setl
  split
  · exact ho
  · split
    · exact ht
    · exact hb
theorem settled_ok {b o t : Option D} (hb : OE b) (ho : OE o) (ht : OE t) : m_settled [fD b, fD o, fD t] = .ok (.tup [.bl (setl b o t).1, fD (setl b o t).2]) [] := by
  have e1 := eq_f ho ht 0 0
  have e2 := eq_f ht hb 0 0
  have e3 := eq_f ho hb 0 0
  unfold setl
  by_cases h1 : o = t
  · rw [if_pos (.inl h1)]
    subst h1
    simp at e1
    simp [m_settled, ap_run, g_settled, initE, e1, outsE, two_le]
  · by_cases h2 : t = b
    · rw [if_pos (.inr h2)]
      have e1 : eqD 0 (fD o) 0 (fD b) = some (.bl false) := by rw [eq_f ho hb]; simp [h2 ▸ h1]
      have e2 : eqD 0 (fD b) 0 (fD b) = some (.bl true) := by rw [eq_f hb hb]; simp
      subst h2
      simp [m_settled, ap_run, g_settled, initE, e1, e2, outsE, two_le]
    · rw [if_neg (by simp [h1, h2])]
      by_cases h3 : o = b
      · rw [if_pos h3]
        simp [h1] at e1
        simp [h2] at e2
        simp [h3] at e3
        subst h3
        simp [m_settled, ap_run, g_settled, initE, e1, e2, e3, outsE, two_le]
      · rw [if_neg h3]
        simp [h1] at e1
        simp [h2] at e2
        simp [h3] at e3
        simp [m_settled, ap_run, g_settled, initE, e1, e2, e3, outsE, two_le]
theorem entry_in_ok {h : Tb (Tb D)} {k : Str} {t : Tb D} (ht : look h k = some t) (n : Str) : m_entry_in [hD h, .str k, .str n] = .ok (fD (look t n)) [] := by
  have ck := check_key_ok (has_look ht)
  cases e : look t n with
  | none =>
    have hn : has t n = false := has_false.mpr (look_none.mp e)
    simp [m_entry_in, ap_run, g_entry_in, initE, boxes, callDs, asFlat, ck, outsE, val_hD ht, hn, two_le, fD]
  | some x =>
    have hn : has t n = true := has_look e
    simp [m_entry_in, ap_run, g_entry_in, initE, boxes, callDs, asFlat, ck, outsE, val_hD ht, hn, val_tD e, two_le, fD]
theorem entry_at_ok {h : Tb (Tb D)} {k : Str} {t : Tb D} (ht : look h k = some t) (n : Str) : m_law_entry_at [hD h, .str k, .str n] = .ok (lD (look t n)) [] := by
  cases e : look t n with
  | none =>
    have hn : has t n = false := has_false.mpr (look_none.mp e)
    simp [m_law_entry_at, ap_run, g_law_entry_at, initE, outsE, val_hD ht, hn, one_le, zero_le, lD]
  | some x =>
    have hn : has t n = true := has_look e
    simp [m_law_entry_at, ap_run, g_law_entry_at, initE, outsE, val_hD ht, hn, val_tD e, one_le, zero_le, lD]
end Gk80

namespace Gk80
open PySem PySem.Spec VL
open L2 (Key)
/-! ## the names of three tables -/
def ins (l : List Str) (n : Str) : List Str := if n ∈ l then l else l ++ [n]
def inss (l xs : List Str) : List Str := xs.foldl ins l
def tt (l : List Str) : Tb D := l.map fun n => (n, .bl true)
theorem names_tt (l : List Str) : names (tt l) = l := by
  unfold names tt
  rw [List.map_map]
  exact List.map_id _
theorem put_tt (l : List Str) (n : Str) : put (tt l) n (.bl true) = tt (ins l n) := by
  unfold ins
  by_cases h : n ∈ l
  · rw [if_pos h]
    unfold put
    rw [if_pos (by rw [has_iff, names_tt]; exact h)]
    unfold tt
    rw [List.map_map]
    apply List.map_congr_left
    intro m _
    simp only [Function.comp]
    split <;> rfl
  · rw [if_neg h, put_new (by rw [names_tt]; exact h)]
    simp [tt]
theorem inss_snoc (l xs : List Str) (n : Str) : inss l (xs ++ [n]) = ins (inss l xs) n := by simp [inss]
theorem inss_app (l xs ys : List Str) : inss l (xs ++ ys) = inss (inss l xs) ys := by simp [inss]
theorem mem_ins {l : List Str} {n m : Str} : m ∈ ins l n ↔ m ∈ l ∨ m = n := by
  unfold ins
  split
  · exact ⟨.inl, fun h => h.elim id fun e => by rw [e]; assumption⟩
  · simp
theorem mem_inss {xs : List Str} : ∀ {l : List Str} {m : Str}, m ∈ inss l xs ↔ m ∈ l ∨ m ∈ xs := by
  induction xs with
  | nil => intro l m; simp [inss]
  | cons x xs ih =>
    intro l m
    have : inss l (x :: xs) = inss (ins l x) xs := rfl
    rw [this, ih, mem_ins, List.mem_cons]
    exact or_assoc
theorem nd_ins {l : List Str} {n : Str} (h : l.Nodup) : (ins l n).Nodup := by
  unfold ins
  split
  · exact h
  · rename_i hn
    exact List.nodup_append.mpr ⟨h, by simp, fun a ha b hb e => by simp at hb; subst hb; exact hn (e ▸ ha)⟩
theorem nd_inss {xs : List Str} : ∀ {l : List Str}, l.Nodup → (inss l xs).Nodup := by
  induction xs with
  | nil => exact fun h => h
  | cons x xs ih => exact fun h => ih (l := ins _ x) (nd_ins h)
def N5s (l : List Str) : Prop := l.Nodup ∧ ∀ n ∈ l, n ∈ N5
theorem N5s.few {l : List Str} (h : N5s l) : l.length ≤ 5 := by
  have := few_of h.1 h.2
  simpa [N5] using this
theorem N5s.inss {l xs : List Str} (h : N5s l) (hx : ∀ n ∈ xs, n ∈ N5) : N5s (inss l xs) := ⟨nd_inss h.1, fun n hn => (mem_inss.mp hn).elim (h.2 n) (hx n)⟩
theorem names_in (hs kD hh : D) {h : Tb (Tb D)} {k : Str} {t : Tb D} (l : List Str) (hl : N5s l) (ht : ∀ n ∈ names t, n ∈ N5) :
    forL [4] (gN 4) b_names_of_1 ((names t).map .str) [some (.val, hs), some (.val, kD), some (.own 1, tD (tt l)), some (.val, hh), none] = .nx [some (.val, hs), some (.val, kD), some (.own 1, tD (tt (inss l (names t)))), some (.val, hh), none] := by
  refine forL_fun (fg := [4]) (tg := gN 4) (body := b_names_of_1) D.str (fun done => [some (.val, hs), some (.val, kD), some (.own 1, tD (tt (inss l done))), some (.val, hh), none]) (names t) fun done n rest e => ?_
  have hd : ∀ n ∈ done, n ∈ N5 := fun m hm => ht m (by rw [e]; exact List.mem_append_left _ hm)
  have few := (hl.inss hd).few
  have hp := put_tD (t := tt (inss l done)) (n := n) (e := .bl true) (by simp [tt]; omega)
  rw [put_tt] at hp
  refine ⟨[some (.val, hs), some (.val, kD), some (.own 1, tD (tt (ins (inss l done) n))), some (.val, hh), some (.val, .str n)], ?_, by simp [inss_snoc]⟩
  simp [b_names_of_1, sPut, plN, hp]
def una (ts : List (Tb D)) : List Str := ts.foldl (fun l t => inss l (names t)) []
theorem una_snoc (ts : List (Tb D)) (t : Tb D) : una (ts ++ [t]) = inss (una ts) (names t) := by simp [una]
theorem una_n5 : ∀ {ts : List (Tb D)}, (∀ t ∈ ts, ∀ n ∈ names t, n ∈ N5) → N5s (una ts) := by
  intro ts
  have go : ∀ (ts : List (Tb D)) (l : List Str), N5s l → (∀ t ∈ ts, ∀ n ∈ names t, n ∈ N5) → N5s (ts.foldl (fun l t => inss l (names t)) l) := by
    intro ts
    induction ts with
    | nil => exact fun l h _ => h
    | cons t ts ih => exact fun l h ht => ih _ (h.inss (ht t List.mem_cons_self)) fun u hu => ht u (List.mem_cons_of_mem _ hu)
  exact fun h => go ts [] ⟨.nil, fun _ z => nomatch z⟩ h
theorem mem_una : ∀ {ts : List (Tb D)} {n : Str}, n ∈ una ts ↔ ∃ t ∈ ts, n ∈ names t := by
  intro ts n
  have go : ∀ (ts : List (Tb D)) (l : List Str), n ∈ ts.foldl (fun l t => inss l (names t)) l ↔ n ∈ l ∨ ∃ t ∈ ts, n ∈ names t := by
    intro ts
    induction ts with
    | nil => intro l; simp
    | cons t ts ih =>
      intro l
      rw [List.foldl_cons, ih, mem_inss]
      simp only [List.mem_cons, exists_eq_or_imp]
      exact or_assoc
  have := go ts []
  unfold una
  simpa using this
theorem sorted_tt (l : List Str) (h : l.length < 64) (n : Nat) : sortedD [(n, tD (tt l))] = some ((sortS l).map .str) := by
  have := sorted_dic (t := tt l) n (by simpa [tt] using h)
  rwa [names_tt] at this
theorem dic_tD {h : Tb D} {ρ : En} : dicR (0, tD h) ρ = .ok ((names h).map .str) ρ := by unfold tD; rw [dicR_dic, keys_enc]
theorem names_of_ok {hs : List (Tb (Tb D))} {k : Str} (f : Tb (Tb D) → Tb D) (hf : ∀ h ∈ hs, look h k = some (f h) ∧ ∀ n ∈ names (f h), n ∈ N5) : m_names_of [.lst (hs.map hD), .str k] = .ok (.lst ((sortS (una (hs.map f))).map .str)) [] := by
  have lp := forL_fun (fg := [3, 4]) (tg := gN 3) (body := b_names_of_2) hD (fun done => [some (.val, .lst (hs.map hD)), some (.val, .str k), some (.own 1, tD (tt (una (done.map f)))), none, none]) hs fun done h rest e => by
    have hd : ∀ t ∈ done.map f, ∀ n ∈ names t, n ∈ N5 := fun t ht => by
      obtain ⟨g, hg, rfl⟩ := List.mem_map.mp ht
      exact (hf g (by rw [e]; exact List.mem_append_left _ hg)).2
    obtain ⟨h1, h2⟩ := hf h (by rw [e]; simp)
    have ni := names_in (.lst (hs.map hD)) (.str k) (hD h) (h := h) (k := k) (una (done.map f)) (una_n5 hd) h2
    refine ⟨[some (.val, .lst (hs.map hD)), some (.val, .str k), some (.own 1, tD (tt (inss (una (done.map f)) (names (f h))))), some (.val, hD h), none], ?_, by simp [una_snoc]⟩
    simp only [ap_gN, andS_nx, b_names_of_2, ap_for, ap_iDic, ap_ix, ap_v, List.set, List.getElem?_cons_succ, List.getElem?_cons_zero, slotR_some, lv_val, bnd_ok, ixQ_true, ixN'_0, ixD_hD, val_hD h1, ixO_some, bndS_ok]
    rw [dic_tD]
    simp only [bndS_ok]
    exact ni
  have few := (una_n5 (ts := hs.map f) fun t ht => by
    obtain ⟨g, hg, rfl⟩ := List.mem_map.mp ht
    exact (hf g hg).2).few
  have e0 : (D.dic []) = tD (tt (una (([] : List (Tb (Tb D))).map f))) := rfl
  simp only [m_names_of, ap_run, g_names_of, initE, List.replicate, List.cons_append, List.nil_append, ap_seq, ap_own, ap_dic0, bndS_ok, andS_nx, List.set, ap_for, ap_iSeq, ap_v, List.getElem?_cons_zero, slotR_some, lv_val, bnd_ok, seqR_lst]
  rw [e0, lp]
  simp [valsOf, sorted_tt _ (show (una (hs.map f)).length < 64 by omega), outsE]
end Gk80

namespace Gk80
open PySem PySem.Spec VL
open L2 (Key)
/-! ## merged tables -/
def S5 : List Str := ["a", "b10", "b9", "c", "e"]
noncomputable def st3 (b o t : Tb D) (n : Str) : Bool × Option D := setl (look b n) (look o n) (look t n)
noncomputable def rowOf (b o t : Tb D) (L : List Str) : Tb D := L.filterMap fun n => (st3 b o t n).2.map fun x => (n, x)
noncomputable def metOf (k : Str) (b o t : Tb D) (L : List Str) : List SP := (L.filter fun n => (st3 b o t n).1).map fun n => (k, n)
section
variable {b o t : Tb D} {L : List Str} {k n : Str}
theorem row_snoc : rowOf b o t (L ++ [n]) = rowOf b o t L ++ ((st3 b o t n).2.map fun x => (n, x)).toList := by
  unfold rowOf
  rw [List.filterMap_append]
  congr 1
theorem met_snoc : metOf k b o t (L ++ [n]) = metOf k b o t L ++ (if (st3 b o t n).1 = true then [(k, n)] else []) := by
  unfold metOf
  rw [List.filter_append, List.map_append]
  congr 1
  cases e : (st3 b o t n).1 <;> simp [e]
theorem row_names (h : n ∈ names (rowOf b o t L)) : n ∈ L := by
  unfold names rowOf at h
  obtain ⟨p, hp, rfl⟩ := List.mem_map.mp h
  obtain ⟨m, hm, e⟩ := List.mem_filterMap.mp hp
  obtain ⟨x, _, rfl⟩ := Option.map_eq_some_iff.mp e
  exact hm
theorem row_len : (rowOf b o t L).length ≤ L.length := List.length_filterMap_le _ _
theorem met_len : (metOf k b o t L).length ≤ L.length := by
  unfold metOf
  rw [List.length_map]
  exact List.length_filter_le _ _
theorem row_comm : rowOf b o t L = rowOf b t o L := by
  unfold rowOf st3
  congr 1
  funext n
  rw [setl_comm]
theorem met_comm : metOf k b o t L = metOf k b t o L := by
  unfold metOf st3
  congr 2
  funext n
  rw [setl_comm]
end
theorem s5_nd : S5.Nodup := by decide +kernel
theorem n5_s5 : ∀ n ∈ N5, n ∈ S5 := by decide +kernel
theorem s5_n5 : ∀ n ∈ S5, n ∈ N5 := by decide +kernel
theorem s5_up : S5.Pairwise (fun a b => sLe a b = true) := by
  decide +kernel
theorem sort_s5 {U : List Str} (nd : U.Nodup) (sub : ∀ n ∈ U, n ∈ N5) : sortS U = S5.filter fun n => decide (n ∈ U) := by
  have p1 : (sortS U).Pairwise (fun a b => sLe a b = true) := List.pairwise_mergeSort (le := sLe) sLe_trans sLe_total _
  have p2 : (S5.filter fun n => decide (n ∈ U)).Pairwise (fun a b => sLe a b = true) := s5_up.sublist List.filter_sublist
  have nf : (S5.filter fun n => decide (n ∈ U)).Nodup := s5_nd.sublist List.filter_sublist
  have pm : U.Perm (S5.filter fun n => decide (n ∈ U)) := by
    rw [List.perm_ext_iff_of_nodup nd nf]
    intro a
    simp only [List.mem_filter, decide_eq_true_eq]
    exact ⟨fun h => ⟨n5_s5 a (sub a h), h⟩, fun h => h.2⟩
  exact List.Perm.eq_of_pairwise (le := fun a b => sLe a b = true) (fun a b _ _ => sLe_anti) p1 p2 ((sortS_perm U).trans pm)
theorem row_filter {b o t : Tb D} {U : List Str} (hU : ∀ n, n ∉ U → look b n = none ∧ look o n = none ∧ look t n = none) (L : List Str) : rowOf b o t (L.filter fun n => decide (n ∈ U)) = rowOf b o t L := by
  induction L with
  | nil => rfl
  | cons n L ih =>
    unfold rowOf at ih ⊢
    by_cases h : n ∈ U
    · rw [List.filter_cons_of_pos (by simpa using h), List.filterMap_cons, List.filterMap_cons, ih]
    · rw [List.filter_cons_of_neg (by simpa using h), ih, List.filterMap_cons]
      obtain ⟨h1, h2, h3⟩ := hU n h
      simp [st3, h1, h2, h3, setl_non]
theorem met_filter {k : Str} {b o t : Tb D} {U : List Str} (hU : ∀ n, n ∉ U → look b n = none ∧ look o n = none ∧ look t n = none) (L : List Str) : metOf k b o t (L.filter fun n => decide (n ∈ U)) = metOf k b o t L := by
  induction L with
  | nil => rfl
  | cons n L ih =>
    unfold metOf at ih ⊢
    by_cases h : n ∈ U
    · rw [List.filter_cons_of_pos (by simpa using h), List.filter_cons, List.filter_cons]
      split
      · rw [List.map_cons, List.map_cons, ih]
      · exact ih
    · rw [List.filter_cons_of_neg (by simpa using h), ih, List.filter_cons]
      obtain ⟨h1, h2, h3⟩ := hU n h
      simp [st3, h1, h2, h3, setl_non]
/-- the names that the program goes through, and the law's own, are as good -/
theorem row_una {b o t : Tb D} {P : D → Prop} (gb : GT P b) (go : GT P o) (gt : GT P t) (k : Str) : rowOf b o t (sortS (una [b, o, t])) = rowOf b o t S5 ∧ metOf k b o t (sortS (una [b, o, t])) = metOf k b o t S5 := by
  have n5 : N5s (una [b, o, t]) := una_n5 fun u hu => by
    simp only [List.mem_cons, List.not_mem_nil, or_false] at hu
    rcases hu with rfl | rfl | rfl
    · exact gb.sub
    · exact go.sub
    · exact gt.sub
  have hU : ∀ n, n ∉ una [b, o, t] → look b n = none ∧ look o n = none ∧ look t n = none := fun n hn => by
    rw [mem_una] at hn
    exact ⟨look_none.mpr fun h => hn ⟨b, by simp, h⟩, look_none.mpr fun h => hn ⟨o, by simp, h⟩, look_none.mpr fun h => hn ⟨t, by simp, h⟩⟩
  rw [sort_s5 n5.1 n5.2]
  exact ⟨row_filter hU S5, met_filter hU S5⟩
theorem GT.oe {t : Tb D} (g : GT P3 t) (n : Str) : OE (look t n) := fun x h => g.val n x h
theorem pair_app {k n : Str} {ms : List SP} : (ms.map pairD) ++ [D.tup [.str k, .str n]] = (ms ++ [(k, n)]).map pairD := by simp [pairD]
section
variable {base one two : Tb (Tb D)} {k : Str} {b o t : Tb D}
/-- the law's own loop over the names -/
theorem law_merge_in (gb : GT P3 b) (go : GT P3 o) (gt : GT P3 t) (hb : look base k = some b) (ho : look one k = some o) (ht : look two k = some t) (fs : Tb (Tb D)) (hk : k ∉ names fs) (ms : List SP) (hms : ms.length < 1000) :
    forL [6, 7, 8, 9, 10] (gN 6) b_law_merge_1 (S5.map .str) [some (.val, hD base), some (.val, hD one), some (.val, hD two), some (.own 2, .dic (enc tD (fs ++ [(k, [])]))), some (.own 1, .lst (ms.map pairD)), some (.val, .str k), none, none, none, none, none] =
      .nx [some (.val, hD base), some (.val, hD one), some (.val, hD two), some (.own 2, .dic (enc tD (fs ++ [(k, rowOf b o t S5)]))), some (.own 1, .lst ((ms ++ metOf k b o t S5).map pairD)), some (.val, .str k), none, none, none, none, none] := by
  have lp := forL_fun (fg := [6, 7, 8, 9, 10]) (tg := gN 6) (body := b_law_merge_1) D.str (fun done => [some (.val, hD base), some (.val, hD one), some (.val, hD two), some (.own 2, .dic (enc tD (fs ++ [(k, rowOf b o t done)]))), some (.own 1, .lst ((ms ++ metOf k b o t done).map pairD)), some (.val, .str k), none, none, none, none, none]) S5 fun done n rest e => by
    have hd : done.length < 5 := by
      have := congrArg List.length e
      simp [S5] at this
      omega
    have hn : n ∉ done := fun hm => by
      have := s5_nd
      rw [e] at this
      exact (List.nodup_append.mp this).2.2 n hm n List.mem_cons_self rfl
    have hnr : n ∉ names (rowOf b o t done) := fun hm => hn (row_names hm)
    have hrl : (rowOf b o t done).length < 64 := by have := row_len (b := b) (o := o) (t := t) (L := done); omega
    have hml : (ms ++ metOf k b o t done).length < sizeLine := size_big (by have := met_len (k := k) (b := b) (o := o) (t := t) (L := done); simp; omega)
    have a1 := entry_at_ok hb n
    have a2 := entry_at_ok ho n
    have a3 := entry_at_ok ht n
    have q1 := eq_l (go.oe n) (gt.oe n) 0 0
    have q2 := eq_l (gt.oe n) (gb.oe n) 0 0
    have q3 := eq_l (go.oe n) (gb.oe n) 0 0
    have so := setl_oe (gb.oe n) (go.oe n) (gt.oe n)
    -- what is left when the entry is settled
    have fin : ∀ (ms' : List SP), ∃ ρ2, sIf (bTru (eV 10)) (sPut 0 (plK (plN 3) (eV 5)) (eV 6) (n0 (eIx true (eV 10) (eC (.int 0))))) sNx [some (.val, hD base), some (.val, hD one), some (.val, hD two), some (.own 2, .dic (enc tD (fs ++ [(k, rowOf b o t done)]))), some (.own 1, .lst (ms'.map pairD)), some (.val, .str k), some (.val, .str n), some (.val, lD (look b n)), some (.val, lD (look o n)), some (.val, lD (look t n)), some (.val, lD (st3 b o t n).2)] = .nx ρ2 ∧
        forget [6, 7, 8, 9, 10] ρ2 = [some (.val, hD base), some (.val, hD one), some (.val, hD two), some (.own 2, .dic (enc tD (fs ++ [(k, rowOf b o t (done ++ [n]))]))), some (.own 1, .lst (ms'.map pairD)), some (.val, .str k), none, none, none, none, none] := fun ms' => by
      rw [row_snoc]
      cases es : (st3 b o t n).2 with
      | none =>
        refine ⟨[some (.val, hD base), some (.val, hD one), some (.val, hD two), some (.own 2, .dic (enc tD (fs ++ [(k, rowOf b o t done)]))), some (.own 1, .lst (ms'.map pairD)), some (.val, .str k), some (.val, .str n), some (.val, lD (look b n)), some (.val, lD (look o n)), some (.val, lD (look t n)), some (.val, .lst [])], ?_, by simp⟩
        rw [show lD none = D.lst [] from rfl]
        simp
      | some x =>
        have st := put_in (ρ := [some (.val, hD base), some (.val, hD one), some (.val, hD two), some (.own 2, .dic (enc tD (fs ++ [(k, rowOf b o t done)]))), some (.own 1, .lst (ms'.map pairD)), some (.val, .str k), some (.val, .str n), some (.val, lD (look b n)), some (.val, lD (look o n)), some (.val, lD (look t n)), some (.val, lD (some x))]) (i := 3) (fs := fs) (k := k) (n := n) (ts := rowOf b o t done) (e := x) (kf := eV 6) (kk := eV 5) (f := n0 (eIx true (eV 10) (eC (.int 0)))) rfl rfl rfl (by simp [lD]) hk hnr hrl
        refine ⟨_, Eq.trans ?_ st, ?_⟩
        · rw [ap_if]
          simp only [ap_tru, ap_v, List.getElem?_cons_succ, List.getElem?_cons_zero, slotR_some, lv_val, bnd_ok, lD, truD_lst, truR_some, bndS_ok, List.isEmpty_cons, Bool.not_false, if_true]
        · simp
    refine Exists.elim (fin (ms ++ metOf k b o t (done ++ [n]))) fun ρ2 hρ => ⟨ρ2, ?_, hρ.2⟩
    rw [← hρ.1, ap_gN, andS_nx]
    unfold b_law_merge_1
    refine seq_nx (ρ' := [some (.val, hD base), some (.val, hD one), some (.val, hD two), some (.own 2, .dic (enc tD (fs ++ [(k, rowOf b o t done)]))), some (.own 1, .lst ((ms ++ metOf k b o t done).map pairD)), some (.val, .str k), some (.val, .str n), some (.val, lD (look b n)), none, none, none]) (by simp [boxes, callDs, asFlat, a1]) ?_
    refine seq_nx (ρ' := [some (.val, hD base), some (.val, hD one), some (.val, hD two), some (.own 2, .dic (enc tD (fs ++ [(k, rowOf b o t done)]))), some (.own 1, .lst ((ms ++ metOf k b o t done).map pairD)), some (.val, .str k), some (.val, .str n), some (.val, lD (look b n)), some (.val, lD (look o n)), none, none]) (by simp [boxes, callDs, asFlat, a2]) ?_
    refine seq_nx (ρ' := [some (.val, hD base), some (.val, hD one), some (.val, hD two), some (.own 2, .dic (enc tD (fs ++ [(k, rowOf b o t done)]))), some (.own 1, .lst ((ms ++ metOf k b o t done).map pairD)), some (.val, .str k), some (.val, .str n), some (.val, lD (look b n)), some (.val, lD (look o n)), some (.val, lD (look t n)), none]) (by simp [boxes, callDs, asFlat, a3]) ?_
    refine seq_nx (ρ' := [some (.val, hD base), some (.val, hD one), some (.val, hD two), some (.own 2, .dic (enc tD (fs ++ [(k, rowOf b o t done)]))), some (.own 1, .lst ((ms ++ metOf k b o t done).map pairD)), some (.val, .str k), some (.val, .str n), some (.val, lD (look b n)), some (.val, lD (look o n)), some (.val, lD (look t n)), some (.val, lD (look b n))]) (by simp) ?_
    refine seq_nx (ρ' := [some (.val, hD base), some (.val, hD one), some (.val, hD two), some (.own 2, .dic (enc tD (fs ++ [(k, rowOf b o t done)]))), some (.own 1, .lst ((ms ++ metOf k b o t (done ++ [n])).map pairD)), some (.val, .str k), some (.val, .str n), some (.val, lD (look b n)), some (.val, lD (look o n)), some (.val, lD (look t n)), some (.val, lD (st3 b o t n).2)]) ?_ rfl
    rw [met_snoc, st3, setl]
    clear fin a1 a2 a3 so hρ
    have r1 := eq_l (gt.oe n) (gt.oe n) 0 0
    have r2 := eq_l (gb.oe n) (gb.oe n) 0 0
    generalize look o n = O at q1 q3 ⊢
    generalize look t n = T at q1 q2 r1 ⊢
    generalize look b n = B at q2 q3 r2 ⊢
    simp only [decide_true] at r1 r2
    by_cases h1 : O = T
    · subst h1
      simp [r1]
    · simp only [h1, decide_false] at q1
      by_cases h2 : T = B
      · subst h2
        simp [q1, r1, h1]
      · simp only [h2, decide_false] at q2
        by_cases h3 : O = B
        · subst h3
          simp [q1, q2, r2, h1, h2]
        · simp only [h3, decide_false] at q3
          simp only [List.length_append, List.length_map] at hml
          simp [q1, q2, q3, h1, h2, h3, sApp, plN, appC, hml, two_le]
          try simp [pairD]
  rw [show rowOf b o t [] = [] from rfl, show metOf k b o t [] = [] from rfl, List.append_nil] at lp
  exact lp
end
end Gk80

namespace Gk80
open PySem PySem.Spec VL
open L2 (Key)
/-! ## merged houses -/
def tab (h : Tb (Tb D)) (k : Str) : Tb D := (look h k).getD []
noncomputable def mgH (one two base : Tb (Tb D)) : Tb (Tb D) := base.map fun p => (p.1, rowOf p.2 (tab one p.1) (tab two p.1) S5)
noncomputable def mtH (one two base : Tb (Tb D)) : List SP := base.flatMap fun p => metOf p.1 p.2 (tab one p.1) (tab two p.1) S5
structure Tri (base one two : Tb (Tb D)) : Prop where
  gb : GH P3 base
  go : GH P3 one
  gt : GH P3 two
  n1 : names one = names base
  n2 : names two = names base
theorem tab_of {h : Tb (Tb D)} {k : Str} (hk : k ∈ names h) : look h k = some (tab h k) := by
  obtain ⟨t, ht⟩ := look_of_mem hk
  unfold tab
  rw [ht]; rfl
theorem mg_names (one two base : Tb (Tb D)) : names (mgH one two base) = names base := by simp [mgH, names]
theorem mg_snoc (one two l : Tb (Tb D)) (p : Str × Tb D) : mgH one two (l ++ [p]) = mgH one two l ++ [(p.1, rowOf p.2 (tab one p.1) (tab two p.1) S5)] := by simp [mgH]
theorem mt_snoc (one two l : Tb (Tb D)) (p : Str × Tb D) : mtH one two (l ++ [p]) = mtH one two l ++ metOf p.1 p.2 (tab one p.1) (tab two p.1) S5 := by simp [mtH]
theorem mt_len (one two : Tb (Tb D)) : ∀ (l : Tb (Tb D)), (mtH one two l).length ≤ 5 * l.length := by
  intro l
  induction l with
  | nil => simp [mtH]
  | cons p l ih =>
    have e : mtH one two (p :: l) = metOf p.1 p.2 (tab one p.1) (tab two p.1) S5 ++ mtH one two l := by simp [mtH]
    have := met_len (k := p.1) (b := p.2) (o := tab one p.1) (t := tab two p.1) (L := S5)
    rw [e, List.length_append, List.length_cons]
    simp [S5] at this ⊢
    omega
/-- one row of the base: what stands there in the three -/
structure At (base one two : Tb (Tb D)) (k : Str) (b o t : Tb D) : Prop where
  hb : look base k = some b
  ho : look one k = some o
  ht : look two k = some t
  gb : GT P3 b
  go : GT P3 o
  gt : GT P3 t
theorem Tri.at {base one two : Tb (Tb D)} (g : Tri base one two) {p : Str × Tb D} (hp : p ∈ base) : At base one two p.1 p.2 (tab one p.1) (tab two p.1) := by
  have hb := look_mem g.gb.nd hp
  have hk : p.1 ∈ names base := List.mem_map.mpr ⟨p, hp, rfl⟩
  have ho := tab_of (h := one) (by rw [g.n1]; exact hk)
  have ht := tab_of (h := two) (by rw [g.n2]; exact hk)
  exact ⟨hb, ho, ht, g.gb.ts _ _ hb, g.go.ts _ _ ho, g.gt.ts _ _ ht⟩
theorem few3 {h : Tb (Tb D)} (g : GH P3 h) : h.length ≤ 3 := by
  have := few_of g.nd g.sub
  simpa [names, K3] using this
theorem split_base {base : Tb (Tb D)} (g : GH P3 base) {done : Tb (Tb D)} {p : Str × Tb D} {rest : Tb (Tb D)} (e : base = done ++ p :: rest) : p ∈ base ∧ p.1 ∉ names done ∧ done.length < 3 := by
  refine ⟨by rw [e]; simp, fun hm => ?_, ?_⟩
  · have nd := g.nd
    rw [e] at nd
    unfold names at nd hm
    rw [List.map_append, List.map_cons] at nd
    exact (List.nodup_append.mp nd).2.2 _ hm _ List.mem_cons_self rfl
  · have := few3 g
    rw [e] at this
    simp at this
    omega
theorem keysOf_hD {h : Tb (Tb D)} {ρ : En} : dicR (0, hD h) ρ = .ok (h.map fun p => D.str p.1) ρ := by
  rw [dic_hD]; simp [names]
theorem law_merge_ok {base one two : Tb (Tb D)} (g : Tri base one two) : m_law_merge [hD base, hD one, hD two] = .ok (.tup [hD (mgH one two base), .lst ((sortP (mtH one two base)).map pairD)]) [] := by
  have lp := forL_fun (fg := [5, 6, 7, 8, 9, 10]) (tg := gN 5) (body := b_law_merge_2) (fun p : Str × Tb D => D.str p.1) (fun done => [some (.val, hD base), some (.val, hD one), some (.val, hD two), some (.own 2, .dic (enc tD (mgH one two done))), some (.own 1, .lst ((mtH one two done).map pairD)), none, none, none, none, none, none]) base fun done p rest e => by
    obtain ⟨hp, hk, hl⟩ := split_base g.gb e
    have a := g.at hp
    have hk' : p.1 ∉ names (mgH one two done) := by rw [mg_names]; exact hk
    have st := put_row (ρ := [some (.val, hD base), some (.val, hD one), some (.val, hD two), some (.own 2, .dic (enc tD (mgH one two done))), some (.own 1, .lst ((mtH one two done).map pairD)), some (.val, .str p.1), none, none, none, none, none]) (i := 3) (fs := mgH one two done) (k := p.1) (kf := eV 5) rfl rfl hk' (by simp [mgH]; omega)
    have inn := law_merge_in a.gb a.go a.gt a.hb a.ho a.ht (mgH one two done) hk' (mtH one two done) (by have := mt_len one two done; omega)
    refine ⟨[some (.val, hD base), some (.val, hD one), some (.val, hD two), some (.own 2, .dic (enc tD (mgH one two done ++ [(p.1, rowOf p.2 (tab one p.1) (tab two p.1) S5)]))), some (.own 1, .lst ((mtH one two done ++ metOf p.1 p.2 (tab one p.1) (tab two p.1) S5).map pairD)), some (.val, .str p.1), none, none, none, none, none], ?_, by rw [mg_snoc, mt_snoc]; rfl⟩
    rw [ap_gN, andS_nx]
    unfold b_law_merge_2
    refine seq_nx st ?_
    simp only [ap_for, ap_iSeq, ap_lst, ap_aCons, ap_c, ap_aNil, bnd_ok, if_true, List.length_cons, List.length_nil, Nat.zero_add, Nat.reduceAdd, if_pos five_le, seqR_lst, bndS_ok, List.set]
    exact inn
  have e0 : (D.dic []) = D.dic (enc tD (mgH one two [])) := rfl
  have e1 : (D.lst []) = D.lst ((mtH one two []).map pairD) := rfl
  simp only [m_law_merge, ap_run, g_law_merge, initE, List.replicate, List.cons_append, List.nil_append, ap_seq, ap_own, ap_dic0, ap_lst0, bndS_ok, andS_nx, List.set, ap_for, ap_iDic, ap_v, List.getElem?_cons_zero, slotR_some, lv_val, bnd_ok, keysOf_hD]
  rw [e0, e1, lp]
  simp [valsOf, sortQ_map, two_le, outsE, hD]
/-! ### the program's -/
theorem sorted_hD {t : Tb (Tb D)} (n : Nat) (h : t.length < 64) : sortedD [(n, hD t)] = some ((sortS (names t)).map .str) := by
  unfold sortedD hD
  dsimp only
  rw [keys_enc]
  unfold sortDs
  rw [if_pos (by simpa [names] using h), asStrs_map]
theorem sortS_mem {l : List Str} {s : Str} (h : s ∈ sortS l) : s ∈ l := (sortS_perm l).mem_iff.mp h
theorem same_keys_ok {h g : Tb (Tb D)} (e : names g = names h) (hl : h.length < 64) (ok : ∀ s ∈ names h, PyData.strOk s = true) : m_same_keys [hD h, hD g] = .ok (.bl true) [] := by
  have hg : g.length < 64 := by
    have := congrArg List.length e
    simp [names] at this
    omega
  have q : eqD 0 (.lst ((sortS (names h)).map .str)) 0 (.lst ((sortS (names h)).map .str)) = some (.bl true) := (strs_ok fun s hs => ok s (sortS_mem hs)).eq (by decide) _ _
  simp [m_same_keys, ap_run, g_same_keys, initE, valsOf, sorted_hD 0 hl, sorted_hD 0 hg, e, q, outsE]
theorem eqvAll_len : ∀ {xs ys : List PyData}, xs.length ≠ ys.length → PyData.eqvAll xs ys = false
  | [], [], h => absurd rfl h
  | [], _ :: _, _ => rfl
  | _ :: _, [], _ => rfl
  | x :: xs, y :: ys, h => by
    unfold PyData.eqvAll
    rw [eqvAll_len (xs := xs) (ys := ys) fun z => h (by rw [List.length_cons, List.length_cons, z]), Bool.and_false]
theorem toPys_strs (l : List Str) : toPys (l.map .str) = some (l.map .str) := by
  induction l with
  | nil => rfl
  | cons s l ih => simp [toPys, toPy, ih]
theorem lay_strs {l : List Str} (h : ∀ s ∈ l, PyData.strOk s = true) : PyData.canLayAll0 (l.map .str) = true := by
  induction l with
  | nil => rfl
  | cons s l ih => simp [PyData.canLayAll0, PyData.canLay0, h s List.mem_cons_self, ih fun x hx => h x (List.mem_cons_of_mem _ hx)]
theorem dep_strs (l : List Str) : PyData.depthAll (l.map .str) ≤ 1 := by
  induction l with
  | nil => simp [PyData.depthAll]
  | cons s l ih => simp [PyData.depthAll, PyData.depth]; omega
theorem eq_len {l m : List Str} (hl : ∀ s ∈ l, PyData.strOk s = true) (hm : ∀ s ∈ m, PyData.strOk s = true) (h : l.length ≠ m.length) (i j : Nat) : eqD i (.lst (l.map .str)) j (.lst (m.map .str)) = some (.bl false) := by
  have q : eqP (.lst (l.map .str)) (.lst (m.map .str)) = some (PyData.eqv (.list (l.map .str)) (.list (m.map .str))) := by
    have a := dep_strs l
    have b := dep_strs m
    refine eqP_of (by simp [toPy, toPys_strs]) (by simp [toPy, toPys_strs]) (by simpa [PyData.canLay0] using lay_strs hl) (by simpa [PyData.canLay0] using lay_strs hm) ?_ ?_
    · simp only [PyData.depth]
      omega
    · simp only [PyData.depth]
      omega
  have e : PyData.eqv (.list (l.map .str)) (.list (m.map .str)) = false := by
    unfold PyData.eqv
    exact eqvAll_len (by simpa using h)
  show (eqP _ _).map D.bl = _
  rw [q, e]
  rfl
theorem same_keys_no {h g : Tb (Tb D)} (hl : h.length < 64) (gl : g.length < 64) (h1 : ∀ s ∈ names h, PyData.strOk s = true) (h2 : ∀ s ∈ names g, PyData.strOk s = true) (hne : h.length ≠ g.length) : m_same_keys [hD h, hD g] = .ok (.bl false) [] := by
  have q : eqD 0 (.lst ((sortS (names h)).map .str)) 0 (.lst ((sortS (names g)).map .str)) = some (.bl false) := eq_len (fun s hs => h1 s (sortS_mem hs)) (fun s hs => h2 s (sortS_mem hs)) (by rw [(sortS_perm _).length_eq, (sortS_perm _).length_eq]; simpa [names] using hne) _ _
  simp [m_same_keys, ap_run, g_same_keys, initE, valsOf, sorted_hD 0 hl, sorted_hD 0 gl, q, outsE]
def mf : Ex := ⟨"Misfit", [("name", .str "tables"), ("what", .str "house")]⟩
theorem check_keys_ok {base : Tb (Tb D)} {hs : List (Tb (Tb D))} (h : ∀ g ∈ hs, m_same_keys [hD base, hD g] = .ok (.bl true) []) : m_check_keys [hD base, .lst (hs.map hD)] = .ok .non [] := by
  have lp := forL_fun (fg := [2]) (tg := gN 2) (body := b_check_keys_1) hD (fun _ => [some (.val, hD base), some (.val, .lst (hs.map hD)), none]) hs fun done g rest e => by
    have sk := h g (by rw [e]; simp)
    refine ⟨[some (.val, hD base), some (.val, .lst (hs.map hD)), some (.val, hD g)], ?_, rfl⟩
    simp [b_check_keys_1, boxes, callDs, asFlat, sk]
  simp only [m_check_keys, ap_run, g_check_keys, initE, List.replicate, List.cons_append, List.nil_append, ap_for, ap_iSeq, ap_v, List.getElem?_cons_succ, List.getElem?_cons_zero, slotR_some, lv_val, bnd_ok, seqR_lst, bndS_ok]
  rw [lp]
  simp [outsE]
theorem check_keys_bad {base g : Tb (Tb D)} {hs ys : List (Tb (Tb D))} (h : ∀ g ∈ hs, m_same_keys [hD base, hD g] = .ok (.bl true) []) (hg : m_same_keys [hD base, hD g] = .ok (.bl false) []) : m_check_keys [hD base, .lst ((hs ++ g :: ys).map hD)] = .err mf [] := by
  have lp := forL_pre (fg := [2]) (tg := gN 2) (body := b_check_keys_1) hD (fun _ => [some (.val, hD base), some (.val, .lst ((hs ++ g :: ys).map hD)), none]) hs ((g :: ys).map hD) fun done g rest e => by
    have sk := h g (by rw [e]; simp)
    refine ⟨[some (.val, hD base), some (.val, .lst _), some (.val, hD g)], ?_, rfl⟩
    simp [b_check_keys_1, boxes, callDs, asFlat, sk]
  have sp : forL [2] (gN 2) b_check_keys_1 ((g :: ys).map hD) [some (.val, hD base), some (.val, .lst ((hs ++ g :: ys).map hD)), none] = .err mf [some (.val, hD base), some (.val, .lst ((hs ++ g :: ys).map hD)), some (.val, hD g)] := by
    rw [List.map_cons]
    refine forL_stop (ρ1 := [some (.val, hD base), some (.val, .lst ((hs ++ g :: ys).map hD)), some (.val, hD g)]) rfl ?_
    simp [b_check_keys_1, boxes, callDs, asFlat, hg, mf]
  rw [← List.map_append] at lp
  simp only [m_check_keys, ap_run, g_check_keys, initE, List.replicate, List.cons_append, List.nil_append, ap_for, ap_iSeq, ap_v, List.getElem?_cons_succ, List.getElem?_cons_zero, slotR_some, lv_val, bnd_ok, seqR_lst, bndS_ok]
  rw [lp, sp]
  simp [outsE]
end Gk80

namespace Gk80
open PySem PySem.Spec VL
open L2 (Key)
section
variable {base one two : Tb (Tb D)} {k : Str} {b o t : Tb D}
theorem find3 (a : At base one two k b o t) (n : Str) (s3 s4 s6 s8 s10 s11 : Slot) : nLc [9] (iSeq (eTup (aCons (eV 0) (aCons (eV 1) (aCons (eV 2) (aNil)))))) (gN 9) (bYes) (n0 (eCall [0, 0, 0] m_entry_in (xVal true (eV 9) (xVal true (eV 5) (xVal true (eV 7) (xNil))))))
    [some (.val, hD base), some (.val, hD one), some (.val, hD two), s3, s4, some (.val, .str k), s6, some (.val, .str n), s8, none, s10, s11] =
    .ok (.lst [fD (look b n), fD (look o n), fD (look t n)]) [some (.val, hD base), some (.val, hD one), some (.val, hD two), s3, s4, some (.val, .str k), s6, some (.val, .str n), s8, none, s10, s11] := by
  have a1 := entry_in_ok a.hb n
  have a2 := entry_in_ok a.ho n
  have a3 := entry_in_ok a.ht n
  rw [ap_nLc]
  simp [three_le, lcL, lcR, restoreV, boxes, callDs, asFlat, a1, a2, a3]
theorem merge_in (a : At base one two k b o t) (FS : D) (ms : List SP) (hms : ms.length < 1000) (L : List Str) (nd : L.Nodup) (hL : L.length < 10) :
    forL [7, 8, 10, 11] (gN 7) b_merge_1 (L.map .str) [some (.val, hD base), some (.val, hD one), some (.val, hD two), some (.own 2, FS), some (.own 1, .lst (ms.map pairD)), some (.val, .str k), some (.own 1, tD []), none, none, none, none, none] =
      .nx [some (.val, hD base), some (.val, hD one), some (.val, hD two), some (.own 2, FS), some (.own 1, .lst ((ms ++ metOf k b o t L).map pairD)), some (.val, .str k), some (.own 1, tD (rowOf b o t L)), none, none, none, none, none] := by
  have lp := forL_fun (fg := [7, 8, 10, 11]) (tg := gN 7) (body := b_merge_1) D.str (fun done => [some (.val, hD base), some (.val, hD one), some (.val, hD two), some (.own 2, FS), some (.own 1, .lst ((ms ++ metOf k b o t done).map pairD)), some (.val, .str k), some (.own 1, tD (rowOf b o t done)), none, none, none, none, none]) L fun done n rest e => by
    have hd : done.length < 10 := by
      have := congrArg List.length e
      simp at this
      omega
    have hn : n ∉ done := fun hm => by
      rw [e] at nd
      exact (List.nodup_append.mp nd).2.2 n hm n List.mem_cons_self rfl
    have hnr : n ∉ names (rowOf b o t done) := fun hm => hn (row_names hm)
    have hrl : (rowOf b o t done).length < 64 := by have := row_len (b := b) (o := o) (t := t) (L := done); omega
    have hml : (ms ++ metOf k b o t done).length < sizeLine := size_big (by have := met_len (k := k) (b := b) (o := o) (t := t) (L := done); simp; omega)
    have f3 := find3 a n (some (.own 2, FS)) (some (.own 1, .lst ((ms ++ metOf k b o t done).map pairD))) (some (.own 1, tD (rowOf b o t done))) none none none
    have sd := settled_ok (a.gb.oe n) (a.go.oe n) (a.gt.oe n)
    refine ⟨[some (.val, hD base), some (.val, hD one), some (.val, hD two), some (.own 2, FS), some (.own 1, .lst ((ms ++ metOf k b o t (done ++ [n])).map pairD)), some (.val, .str k), some (.own 1, tD (rowOf b o t (done ++ [n]))), some (.val, .str n), some (.val, .lst [fD (look b n), fD (look o n), fD (look t n)]), none, some (.val, .bl (st3 b o t n).1), some (.val, fD (st3 b o t n).2)], ?_, rfl⟩
    rw [ap_gN, andS_nx]
    unfold b_merge_1
    refine seq_nx (ρ' := [some (.val, hD base), some (.val, hD one), some (.val, hD two), some (.own 2, FS), some (.own 1, .lst ((ms ++ metOf k b o t done).map pairD)), some (.val, .str k), some (.own 1, tD (rowOf b o t done)), some (.val, .str n), some (.val, .lst [fD (look b n), fD (look o n), fD (look t n)]), none, none, none]) ?_ ?_
    · rw [ap_set, ap_eN]
      simp only [List.set]
      rw [f3]
      simp
    refine seq_nx (ρ' := [some (.val, hD base), some (.val, hD one), some (.val, hD two), some (.own 2, FS), some (.own 1, .lst ((ms ++ metOf k b o t done).map pairD)), some (.val, .str k), some (.own 1, tD (rowOf b o t done)), some (.val, .str n), some (.val, .lst [fD (look b n), fD (look o n), fD (look t n)]), none, some (.val, .bl (st3 b o t n).1), some (.val, fD (st3 b o t n).2)]) ?_ ?_
    · simp [boxes, callDs, asFlat, sd, st3]
    refine seq_nx (ρ' := [some (.val, hD base), some (.val, hD one), some (.val, hD two), some (.own 2, FS), some (.own 1, .lst ((ms ++ metOf k b o t (done ++ [n])).map pairD)), some (.val, .str k), some (.own 1, tD (rowOf b o t done)), some (.val, .str n), some (.val, .lst [fD (look b n), fD (look o n), fD (look t n)]), none, some (.val, .bl (st3 b o t n).1), some (.val, fD (st3 b o t n).2)]) ?_ ?_
    · rw [met_snoc]
      simp only [List.length_append, List.length_map] at hml
      cases e1 : (st3 b o t n).1 with
      | false => simp
      | true =>
        simp [sApp, plN, appC, hml, two_le]
        try simp [pairD]
    · rw [row_snoc]
      cases e2 : (st3 b o t n).2 with
      | none => simp [fD]
      | some x =>
        have pt := put_tD (t := rowOf b o t done) (n := n) (e := x) hrl
        rw [put_new hnr] at pt
        simp [fD, sPut, plN, pt]
  rw [show rowOf b o t [] = [] from rfl, show metOf k b o t [] = [] from rfl, List.append_nil] at lp
  exact lp
theorem put_tab {ρ : En} {i j : Nat} {fs : Tb (Tb D)} {k : Str} {u : Tb D} {kf : EM (Nat × D)} (hij : j ≠ i) (ei : ρ[i]? = some (some (.own 2, .dic (enc tD fs)))) (ej : ρ[j]? = some (some (.own 1, tD u))) (ek : kf (ρ.set j none) = .ok (0, .str k) (ρ.set j none)) (hk : k ∉ names fs) (hl : fs.length < 64) :
    sPut 1 (plN i) kf (nV 1 j) ρ = .nx ((ρ.set j none).set i (some (.own 2, .dic (enc tD (fs ++ [(k, u)]))))) := by
  have h1 : putC 1 (.str k) (tD u) (.dic (enc tD fs)) = some (.dic (enc tD (fs ++ [(k, u)]))) := by
    unfold putC
    simp only [keyOf_str, Option.bind_some]
    rw [if_pos ⟨by rw [len_enc]; exact size_64 hl, .inr (by rw [has_enc]; exact has_false.mpr hk)⟩, put_enc, put_new hk]
  have ei' : (ρ.set j none)[i]? = some (some (.own 2, .dic (enc tD fs))) := by rw [List.getElem?_set_ne hij]; exact ei
  unfold sPut
  rw [ap_s, ap_nV, ej, movR_own, bndS_ok]
  simp [plN, ei', ek, h1]
theorem merge_step (g : Tri base one two) {done : Tb (Tb D)} {p : Str × Tb D} {rest : Tb (Tb D)} (e : base = done ++ p :: rest) :
    b_merge_2 [some (.val, hD base), some (.val, hD one), some (.val, hD two), some (.own 2, .dic (enc tD (mgH one two done))), some (.own 1, .lst ((mtH one two done).map pairD)), some (.val, .str p.1), none, none, none, none, none, none] =
      .nx [some (.val, hD base), some (.val, hD one), some (.val, hD two), some (.own 2, .dic (enc tD (mgH one two (done ++ [p])))), some (.own 1, .lst ((mtH one two (done ++ [p])).map pairD)), some (.val, .str p.1), none, none, none, none, none, none] := by
  obtain ⟨hp, hk, hl⟩ := split_base g.gb e
  have a := g.at hp
  have hk' : p.1 ∉ names (mgH one two done) := by rw [mg_names]; exact hk
  have hkb : p.1 ∈ names base := List.mem_map.mpr ⟨p, hp, rfl⟩
  have nm := names_of_ok (hs := [base, one, two]) (k := p.1) (fun h => tab h p.1) (fun h hh => by
    simp only [List.mem_cons, List.not_mem_nil, or_false] at hh
    rcases hh with rfl | rfl | rfl
    · exact ⟨tab_of hkb, (g.gb.ts _ _ (tab_of hkb)).sub⟩
    · have q : p.1 ∈ names h := by rw [g.n1]; exact hkb
      exact ⟨tab_of q, (g.go.ts _ _ (tab_of q)).sub⟩
    · have q : p.1 ∈ names h := by rw [g.n2]; exact hkb
      exact ⟨tab_of q, (g.gt.ts _ _ (tab_of q)).sub⟩)
  have tb : tab base p.1 = p.2 := by unfold tab; rw [a.hb]; rfl
  simp only [List.map_cons, List.map_nil, tb] at nm
  have n5 : N5s (una [p.2, tab one p.1, tab two p.1]) := una_n5 fun u hu => by
    simp only [List.mem_cons, List.not_mem_nil, or_false] at hu
    rcases hu with rfl | rfl | rfl
    · exact a.gb.sub
    · exact a.go.sub
    · exact a.gt.sub
  have inn := merge_in a (.dic (enc tD (mgH one two done))) (mtH one two done) (by have := mt_len one two done; omega) (sortS (una [p.2, tab one p.1, tab two p.1])) ((sortS_perm _).nodup_iff.mpr n5.1) (by rw [(sortS_perm _).length_eq]; have := n5.few; omega)
  obtain ⟨ru, mu⟩ := row_una a.gb a.go a.gt p.1
  rw [ru, mu] at inn
  unfold b_merge_2
  refine seq_nx (ρ' := [some (.val, hD base), some (.val, hD one), some (.val, hD two), some (.own 2, .dic (enc tD (mgH one two done))), some (.own 1, .lst ((mtH one two done).map pairD)), some (.val, .str p.1), some (.own 1, tD []), none, none, none, none, none]) (by simp [tD, enc]) ?_
  refine seq_nx (ρ' := [some (.val, hD base), some (.val, hD one), some (.val, hD two), some (.own 2, .dic (enc tD (mgH one two done))), some (.own 1, .lst ((mtH one two done ++ metOf p.1 p.2 (tab one p.1) (tab two p.1) S5).map pairD)), some (.val, .str p.1), some (.own 1, tD (rowOf p.2 (tab one p.1) (tab two p.1) S5)), none, none, none, none, none]) ?_ ?_
  · rw [ap_for]
    simp only [ap_iSeq, ap_call, ap_xVal, ap_lst, ap_aCons, ap_v, List.getElem?_cons_succ, List.getElem?_cons_zero, slotR_some, lv_val, bnd_ok, ap_aNil, if_true, List.length_cons, List.length_nil, Nat.zero_add, Nat.reduceAdd, if_pos three_le, ap_xNil, true_or, boxes, callDs, asFlat]
    simp [nm, asFlat]
    simp only [List.map_append] at inn
    exact inn
  · have pt := put_tab (ρ := [some (.val, hD base), some (.val, hD one), some (.val, hD two), some (.own 2, .dic (enc tD (mgH one two done))), some (.own 1, .lst ((mtH one two done ++ metOf p.1 p.2 (tab one p.1) (tab two p.1) S5).map pairD)), some (.val, .str p.1), some (.own 1, tD (rowOf p.2 (tab one p.1) (tab two p.1) S5)), none, none, none, none, none]) (i := 3) (j := 6) (kf := eV 5) (by decide) rfl rfl rfl hk' (by simp [mgH]; omega)
    rw [pt, mg_snoc, mt_snoc]
    rfl
theorem GH.okS {h : Tb (Tb D)} {P : D → Prop} (g : GH P h) : ∀ s ∈ names h, PyData.strOk s = true := fun s hs => k3_ok s (g.sub s hs)
theorem Tri.keys (g : Tri base one two) : m_check_keys [hD base, .lst [hD one, hD two]] = .ok .non [] := by
  have hl := few3 g.gb
  refine check_keys_ok (hs := [one, two]) fun h hh => ?_
  simp only [List.mem_cons, List.not_mem_nil, or_false] at hh
  rcases hh with rfl | rfl
  · exact same_keys_ok g.n1 (by omega) g.gb.okS
  · exact same_keys_ok g.n2 (by omega) g.gb.okS
theorem merge_ok (g : Tri base one two) : m_merge [hD base, hD one, hD two] = .ok (.tup [hD (mgH one two base), .lst ((sortP (mtH one two base)).map pairD)]) [] := by
  have ck := g.keys
  have lp := forL_fun (fg := [5, 6, 7, 8, 10, 11]) (tg := gN 5) (body := b_merge_2) (fun p : Str × Tb D => D.str p.1) (fun done => [some (.val, hD base), some (.val, hD one), some (.val, hD two), some (.own 2, .dic (enc tD (mgH one two done))), some (.own 1, .lst ((mtH one two done).map pairD)), none, none, none, none, none, none, none]) base fun done p rest e => by
    refine ⟨_, (show andS (gN 5 (.str p.1) _) b_merge_2 = _ from merge_step g e), rfl⟩
  have e0 : (D.dic []) = D.dic (enc tD (mgH one two [])) := rfl
  have e1 : (D.lst []) = D.lst ((mtH one two []).map pairD) := rfl
  have hb : g_merge [some (.val, hD base), some (.val, hD one), some (.val, hD two), none, none, none, none, none, none, none, none, none] = .rt 3 (.tup [hD (mgH one two base), .lst ((sortP (mtH one two base)).map pairD)]) [some (.val, hD base), some (.val, hD one), some (.val, hD two), none, some (.own 1, .lst ((mtH one two base).map pairD)), none, none, none, none, none, none, none] := by
    unfold g_merge
    refine seq_nx (ρ' := [some (.val, hD base), some (.val, hD one), some (.val, hD two), none, none, none, none, none, none, none, none, none]) (by simp [two_le, boxes, callDs, asFlat, ck]) ?_
    refine seq_nx (ρ' := [some (.val, hD base), some (.val, hD one), some (.val, hD two), some (.own 2, .dic (enc tD (mgH one two []))), none, none, none, none, none, none, none, none]) (by rw [← e0]; simp) ?_
    refine seq_nx (ρ' := [some (.val, hD base), some (.val, hD one), some (.val, hD two), some (.own 2, .dic (enc tD (mgH one two []))), some (.own 1, .lst ((mtH one two []).map pairD)), none, none, none, none, none, none, none]) (by rw [← e1]; simp) ?_
    refine seq_nx (ρ' := [some (.val, hD base), some (.val, hD one), some (.val, hD two), some (.own 2, .dic (enc tD (mgH one two base))), some (.own 1, .lst ((mtH one two base).map pairD)), none, none, none, none, none, none, none]) ?_ ?_
    · rw [ap_for, ap_iDic]
      simp only [ap_v, List.getElem?_cons_zero, slotR_some, lv_val, bnd_ok, keysOf_hD, bndS_ok]
      exact lp
    · simp [valsOf, sortQ_map, tupR_2, hD]
  have h0 : initE [0, 0, 0] [hD base, hD one, hD two] ++ List.replicate 9 none = [some (.val, hD base), some (.val, hD one), some (.val, hD two), none, none, none, none, none, none, none, none, none] := rfl
  rw [m_merge, ap_run, h0, hb]
  simp [outsE]
end
end Gk80

namespace Gk80
open PySem PySem.Spec VL
open L2 (Key)
/-! ## what the merged house is -/
section
variable {b o t : Tb D} {L : List Str} {k n : Str}
theorem row_names_eq (L : List Str) : names (rowOf b o t L) = L.filter fun n => (st3 b o t n).2.isSome := by
  induction L with
  | nil => rfl
  | cons n L ih =>
    unfold names rowOf at ih ⊢
    rw [List.filterMap_cons, List.filter_cons]
    cases e : (st3 b o t n).2 with
    | none => simpa using ih
    | some x => simpa using ih
theorem row_nd (hL : L.Nodup) : (names (rowOf b o t L)).Nodup := by
  rw [row_names_eq]
  exact hL.sublist List.filter_sublist
theorem row_look (hL : L.Nodup) {x : D} : look (rowOf b o t L) n = some x ↔ n ∈ L ∧ (st3 b o t n).2 = some x := by
  constructor
  · intro h
    have h := look_some h
    unfold rowOf at h
    obtain ⟨m, hm, e⟩ := List.mem_filterMap.mp h
    obtain ⟨y, hy, e2⟩ := Option.map_eq_some_iff.mp e
    cases e2
    exact ⟨hm, hy⟩
  · rintro ⟨h1, h2⟩
    refine look_mem (row_nd hL) ?_
    unfold rowOf
    exact List.mem_filterMap.mpr ⟨n, h1, by rw [h2]; rfl⟩
theorem row_gt (gb : GT P3 b) (go : GT P3 o) (gt : GT P3 t) : GT P3 (rowOf b o t S5) :=
  ⟨row_nd s5_nd, fun n hn => s5_n5 n (row_names hn), fun n e h => setl_oe (gb.oe n) (go.oe n) (gt.oe n) e ((row_look s5_nd).mp h).2⟩
end
theorem self_map {t : Tb D} (nd : (names t).Nodup) : ((names t).filterMap fun n => (look t n).map fun e => (n, e)) = t := by
  have go : ∀ (r : Tb D), (∀ p ∈ r, look t p.1 = some p.2) → ((names r).filterMap fun n => (look t n).map fun e => (n, e)) = r := by
    intro r
    induction r with
    | nil => exact fun _ => rfl
    | cons p r ih =>
      intro h
      have ih := ih fun q hq => h q (List.mem_cons_of_mem _ hq)
      unfold names at ih ⊢
      rw [List.map_cons, List.filterMap_cons, h p List.mem_cons_self]
      simp only [Option.map_some]
      rw [ih]
  exact go t fun p hp => look_mem nd hp
theorem srt_self {t : Tb D} (nd : (names t).Nodup) (s : sortS (names t) = names t) : srt t = t := by
  unfold srt
  rw [s]
  exact self_map nd
theorem sort_self {l : List Str} (s : l.Pairwise (fun a b => sLe a b = true)) : sortS l = l :=
  List.Perm.eq_of_pairwise (le := fun a b => sLe a b = true) (fun a b _ _ => sLe_anti) (List.pairwise_mergeSort (le := sLe) sLe_trans sLe_total _) s (sortS_perm l)
theorem row_srt {b o t : Tb D} : srt (rowOf b o t S5) = rowOf b o t S5 := by
  refine srt_self (row_nd s5_nd) (sort_self ?_)
  rw [row_names_eq]
  exact s5_up.sublist List.filter_sublist
/-- the rows that stand, in the order of the names -/
theorem srt_s5 {t : Tb D} {P : D → Prop} (g : GT P t) : srt t = S5.filterMap fun n => (look t n).map fun e => (n, e) := by
  unfold srt
  rw [sort_s5 g.nd g.sub]
  have go : ∀ L : List Str, ((L.filter fun n => decide (n ∈ names t)).filterMap fun n => (look t n).map fun e => (n, e)) = L.filterMap fun n => (look t n).map fun e => (n, e) := by
    intro L
    induction L with
    | nil => rfl
    | cons n L ih =>
      by_cases h : n ∈ names t
      · rw [List.filter_cons_of_pos (by simpa using h), List.filterMap_cons, List.filterMap_cons, ih]
      · rw [List.filter_cons_of_neg (by simpa using h), ih, List.filterMap_cons, look_none.mpr h]
        rfl
  exact go S5
section
variable {base one two : Tb (Tb D)}
theorem mg_gh (g : Tri base one two) : GH P3 (mgH one two base) := by
  refine ⟨by rw [mg_names]; exact g.gb.nd, by rw [mg_names]; exact g.gb.sub, fun k u h => ?_⟩
  have h := look_some h
  unfold mgH at h
  obtain ⟨p, hp, e⟩ := List.mem_map.mp h
  cases e
  have a := g.at hp
  exact row_gt a.gb a.go a.gt
theorem mg_copy : copyH (mgH one two base) = mgH one two base := by
  unfold copyH mgH
  rw [List.map_map]
  apply List.map_congr_left
  intro p _
  simp only [Function.comp]
  rw [row_srt]
theorem mg_comm : mgH one two base = mgH two one base := by
  unfold mgH
  apply List.map_congr_left
  intro p _
  rw [row_comm]
theorem mt_comm : mtH one two base = mtH two one base := by
  unfold mtH
  congr 1
  funext p
  rw [met_comm]
theorem tab_map {h : Tb (Tb D)} (nd : (names base).Nodup) (e : names h = names base) : (base.map fun p => (p.1, tab h p.1)) = h := by
  have e2 : (base.map fun p => (p.1, tab h p.1)) = (names base).map fun k => (k, tab h k) := by unfold names; rw [List.map_map]; rfl
  rw [e2, ← e]
  rw [← e] at nd
  have go : ∀ r : Tb (Tb D), (∀ p ∈ r, look h p.1 = some p.2) → ((names r).map fun k => (k, tab h k)) = r := by
    intro r
    induction r with
    | nil => exact fun _ => rfl
    | cons p r ih =>
      intro q
      have ih := ih fun x hx => q x (List.mem_cons_of_mem _ hx)
      have q1 := q p List.mem_cons_self
      unfold names at ih ⊢
      rw [List.map_cons, List.map_cons, ih]
      unfold tab
      rw [q1]
      rfl
  exact go h fun p hp => look_mem nd hp
/-- where only h differs from the base, h is what comes out -/
theorem mg_only {h x y : Tb (Tb D)} (gb : GH P3 base) (gh : GH P3 h) (e : names h = names base) (hc : copyH h = h) (hs : ∀ p ∈ base, ∀ n, st3 p.2 (tab x p.1) (tab y p.1) n = (false, look (tab h p.1) n)) : mgH x y base = h ∧ mtH x y base = [] := by
  constructor
  · refine Eq.trans ?_ (tab_map gb.nd e)
    unfold mgH
    apply List.map_congr_left
    intro p hp
    have hk : p.1 ∈ names h := by rw [e]; exact List.mem_map.mpr ⟨p, hp, rfl⟩
    have gt := gh.ts _ _ (tab_of hk)
    have sr : srt (tab h p.1) = tab h p.1 := by
      have : look (copyH h) p.1 = some (srt (tab h p.1)) := by rw [look_copy, tab_of hk]; rfl
      rw [hc, tab_of hk] at this
      exact (Option.some.inj this).symm
    have : rowOf p.2 (tab x p.1) (tab y p.1) S5 = tab h p.1 := by
      rw [← sr, srt_s5 gt]
      unfold rowOf
      congr 1
      funext n
      rw [hs p hp n]
    rw [this]
  · unfold mtH
    rw [List.flatMap_eq_nil_iff]
    intro p hp
    unfold metOf
    rw [List.map_eq_nil_iff, List.filter_eq_nil_iff]
    intro n _
    rw [hs p hp n]
    exact Bool.false_ne_true
theorem tab_base (gb : GH P3 base) {p : Str × Tb D} (hp : p ∈ base) : tab base p.1 = p.2 := by
  unfold tab
  rw [look_mem gb.nd hp]
  rfl
end
end Gk80

namespace Gk80
open PySem PySem.Spec VL
open L2 (Key)
/-! ## tables, houses compared -/
theorem P3.p0 {e : D} (h : P3 e) : P0 e := by
  obtain ⟨x, rfl⟩ := h
  have := depP x
  exact ⟨eP x, toP x, layP x, by omega⟩
open Classical in
noncomputable def hitB (u : Tb D) : Tb D → Bool
  | [] => true
  | p :: r => match look u p.1 with
    | none => false
    | some e => decide (p.2 = e) && hitB u r
theorem eq3 {d e : D} (h : P3 d) (g : P3 e) : eqP d e = some (@decide (d = e) (Classical.propDecidable _)) := by
  obtain ⟨x, rfl⟩ := h
  obtain ⟨y, rfl⟩ := g
  rw [eqE]
  by_cases c : x = y
  · simp [c]
  · have : ¬ eE x = eE y := fun z => c (eE_inj z)
    simp [c, this]
theorem hits3 {u : Tb D} (gu : ∀ n x, look u n = some x → P3 x) : ∀ (r : Tb D), (∀ p ∈ r, P3 p.2) → hitsD (enc id u) (enc id r) = some (hitB u r)
  | [], _ => rfl
  | p :: r, h => by
    have ih := hits3 gu r fun q hq => h q (List.mem_cons_of_mem _ hq)
    have hp := h p List.mem_cons_self
    show hitsD (enc id u) ((.inr p.1, id p.2) :: enc id r) = _
    unfold hitsD hitB
    rw [val_id]
    cases e : look u p.1 with
    | none => rfl
    | some x =>
      dsimp only
      rw [show id p.2 = p.2 from rfl, eq3 hp (gu _ _ e), ih]
      rfl
noncomputable def eqT (t u : Tb D) : Bool := (t.length == u.length) && hitB u t
theorem eqD_tab {t u : Tb D} (gt : ∀ p ∈ t, P3 p.2) (gu : ∀ n x, look u n = some x → P3 x) (n m : Nat) : eqD n (tD t) m (tD u) = some (.bl (eqT t u)) := by
  unfold eqD tD eqT
  simp only [len_enc]
  by_cases c : t.length = u.length
  · rw [if_pos c, hits3 gu t gt]
    simp [c]
  · rw [if_neg c]
    simp [c]
theorem hitB_of {u : Tb D} : ∀ {r : Tb D}, (∀ p ∈ r, look u p.1 = some p.2) → hitB u r = true
  | [], _ => rfl
  | p :: r, h => by
    unfold hitB
    rw [h p List.mem_cons_self]
    simp [hitB_of fun q hq => h q (List.mem_cons_of_mem _ hq)]
theorem hitB_no {u : Tb D} : ∀ {r : Tb D} {p : Str × D}, p ∈ r → look u p.1 ≠ some p.2 → hitB u r = false
  | q :: r, p, hp, h => by
    unfold hitB
    rcases List.mem_cons.mp hp with rfl | hp
    · cases e : look u p.1 with
      | none => rfl
      | some x =>
        have : ¬ p.2 = x := fun z => h (by rw [e, z])
        simp [this]
    · cases e : look u q.1 with
      | none => rfl
      | some x => simp [hitB_no hp h]
theorem eqT_self {t : Tb D} (nd : (names t).Nodup) : eqT t t = true := by
  unfold eqT
  rw [hitB_of fun p hp => look_mem nd hp]
  simp
theorem eqT_put {t : Tb D} {n : Str} {x : D} (nd : (names t).Nodup) (h : look t n ≠ some x) : eqT t (put t n x) = false := by
  unfold eqT
  cases e : look t n with
  | none =>
    have hn : n ∉ names t := look_none.mp e
    rw [put_new hn]
    simp
  | some y =>
    have hm := look_some e
    have q : look (put t n x) n ≠ some y := by
      rw [look_put, if_pos rfl]
      intro z
      rw [e] at h
      exact h z.symm
    rw [hitB_no (p := (n, y)) hm q, Bool.and_false]
theorem eqT_drop {t : Tb D} {n : Str} {u : Tb D} (hu : u = dropT t n) (h : n ∈ names t) : eqT t u = false := by
  subst hu
  unfold eqT
  have : (dropT t n).length < t.length := by
    unfold dropT
    obtain ⟨x, hx⟩ := look_of_mem h
    refine List.length_filter_lt_length_iff_exists.mpr ⟨(n, x), look_some hx, by simp⟩
  have : ¬ t.length = (dropT t n).length := by omega
  simp [this]
/-- a house whose rows are data of the law -/
structure HV (h : Tb (Tb D)) : Prop where
  nd : (names h).Nodup
  few : h.length < 64
  vals : ∀ k t, look h k = some t → ∀ p ∈ t, P3 p.2
theorem GH.hv {h : Tb (Tb D)} (g : GH P3 h) : HV h := ⟨g.nd, by have := few3 g; omega, fun k t e p hp => by
  have gt := g.ts k t e
  exact gt.val p.1 p.2 (look_mem gt.nd hp)⟩
theorem vals_look {t : Tb D} (h : ∀ p ∈ t, P3 p.2) : ∀ n x, look t n = some x → P3 x := fun n x e => h (n, x) (look_some e)
theorem same_house_ok {h x : Tb (Tb D)} (gh : HV h) (gx : HV x) (e : names x = names h) (ok : ∀ s ∈ names h, PyData.strOk s = true) : m_same_house [hD h, hD x] = .ok (.bl ((names h).all fun k => eqT (tab h k) (tab x k))) [] := by
  have sk := same_keys_ok e gh.few ok
  have lc := lcL_fun (vs := [2]) (tg := gN 2) (e := n0 (eOp true eqD (eIx true (eV 0) (eV 2)) (eIx true (eV 1) (eV 2)))) D.str (fun k => .bl (eqT (tab h k) (tab x k))) [some (.val, hD h), some (.val, hD x), none] (names h) fun k hk => by
    have h1 := tab_of hk
    have h2 := tab_of (h := x) (k := k) (by rw [e]; exact hk)
    have q := eqD_tab (gh.vals _ _ h1) (vals_look (gx.vals _ _ h2)) 0 0
    refine ⟨[some (.val, hD h), some (.val, hD x), some (.val, .str k)], [some (.val, hD h), some (.val, hD x), some (.val, .str k)], rfl, ?_, rfl⟩
    simp [val_hD h1, val_hD h2, q]
  have hl : (names h).length ≤ sizeLine := by have := size_64 gh.few; simp [names]; omega
  have ab := all_bs ((names h).map fun k => eqT (tab h k) (tab x k))
  rw [List.map_map] at ab
  have hb : g_same_house [some (.val, hD h), some (.val, hD x), none] = .rt 0 (.bl ((names h).all fun k => eqT (tab h k) (tab x k))) [some (.val, hD h), some (.val, hD x), none] := by
    unfold g_same_house
    rw [ap_ret, ap_eAnd]
    simp only [ap_call, ap_xVal, ap_v, List.getElem?_cons_succ, List.getElem?_cons_zero, slotR_some, lv_val, bnd_ok, ap_xNil, true_or, if_true]
    rw [show boxes [ArgD.val 0 (hD h), ArgD.val 0 (hD x)] = [] from rfl, if_pos rfl, show callDs [0, 0] [ArgD.val 0 (hD h), ArgD.val 0 (hD x)] [some (.val, hD h), some (.val, hD x), none] = some [hD h, hD x] from rfl, callO_some, sk]
    rw [retR_ok]
    rw [if_pos (by rfl), bnd_ok]
    rw [andR_t, ap_bu, ap_xVal, ap_eN, ap_nLc]
    simp only [ap_iDic, ap_v, List.getElem?_cons_zero, slotR_some, lv_val, bnd_ok, dic_hD, forget_cons, forget_nil, List.set, lc]
    have lr : lcR [2] [some (.val, hD h), some (.val, hD x), none] (.ok ((names h).map fun k => D.bl (eqT (tab h k) (tab x k))) [some (.val, hD h), some (.val, hD x), none]) = .ok (.lst ((names h).map fun k => D.bl (eqT (tab h k) (tab x k)))) [some (.val, hD h), some (.val, hD x), none] := by
      unfold lcR
      dsimp only
      rw [if_pos (by simpa using hl)]
      rfl
    rw [lr]
    simp only [bnd_ok, ap_xNil, true_or, if_true]
    rw [show valsOf [ArgD.val 0 (D.lst ((names h).map fun k => D.bl (eqT (tab h k) (tab x k))))] = some [(0, D.lst ((names h).map fun k => D.bl (eqT (tab h k) (tab x k))))] from rfl, Option.bind_some]
    rw [show (D.bl ∘ fun k => eqT (tab h k) (tab x k)) = fun k => D.bl (eqT (tab h k) (tab x k)) from rfl] at ab
    rw [ab]
    simp [List.all_map]
  have h0 : initE [0, 0] [hD h, hD x] ++ List.replicate 1 none = [some (.val, hD h), some (.val, hD x), none] := rfl
  rw [m_same_house, ap_run, h0, hb]
  simp [outsE]
theorem same_house_no {h x : Tb (Tb D)} (sk : m_same_keys [hD h, hD x] = .ok (.bl false) []) : m_same_house [hD h, hD x] = .ok (.bl false) [] := by
  simp [m_same_house, ap_run, g_same_house, initE, boxes, callDs, asFlat, sk, outsE]
end Gk80

namespace Gk80
open PySem PySem.Spec VL
open L2 (Key)
/-! ## is_merge, conflicts, refusals -/
def POk (ps : List SP) : Prop := ∀ p ∈ ps, PyData.strOk p.1 = true ∧ PyData.strOk p.2 = true
theorem POk.cm {ps : List SP} (h : POk ps) : Cm 3 (.lst (ps.map pairD)) := Cm.lst (k := 2) fun d hd => by
  obtain ⟨p, hp, rfl⟩ := List.mem_map.mp hd
  refine Cm.tup (k := 1) fun x hx => ?_
  rcases List.mem_cons.mp hx with rfl | hx
  · exact Cm.str (h p hp).1
  · rcases List.mem_cons.mp hx with rfl | hx
    · exact Cm.str (h p hp).2
    · cases hx
theorem POk.sort {ps : List SP} (h : POk ps) : POk (sortP ps) := fun p hp => h p ((List.mergeSort_perm ps pLe).mem_iff.mp hp)
theorem sortP_nil {ps : List SP} : (sortP ps).isEmpty = ps.isEmpty := by
  have := (List.mergeSort_perm ps pLe).length_eq
  unfold sortP
  cases h : ps.mergeSort pLe with
  | nil => rw [h] at this; cases ps with
    | nil => rfl
    | cons => simp at this
  | cons a l => rw [h] at this; cases ps with
    | nil => simp at this
    | cons => rfl
theorem eq_nil {ps : List SP} (h : POk ps) (n m : Nat) : eqD n (.lst (ps.map pairD)) m (.lst []) = some (.bl ps.isEmpty) := by
  obtain ⟨p, e1, e2, e3⟩ := h.cm
  have q := eqP_of (e := .lst []) e1 (q := .list []) rfl e2 rfl (by omega) (by decide)
  show (eqP _ _).map D.bl = _
  rw [q]
  cases ps with
  | nil =>
    have : p = .list [] := by simpa [toPy, toPys] using e1.symm
    subst this
    rfl
  | cons a l =>
    simp only [List.map_cons, toPy, toPys] at e1
    cases h1 : toPy (pairD a) with
    | none => rw [h1] at e1; simp at e1
    | some x =>
      rw [h1] at e1
      cases h2 : toPys (l.map pairD) with
      | none => rw [h2] at e1; simp at e1
      | some ys =>
        rw [h2] at e1
        have : p = .list (x :: ys) := by simpa using e1.symm
        subst this
        rfl
section
variable {base one two : Tb (Tb D)}
theorem mt_ok (g : Tri base one two) : POk (mtH one two base) := fun p hp => by
  unfold mtH at hp
  obtain ⟨q, hq, h⟩ := List.mem_flatMap.mp hp
  unfold metOf at h
  obtain ⟨n, hn, rfl⟩ := List.mem_map.mp h
  have hn := (List.mem_filter.mp hn).1
  exact ⟨g.gb.okS q.1 (List.mem_map.mpr ⟨q, hq, rfl⟩), n5_ok n (s5_n5 n hn)⟩
theorem conflicts_ok (g : Tri base one two) : m_conflicts [hD base, hD one, hD two] = .ok (.lst ((sortP (mtH one two base)).map pairD)) [] := by
  have m := merge_ok g
  simp [m_conflicts, ap_run, g_conflicts, initE, boxes, callDs, asFlat, m, outsE]
/-- is_merge, when the house it judges may be compared -/
theorem is_merge_ok (g : Tri base one two) {x : Tb (Tb D)} {b : Bool} (h : (mtH one two base).isEmpty = true → m_same_house [hD (mgH one two base), hD x] = .ok (.bl b) []) : m_is_merge [hD base, hD one, hD two, hD x] = .ok (.bl ((mtH one two base).isEmpty && b)) [] := by
  have m := merge_ok g
  have q := eq_nil (mt_ok g).sort 0 0
  rw [sortP_nil] at q
  cases e : (mtH one two base).isEmpty with
  | false =>
    rw [e] at q
    simp [m_is_merge, ap_run, g_is_merge, initE, boxes, callDs, asFlat, m, q, zero_le, outsE]
  | true =>
    rw [e] at q
    have s := h e
    simp [m_is_merge, ap_run, g_is_merge, initE, boxes, callDs, asFlat, m, q, s, zero_le, outsE]
theorem merge_err {x : D} {y z : D} (ck : m_check_keys [x, .lst [y, z]] = .err mf []) : m_merge [x, y, z] = .err mf [] := by
  have hb : g_merge [some (.val, x), some (.val, y), some (.val, z), none, none, none, none, none, none, none, none, none] = .err mf [some (.val, x), some (.val, y), some (.val, z), none, none, none, none, none, none, none, none, none] := by
    unfold g_merge
    rw [ap_seq]
    simp [two_le, boxes, callDs, asFlat, ck, mf]
  have h0 : initE [0, 0, 0] [x, y, z] ++ List.replicate 9 none = [some (.val, x), some (.val, y), some (.val, z), none, none, none, none, none, none, none, none, none] := rfl
  rw [m_merge, ap_run, h0, hb]
  simp [outsE]
theorem refusal_ok {x : D} {y z : D} (ck : m_check_keys [x, .lst [y, z]] = .err mf []) : m_law_refusal [x, y, z] = .ok (.tup [.str "house", .str "tables"]) [] := by
  have m := merge_err ck
  have ef : ((asFlat [ArgD.val 0 x, ArgD.val 0 y, ArgD.val 0 z]) = true) := rfl
  simp [m_law_refusal, ap_run, g_law_refusal, initE, sTryAs, boxes, callDs, ef, m, outsE, mt_Misfit, eXf, mf, two_le, List.lookup, wn]
end
theorem isi_bl {b : Bool} {ρ : En} : isiR "bool" (.bl b) ρ = .ok (0, .bl true) ρ := by
  have : L2.kitB "bool" "bool" = some true := by decide +kernel
  simp [isiR, isScr, tyName, this]
theorem eq_bl {a b : Bool} (n m : Nat) : eqD n (.bl a) m (.bl b) = some (.bl (a == b)) := by cases a <;> cases b <;> rfl
theorem says_ok (b : Bool) : m_law_says [.bl b, .bl b] = .ok (.bl true) [] := by
  simp [m_law_says, ap_run, g_law_says, initE, ap_isi, isi_bl, eq_bl, outsE]
/-- a house with one table more -/
def wid (h : Tb (Tb D)) : Tb (Tb D) := h ++ [(("x9" : Str), ([] : Tb D))]
theorem x9_ok : PyData.strOk "x9" = true := by decide +kernel
theorem x9_no : ∀ k ∈ K3, k ≠ ("x9" : Str) := by decide +kernel
theorem wid_names (h : Tb (Tb D)) : names (wid h) = names h ++ [("x9" : Str)] := by simp [wid, names]
theorem wid_ok {h : Tb (Tb D)} {P : D → Prop} (g : GH P h) : ∀ s ∈ names (wid h), PyData.strOk s = true := fun s hs => by
  rw [wid_names] at hs
  rcases List.mem_append.mp hs with hs | hs
  · exact g.okS s hs
  · simp at hs
    subst hs
    exact x9_ok
section
variable {base one : Tb (Tb D)}
theorem wid_len {h : Tb (Tb D)} : (wid h).length = h.length + 1 := by simp [wid]
theorem len_of {h g : Tb (Tb D)} (e : names h = names g) : h.length = g.length := by
  have := congrArg List.length e
  simpa [names] using this
theorem sk_wid {h : Tb (Tb D)} (gb : GH P3 base) (gh : GH P3 h) (e : names h = names base) : m_same_keys [hD base, hD (wid h)] = .ok (.bl false) [] := by
  have := few3 gb
  have l := len_of e
  exact same_keys_no (by omega) (by rw [wid_len]; omega) gb.okS (wid_ok gh) (by rw [wid_len]; omega)
theorem sk_wid2 {h : Tb (Tb D)} (gb : GH P3 base) (gh : GH P3 h) (e : names h = names base) : m_same_keys [hD (wid h), hD base] = .ok (.bl false) [] := by
  have := few3 gb
  have l := len_of e
  exact same_keys_no (by rw [wid_len]; omega) (by omega) (wid_ok gh) gb.okS (by rw [wid_len]; omega)
end
end Gk80

namespace Gk80
open PySem PySem.Spec VL
open L2 (Key)
/-! ## houses grown -/
theorem GEs.split {P : D → Prop} : ∀ {done : List Ed} {h : Tb (Tb D)} {x : Ed} {rest : List Ed}, GEs P h (done ++ x :: rest) → GEs P h done ∧ GE P (Gk80.run h done) x
  | [], h, x, rest, f => ⟨trivial, f.1⟩
  | d :: done, h, x, rest, f => by
    obtain ⟨h1, h2⟩ := GEs.split (done := done) (h := chg h d) f.2
    exact ⟨⟨f.1, h1⟩, h2⟩
theorem grown_ok {js : List Int} (hj : Jar js) {h : Tb (Tb D)} (g : GH P1 h) (hne : h ≠ []) (p : Nat) (hp : p < 200) (many : Nat) (hm : many < 9) :
    ∃ (X : Tb (Tb D)) (p' : Nat), m_law_grown [.lst (js.map .int), .lst [.int p], hD h, .int many] = .ok (hD X) [.lst [.int p']] ∧ GH P1 X ∧ names X = names h ∧ copyH X = X ∧ p' ≤ p + 40 := by
  obtain ⟨es, p', ee, f, hp'⟩ := edits_ok hj g hne p hp many hm
  have gc := g.copy
  have gr := (f.run gc).1
  have c1 := law_copy h g.wh
  have cc := copy_copy g
  refine ⟨copyH (run (copyH h) es), p', ?_, gr.copy, by rw [names_copyH, names_run, names_copyH], copy_copy gr, hp'⟩
  have lp := forL_fun (fg := [5]) (tg := gN 5) (body := b_law_grown_1) eD (fun done => [some (.val, .lst (js.map .int)), some (.bor 1, .lst [.int p']), some (.val, hD h), some (.val, .int many), some (.own 2, hD (copyH (run (copyH h) done))), none]) es fun done x rest e => by
    rw [e] at f
    obtain ⟨f1, x1⟩ := f.split
    have af := after_shape gc f1 x1
    refine ⟨[some (.val, .lst (js.map .int)), some (.bor 1, .lst [.int p']), some (.val, hD h), some (.val, .int many), some (.own 2, hD (copyH (run (copyH h) (done ++ [x])))), some (.val, eD x)], ?_, rfl⟩
    simp [b_law_grown_1, boxes, callDs, asFlat, af, setB]
  rw [show run (copyH h) [] = copyH h from rfl, cc] at lp
  have hb : g_law_grown [some (.val, .lst (js.map .int)), some (.bor 1, .lst [.int p]), some (.val, hD h), some (.val, .int many), none, none] = .rt 2 (hD (copyH (run (copyH h) es))) [some (.val, .lst (js.map .int)), some (.bor 1, .lst [.int p']), some (.val, hD h), some (.val, .int many), none, none] := by
    unfold g_law_grown
    refine seq_nx (ρ' := [some (.val, .lst (js.map .int)), some (.bor 1, .lst [.int p]), some (.val, hD h), some (.val, .int many), some (.own 2, hD (copyH h)), none]) (by simp [boxes, callDs, asFlat, c1, setB]) ?_
    refine seq_nx (ρ' := [some (.val, .lst (js.map .int)), some (.bor 1, .lst [.int p']), some (.val, hD h), some (.val, .int many), some (.own 2, hD (copyH (run (copyH h) es))), none]) ?_ ?_
    · rw [ap_for]
      simp [boxes, callDs, asFlat, ee, setB, setD]
      exact lp
    · simp
  have h0 : initE [0, 1, 0, 0] [.lst (js.map .int), .lst [.int p], hD h, .int many] ++ List.replicate 2 none = [some (.val, .lst (js.map .int)), some (.bor 1, .lst [.int p]), some (.val, hD h), some (.val, .int many), none, none] := rfl
  rw [m_law_grown, ap_run, h0, hb]
  simp [outsE]
/-- an entry of the three houses -/
def P2 (e : D) : Prop := P1 e ∨ e = .tup [.str "same", .int 1]
theorem P2.p3 {e : D} (h : P2 e) : P3 e := by
  rcases h with (⟨i, rfl, _⟩ | ⟨i, rfl, _⟩ | rfl) | rfl
  · exact ⟨.i i, rfl⟩
  · exact ⟨.b i, rfl⟩
  · exact ⟨.w, rfl⟩
  · exact ⟨.s, rfl⟩
theorem P2.not_o {e : D} (h : P2 e) : e ≠ .tup [.str "other", .int 2] := by
  rcases h with (⟨i, rfl, _⟩ | ⟨i, rfl, _⟩ | rfl) | rfl
  · exact fun z => nomatch z
  · exact fun z => nomatch (eE_inj (x := .b i) (y := .o) z)
  · exact fun z => nomatch z
  · exact fun z => nomatch (eE_inj (x := .s) (y := .o) z)
/-- k["e"] = ("same", 1) in both -/
theorem e_last : ∀ n ∈ N5, sLe n "e" = true := by decide +kernel
theorem e_n5 : ("e" : Str) ∈ N5 := by decide +kernel
theorem names_put_eq {t : Tb D} {n : Str} {e : D} : names (put t n e) = if n ∈ names t then names t else names t ++ [n] := by
  unfold put
  by_cases h : n ∈ names t
  · rw [if_pos (by rw [has_iff]; exact h), if_pos h]
    unfold names
    rw [List.map_map]
    apply List.map_congr_left
    intro p _
    simp only [Function.comp]
    split <;> rfl
  · rw [if_neg (by rw [has_iff]; exact h), if_neg h]
    simp [names]
theorem srt_put_e {t : Tb D} {P : D → Prop} (g : GT P t) (hs : srt t = t) (e : D) : srt (put t "e" e) = put t "e" e := by
  refine srt_self (names_put_nd g.nd) (sort_self ?_)
  have hp : (names t).Pairwise (fun a b => sLe a b = true) := by
    have : names t = sortS (names t) := by rw [← names_srt g.nd, hs]
    rw [this]
    exact List.pairwise_mergeSort (le := sLe) sLe_trans sLe_total _
  rw [names_put_eq]
  split
  · exact hp
  · refine List.pairwise_append.mpr ⟨hp, by simp, fun a ha b hb => ?_⟩
    simp at hb
    subst hb
    exact e_last a (g.sub a ha)
theorem row_self {h : Tb (Tb D)} (hc : copyH h = h) {k : Str} {t : Tb D} (ht : look h k = some t) : srt t = t := by
  have : look (copyH h) k = some (srt t) := by rw [look_copy, ht]; rfl
  rw [hc, ht] at this
  exact (Option.some.inj this).symm
def same1 : D := .tup [.str "same", .int 1]
theorem GH.pute {X : Tb (Tb D)} (g : GH P2 X) (hc : copyH X = X) {k : Str} {t : Tb D} (ht : look X k = some t) : GH P2 (modT X k (put t "e" same1)) ∧ copyH (modT X k (put t "e" same1)) = modT X k (put t "e" same1) ∧ names (modT X k (put t "e" same1)) = names X := by
  have hk : k ∈ names X := List.mem_map.mpr ⟨_, look_some ht, rfl⟩
  have x : GE P2 X (.put k "e" same1) := ⟨hk, e_n5, fun _ _ _ q => (by cases q; exact .inr rfl), fun _ _ q => (nomatch q)⟩
  have c := x.chg g
  rw [chg_put ht] at c
  refine ⟨c, ?_, names_mod⟩
  rw [copy_mod, hc, srt_put_e (g.ts _ _ ht) (row_self hc ht)]
theorem put_deep {ρ : En} {i : Nat} {X : Tb (Tb D)} {k n : Str} {t : Tb D} {e : D} {kk kf : EM (Nat × D)} {f : EM D} (ei : ρ[i]? = some (some (.own 2, hD X))) (ek : kk ρ = .ok (0, .str k) ρ) (en : kf ρ = .ok (0, .str n) ρ) (ef : f ρ = .ok e ρ) (ht : look X k = some t) (hl : t.length < 64) :
    sPut 0 (plK (plN i) kk) kf f ρ = .nx (ρ.set i (some (.own 2, hD (modT X k (put t n e))))) := by
  have h1 := val_hD ht
  have h2 := put_tD (n := n) (e := e) hl
  unfold hD at ei ⊢
  unfold sPut
  rw [ap_s, ef, bndS_ok]
  simp [plK, plN, ei, ek, en, childC, h1, h2, setC, mod_hD]
theorem put_told {ρ : En} {i : Nat} {X : Tb (Tb D)} {l : D} {k n : Str} {t : Tb D} {e : D} {kk kf : EM (Nat × D)} {f : EM D} (ei : ρ[i]? = some (some (.own 3, .tup [hD X, l]))) (ek : kk ρ = .ok (0, .str k) ρ) (en : kf ρ = .ok (0, .str n) ρ) (ef : f ρ = .ok e ρ) (ht : look X k = some t) (hl : t.length < 64) :
    sPut 0 (plK (plK (plN i) (eC (.int 0))) kk) kf f ρ = .nx (ρ.set i (some (.own 3, .tup [hD (modT X k (put t n e)), l]))) := by
  have h1 := val_hD ht
  have h2 := put_tD (n := n) (e := e) hl
  unfold hD at ei ⊢
  unfold sPut
  rw [ap_s, ef, bndS_ok]
  simp [plK, plN, ei, ek, en, childC, h1, h2, setC, mod_hD]
theorem pop_deep {ρ : En} {i : Nat} {X : Tb (Tb D)} {k n : Str} {t : Tb D} {kk kf : EM (Nat × D)} (ei : ρ[i]? = some (some (.own 2, hD X))) (ek : kk ρ = .ok (0, .str k) ρ) (en : kf ρ = .ok (0, .str n) ρ) (ht : look X k = some t) (hn : n ∈ names t) :
    sPopD (plK (plN i) kk) kf ρ = .nx (ρ.set i (some (.own 2, hD (modT X k (dropT t n))))) := by
  obtain ⟨x, hx⟩ := look_of_mem hn
  have h1 := val_hD ht
  have h2 := del_tD hx
  unfold hD at ei ⊢
  simp [sPopD, sDel, plK, plN, ei, ek, en, childC, h1, h2, setC, mod_hD]
theorem len_put {α : Type} {t : Tb α} {n : Str} {e : α} : (put t n e).length ≤ t.length + 1 := by
  unfold put
  split <;> simp
/-- the tables' names, and how long they may be -/
def Lw (n : Nat) (ks : List Str) (l : Tb (Tb D)) : Prop := names l = ks ∧ ∀ k t, look l k = some t → t.length ≤ n
theorem Lw.put {n : Nat} {ks : List Str} {l : Tb (Tb D)} {k a : Str} {t : Tb D} {e : D} (w : Lw n ks l) (ht : look l k = some t) : Lw (n + 1) ks (modT l k (VL.put t a e)) := by
  refine ⟨by rw [names_mod]; exact w.1, fun k' u hu => ?_⟩
  by_cases q : k' = k
  · subst q
    rw [look_mod ht] at hu
    cases hu
    have h1 := w.2 _ _ ht
    have h2 := len_put (t := t) (n := a) (e := e)
    omega
  · rw [look_mod_ne q] at hu
    have := w.2 _ _ hu
    omega
theorem GH.lw {P : D → Prop} {h : Tb (Tb D)} (g : GH P h) : Lw 5 (names h) h := ⟨rfl, fun k t e => (g.ts k t e).few⟩
theorem n5_sh : ∀ s ∈ N5, Sh 7 (reprText s) := fun s hs => by
  have : ∀ s ∈ N5, PyData.strOk (reprText s) = true ∧ (reprText s).length ≤ 7 := by decide +kernel
  exact this s hs
theorem k3_sh : ∀ s ∈ K3, Sh 7 (reprText s) := fun s hs => by
  have : ∀ s ∈ K3, PyData.strOk (reprText s) = true ∧ (reprText s).length ≤ 7 := by decide +kernel
  exact this s hs
theorem b_sh : Sh 7 (reprText "b") := ⟨by decide +kernel, by decide +kernel⟩
theorem word_sh : Sh 7 (reprText "word") := ⟨by decide +kernel, by decide +kernel⟩
theorem P1.rp {q : Bool} {e : D} (h : P1 e) : Rp q 21 1 e := by
  rcases h with ⟨i, rfl, h0, h1⟩ | ⟨i, rfl, h0, h1⟩ | rfl
  · exact (Rp.int h0 h1).mono (by decide) (by decide)
  · exact Rp.tup (n := 7) (k := 0) (ds := [.str "b", .int i]) fun d hd => by
      rcases List.mem_cons.mp hd with rfl | hd
      · exact Rp.str b_sh
      · rcases List.mem_cons.mp hd with rfl | hd
        · exact (Rp.int h0 h1).mono (by decide) (by decide)
        · cases hd
  · exact (Rp.str word_sh).mono (by decide) (by decide)
theorem same_sh : Sh 7 (reprText "same") := ⟨by decide +kernel, by decide +kernel⟩
theorem P2.rp {q : Bool} {e : D} (h : P2 e) : Rp q 21 1 e := by
  rcases h with h | rfl
  · exact h.rp
  · exact Rp.tup (n := 7) (k := 0) (ds := [.str "same", .int 1]) fun d hd => by
      rcases List.mem_cons.mp hd with rfl | hd
      · exact Rp.str same_sh
      · rcases List.mem_cons.mp hd with rfl | hd
        · exact (Rp.int (by decide) (by decide)).mono (by decide) (by decide)
        · cases hd
theorem tab_rp {t : Tb D} (g : GT P2 t) : Rp false 200 2 (tD t) := by
  have hf := g.few
  refine (Rp.dic (f := id) (m := 7) (n := 21) (k := 1) (l := t) fun p hp => ⟨n5_sh _ (g.sub _ (List.mem_map.mpr ⟨p, hp, rfl⟩)), ?_⟩).mono (by omega) (by decide)
  exact (g.val p.1 p.2 (look_mem g.nd hp)).rp
theorem house_rp {h : Tb (Tb D)} (g : GH P2 h) : Rp false 1000 3 (hD h) := by
  have hf : h.length ≤ 3 := by
    have := few_of g.nd g.sub
    simpa [names, K3] using this
  refine (Rp.dic (f := tD) (m := 7) (n := 200) (k := 2) (l := h) fun p hp => ⟨k3_sh _ (g.sub _ (List.mem_map.mpr ⟨p, hp, rfl⟩)), ?_⟩).mono (by omega) (by decide)
  exact tab_rp (g.ts p.1 p.2 (look_mem g.nd hp))
theorem before_ok {a b c : Tb (Tb D)} (ga : GH P2 a) (gb : GH P2 b) (gc : GH P2 c) : ∃ s : Str, (∀ i, reprD [(i, .tup [hD a, hD b, hD c])] = some (.str s)) ∧ PyData.strOk s = true := by
  obtain ⟨s, e, h⟩ := (Rp.tup (q := false) (n := 1000) (k := 3) (ds := [hD a, hD b, hD c]) fun d hd => by
    simp only [List.mem_cons, List.not_mem_nil, or_false] at hd
    rcases hd with rfl | rfl | rfl
    · exact house_rp ga
    · exact house_rp gb
    · exact house_rp gc).repr rfl (by simp) (by decide) 0
  exact ⟨s, fun i => e, h.1⟩
end Gk80

namespace Gk80
open PySem PySem.Spec VL
open L2 (Key)
/-! ## the law's loops -/
theorem eqG_dic {n : Nat} {ks : List (Key × D)} (nd : (ks.map (·.1)).Nodup) (h : ∀ p ∈ ks, eqG n p.2 p.2 = true) : eqG (n + 1) (.dic ks) (.dic ks) = true := by
  have z : ∀ l : List (Key × D), (∀ p ∈ l, eqG n p.2 p.2 = true) → ((l.zip l).all fun p => decide (p.1.1 = p.2.1) && eqG n p.1.2 p.2.2) = true := by
    intro l
    induction l with
    | nil => exact fun _ => rfl
    | cons p l ih =>
      intro q
      rw [List.zip_cons_cons, List.all_cons, ih fun x hx => q x (List.mem_cons_of_mem _ hx), q p List.mem_cons_self]
      simp
  show (decide (ks.map (·.1)).Nodup && ((ks.length == ks.length) && (ks.zip ks).all fun p => decide (p.1.1 = p.2.1) && eqG n p.1.2 p.2.2)) = true
  rw [z ks h]
  simp [nd]
theorem enc_nd {α : Type} {f : α → D} {l : Tb α} (h : (names l).Nodup) : ((enc f l).map (·.1)).Nodup := by
  have e : (enc f l).map (·.1) = (names l).map Sum.inr := by unfold enc names; rw [List.map_map, List.map_map]; rfl
  rw [e]
  exact List.pairwise_map.mpr (h.imp fun {a b} hab z => hab (Sum.inr.inj z))
theorem eqG_E (n : Nat) (x : Et) : eqG (n + 1) (eE x) (eE x) = true := by
  have q := eqE x x
  cases x <;> (show ((eqP _ _ == some true) = true); rw [show eqP _ _ = _ from q]; simp)
theorem eqG_hD {h : Tb (Tb D)} (g : GH P3 h) : eqG 4 (hD h) (hD h) = true := by
  refine eqG_dic (enc_nd g.nd) fun p hp => ?_
  unfold enc at hp
  obtain ⟨q, hq, rfl⟩ := List.mem_map.mp hp
  have gt := g.ts _ _ (look_mem g.nd hq)
  refine eqG_dic (enc_nd gt.nd) fun r hr => ?_
  unfold enc at hr
  obtain ⟨e, he, rfl⟩ := List.mem_map.mp hr
  obtain ⟨x, hx⟩ := gt.val e.1 e.2 (look_mem gt.nd he)
  show eqG 2 e.2 e.2 = true
  rw [hx]
  exact eqG_E 1 x
theorem eqG_nil : eqG 4 (.lst []) (.lst []) = true := by
  have q : eqP (.lst []) (.lst []) = some true := (Cm.lst (k := 1) (ds := []) fun _ z => nomatch z).eqP (by decide)
  show ((eqP _ _ == some true) = true)
  rw [q]
  rfl
theorem eqGs_2 {h : Tb (Tb D)} (g : GH P3 h) : eqGs 4 [hD h, .lst []] [hD h, .lst []] = true := by
  simp [eqGs, eqG_hD g, eqG_nil]
theorem HV.mod {h : Tb (Tb D)} (v : HV h) {k : Str} {t u : Tb D} (ht : look h k = some t) (hu : ∀ p ∈ u, P3 p.2) : HV (modT h k u) := by
  refine ⟨by rw [names_mod]; exact v.nd, by rw [len_of (names_mod (l := h) (k := k) (t := u))]; exact v.few, fun k' t' e => ?_⟩
  by_cases q : k' = k
  · subst q
    rw [look_mod ht] at e
    cases e
    exact hu
  · rw [look_mod_ne q] at e
    exact v.vals _ _ e
theorem mem_put {t : Tb D} {n : Str} {x : D} {p : Str × D} (h : p ∈ put t n x) : p.2 = x ∨ p ∈ t := by
  unfold put at h
  split at h
  · obtain ⟨q, hq, rfl⟩ := List.mem_map.mp h
    split
    · exact .inl rfl
    · exact .inr hq
  · rcases List.mem_append.mp h with h | h
    · exact .inr h
    · simp at h
      subst h
      exact .inl rfl
theorem mem_drop {t : Tb D} {n : Str} {p : Str × D} (h : p ∈ dropT t n) : p ∈ t := (List.mem_filter.mp h).1
def oth : D := .tup [.str "other", .int 2]
theorem oth_p3 : P3 oth := ⟨.o, rfl⟩
theorem eqT_gone {t u : Tb D} {n : Str} (h : n ∈ names t) (hu : look u n = none) : eqT t u = false := by
  obtain ⟨x, hx⟩ := look_of_mem h
  unfold eqT
  rw [hitB_no (p := (n, x)) (look_some hx) (by rw [hu]; exact fun z => nomatch z), Bool.and_false]
section
variable {base one two : Tb (Tb D)}
/-- no other house is a merge -/
theorem not_merge (g : Tri base one two) {k : Str} {u : Tb D} (hk : k ∈ names base) (hu : ∀ p ∈ u, P3 p.2) (hne : eqT (tab (mgH one two base) k) u = false) :
    m_is_merge [hD base, hD one, hD two, hD (modT (mgH one two base) k u)] = .ok (.bl false) [] := by
  have gd := mg_gh g
  have hkd : k ∈ names (mgH one two base) := by rw [mg_names]; exact hk
  have ht := tab_of hkd
  have sh := same_house_ok gd.hv (gd.hv.mod ht hu) names_mod gd.okS
  have al : ((names (mgH one two base)).all fun j => eqT (tab (mgH one two base) j) (tab (modT (mgH one two base) k u) j)) = false := by
    rw [List.all_eq_false]
    refine ⟨k, hkd, ?_⟩
    have e : tab (modT (mgH one two base) k u) k = u := by
      unfold tab
      rw [look_mod ht]
      rfl
    rw [e, hne]
    exact Bool.false_ne_true
  rw [al] at sh
  have im := is_merge_ok g (x := modT (mgH one two base) k u) (b := false) fun _ => sh
  rw [Bool.and_false] at im
  exact im
theorem is_due (g : Tri base one two) : m_is_merge [hD base, hD one, hD two, hD (mgH one two base)] = .ok (.bl (mtH one two base).isEmpty) [] := by
  have gd := mg_gh g
  have sh := same_house_ok gd.hv gd.hv rfl gd.okS
  have al : ((names (mgH one two base)).all fun j => eqT (tab (mgH one two base) j) (tab (mgH one two base) j)) = true := by
    rw [List.all_eq_true]
    intro k hk
    exact eqT_self (gd.ts _ _ (tab_of hk)).nd
  rw [al] at sh
  have im := is_merge_ok g (x := mgH one two base) (b := true) fun _ => sh
  rw [Bool.and_true] at im
  exact im
theorem Tri.swap (g : Tri base one two) : Tri base two one := ⟨g.gb, g.gt, g.go, g.n2, g.n1⟩
theorem only_ok (gb : GH P3 base) {h x y : Tb (Tb D)} (gh : GH P3 h) (e : names h = names base) (hc : copyH h = h) (tr : Tri base x y) (hs : ∀ p ∈ base, ∀ n, st3 p.2 (tab x p.1) (tab y p.1) n = (false, look (tab h p.1) n)) : m_merge [hD base, hD x, hD y] = .ok (.tup [hD h, .lst []]) [] := by
  have m := merge_ok tr
  obtain ⟨h1, h2⟩ := mg_only gb gh e hc hs
  rw [h1, h2, show sortP [] = [] by simp [sortP]] at m
  exact m
theorem only_step (gb : GH P3 base) {h : Tb (Tb D)} (gh : GH P3 h) (e : names h = names base) (hc : copyH h = h) (a0 a1 a2 a4 a5 a6 a7 a8 a9 a10 a12 a13 a14 : Slot) :
    b_law_1 [a0, a1, a2, some (.val, hD base), a4, a5, a6, a7, a8, a9, a10, some (.val, hD h), a12, a13, a14] = .nx [a0, a1, a2, some (.val, hD base), a4, a5, a6, a7, a8, a9, a10, some (.val, hD h), a12, a13, a14] := by
  have m1 := only_ok gb gh e hc (x := base) (y := h) ⟨gb, gb, gh, rfl, e⟩ fun p hp n => by
    rw [tab_base gb hp]
    exact setl_bb _ _
  have m2 := only_ok gb gh e hc (x := h) (y := base) ⟨gb, gh, gb, e, rfl⟩ fun p hp n => by
    rw [tab_base gb hp]
    exact setl_hb _ _
  have m3 := only_ok gb gh e hc (x := h) (y := h) ⟨gb, gh, gh, e, e⟩ fun p hp n => setl_hh _ _
  have q := neG_ok (eqGs_2 gh)
  simp [b_law_1, boxes, callDs, asFlat, m1, m2, m3, q, zero_le, two_le]
theorem two_in {n : Str} (h : n ∈ (["a", "e"] : List Str)) : n = "a" ∨ n = "e" := by simpa using h
theorem bent_step (g : Tri base one two) (hP : ∀ k n x, look (tab (mgH one two base) k) n = some x → x ≠ oth) {k n : Str} (hk : k ∈ names base) (a0 a1 a2 a7 a9 a10 a11 a14 : Slot) :
    ∃ ρ2, b_law_2 [a0, a1, a2, some (.val, hD base), some (.val, hD one), some (.val, hD two), some (.val, .str k), a7, some (.val, hD (mgH one two base)), a9, a10, a11, some (.val, .str n), none, a14] = .nx ρ2 ∧
      forget [12, 13] ρ2 = [a0, a1, a2, some (.val, hD base), some (.val, hD one), some (.val, hD two), some (.val, .str k), a7, some (.val, hD (mgH one two base)), a9, a10, a11, none, none, a14] := by
  have gd := mg_gh g
  have hkd : k ∈ names (mgH one two base) := by rw [mg_names]; exact hk
  have ht := tab_of hkd
  obtain ⟨M, hM⟩ : ∃ M, M = mgH one two base := ⟨_, rfl⟩
  obtain ⟨t, et⟩ : ∃ t, t = tab M k := ⟨_, rfl⟩
  have c := law_copy M (by rw [hM]; exact gd.wh)
  rw [show copyH M = M by rw [hM]; exact mg_copy] at c
  have htM : look M k = some t := by rw [et, hM]; exact ht
  have gt : GT P3 t := by rw [et, hM]; exact gd.ts _ _ ht
  have fw := gt.few
  have vt : ∀ p ∈ t, P3 p.2 := fun p hp => gt.val p.1 p.2 (look_mem gt.nd hp)
  have vp : ∀ p ∈ put t n oth, P3 p.2 := fun p hp => by
    rcases mem_put hp with e | hp
    · rw [e]; exact oth_p3
    · exact vt p hp
  have n1 := not_merge g hk vp (by rw [← hM, ← et]; exact eqT_put gt.nd fun z => hP k n oth (by rw [← hM, ← et]; exact z) rfl)
  rw [← hM] at n1 ⊢
  have st1 : ∀ X, sPut 0 (plK (plN 13) (eV 6)) (eV 12) (n0 (eTup (aCons (eC (.str "other")) (aCons (eC (.int 2)) (aNil))))) [a0, a1, a2, some (.val, hD base), some (.val, hD one), some (.val, hD two), some (.val, .str k), a7, X, a9, a10, a11, some (.val, .str n), some (.own 2, hD M), a14] = .nx [a0, a1, a2, some (.val, hD base), some (.val, hD one), some (.val, hD two), some (.val, .str k), a7, X, a9, a10, a11, some (.val, .str n), some (.own 2, hD (modT M k (put t n oth))), a14] := fun X =>
    put_deep (i := 13) (ρ := [a0, a1, a2, some (.val, hD base), some (.val, hD one), some (.val, hD two), some (.val, .str k), a7, X, a9, a10, a11, some (.val, .str n), some (.own 2, hD M), a14]) rfl rfl rfl (by simp [two_le, oth]) htM (by omega)
  have lp1 : look (modT M k (put t n oth)) k = some (put t n oth) := look_mod htM
  by_cases hn : n ∈ names t
  · have vd : ∀ p ∈ dropT (put t n oth) n, P3 p.2 := fun p hp => vp p (mem_drop hp)
    have n2 := not_merge g hk vd (by rw [← hM, ← et]; exact eqT_gone hn (by rw [look_drop, if_pos rfl]))
    rw [← hM] at n2
    have hnp : n ∈ names (put t n oth) := by
      have : look (put t n oth) n = some oth := by rw [look_put, if_pos rfl]
      exact List.mem_map.mpr ⟨_, look_some this, rfl⟩
    have st2 := pop_deep (i := 13) (kk := eV 6) (kf := eV 12) (ρ := [a0, a1, a2, some (.val, hD base), some (.val, hD one), some (.val, hD two), some (.val, .str k), a7, some (.val, hD M), a9, a10, a11, some (.val, .str n), some (.own 2, hD (modT M k (put t n oth))), a14]) rfl rfl rfl lp1 hnp
    rw [mod_mod] at st2
    refine ⟨[a0, a1, a2, some (.val, hD base), some (.val, hD one), some (.val, hD two), some (.val, .str k), a7, some (.val, hD M), a9, a10, a11, some (.val, .str n), some (.own 2, hD (modT M k (dropT (put t n oth) n))), a14], ?_, rfl⟩
    unfold b_law_2
    refine seq_nx (ρ' := [a0, a1, a2, some (.val, hD base), some (.val, hD one), some (.val, hD two), some (.val, .str k), a7, some (.val, hD M), a9, a10, a11, some (.val, .str n), some (.own 2, hD M), a14]) (by simp [boxes, callDs, asFlat, c, setB]) ?_
    refine seq_nx (st1 _) ?_
    refine seq_nx (ρ' := [a0, a1, a2, some (.val, hD base), some (.val, hD one), some (.val, hD two), some (.val, .str k), a7, some (.val, hD M), a9, a10, a11, some (.val, .str n), some (.own 2, hD (modT M k (put t n oth))), a14]) (by simp [boxes, callDs, asFlat, n1, notB]) ?_
    rw [ap_if]
    simp [val_hD htM, has_iff.mpr hn]
    rw [st2]
    simp [boxes, callDs, asFlat, n2, notB]
  · refine ⟨[a0, a1, a2, some (.val, hD base), some (.val, hD one), some (.val, hD two), some (.val, .str k), a7, some (.val, hD M), a9, a10, a11, some (.val, .str n), some (.own 2, hD (modT M k (put t n oth))), a14], ?_, rfl⟩
    unfold b_law_2
    refine seq_nx (ρ' := [a0, a1, a2, some (.val, hD base), some (.val, hD one), some (.val, hD two), some (.val, .str k), a7, some (.val, hD M), a9, a10, a11, some (.val, .str n), some (.own 2, hD M), a14]) (by simp [boxes, callDs, asFlat, c, setB]) ?_
    refine seq_nx (st1 _) ?_
    refine seq_nx (ρ' := [a0, a1, a2, some (.val, hD base), some (.val, hD one), some (.val, hD two), some (.val, .str k), a7, some (.val, hD M), a9, a10, a11, some (.val, .str n), some (.own 2, hD (modT M k (put t n oth))), a14]) (by simp [boxes, callDs, asFlat, n1, notB]) ?_
    rw [ap_if]
    simp [val_hD htM, has_false.mpr hn]
theorem bent_loop (g : Tri base one two) (hP : ∀ k n x, look (tab (mgH one two base) k) n = some x → x ≠ oth) (a0 a1 a2 a6 a7 a9 a10 a11 a14 : Slot) :
    ∃ a6', forL [12, 13] (gN 6) b_law_3 ((names base).map .str) [a0, a1, a2, some (.val, hD base), some (.val, hD one), some (.val, hD two), a6, a7, some (.val, hD (mgH one two base)), a9, a10, a11, none, none, a14] = .nx [a0, a1, a2, some (.val, hD base), some (.val, hD one), some (.val, hD two), a6', a7, some (.val, hD (mgH one two base)), a9, a10, a11, none, none, a14] := by
  obtain ⟨ρ', e, a6', e2⟩ := forL_ok (fg := [12, 13]) (tg := gN 6) (body := b_law_3) (fun _ ρ => ∃ a6 : Slot, ρ = [a0, a1, a2, some (.val, hD base), some (.val, hD one), some (.val, hD two), a6, a7, some (.val, hD (mgH one two base)), a9, a10, a11, none, none, a14]) ((names base).map .str) 0 _ ⟨a6, rfl⟩ (fun i d ρ ed hP' => by
      obtain ⟨a6, rfl⟩ := hP'
      rw [List.getElem?_map] at ed
      obtain ⟨k, en, rfl⟩ := Option.map_eq_some_iff.mp ed
      have hk : k ∈ names base := List.mem_of_getElem? en
      have inn := forL_fun (fg := [12, 13]) (tg := gN 12) (body := b_law_2) D.str (fun _ => [a0, a1, a2, some (.val, hD base), some (.val, hD one), some (.val, hD two), some (.val, .str k), a7, some (.val, hD (mgH one two base)), a9, a10, a11, none, none, a14]) ["a", "e"] fun done n rest e => by
        obtain ⟨ρ2, h1, h2⟩ := bent_step g hP (k := k) (n := n) hk a0 a1 a2 a7 a9 a10 a11 a14
        exact ⟨ρ2, (show andS (gN 12 (.str n) _) b_law_2 = _ from h1), h2⟩
      refine ⟨[a0, a1, a2, some (.val, hD base), some (.val, hD one), some (.val, hD two), some (.val, .str k), a7, some (.val, hD (mgH one two base)), a9, a10, a11, none, none, a14], ?_, some (.val, .str k), rfl⟩
      rw [ap_gN, andS_nx]
      unfold b_law_3
      rw [ap_for]
      simp only [ap_iSeq, ap_lst, ap_aCons, ap_c, ap_aNil, bnd_ok, if_true, List.length_cons, List.length_nil, Nat.zero_add, Nat.reduceAdd, if_pos two_le, seqR_lst, bndS_ok, List.set]
      exact inn)
  exact ⟨a6', by rw [e, e2]⟩
theorem told_loop {M : Tb (Tb D)} {P : D → Prop} (gb : GH P3 base) (gm : GH P M) (en : names M = names base) (l : D) (a0 a1 a2 a4 a5 a6 a7 a8 a9 a11 a12 a13 a14 : Slot) :
    ∃ a6' M', forL [] (gN 6) b_law_4 ((names base).map .str) [a0, a1, a2, some (.val, hD base), a4, a5, a6, a7, a8, a9, some (.own 3, .tup [hD M, l]), a11, a12, a13, a14] = .nx [a0, a1, a2, some (.val, hD base), a4, a5, a6', a7, a8, a9, some (.own 3, .tup [hD M', l]), a11, a12, a13, a14] := by
  obtain ⟨ρ', e, a6', M', e2, _⟩ := forL_ok (fg := []) (tg := gN 6) (body := b_law_4) (fun i ρ => ∃ (a6 : Slot) (M : Tb (Tb D)), ρ = [a0, a1, a2, some (.val, hD base), a4, a5, a6, a7, a8, a9, some (.own 3, .tup [hD M, l]), a11, a12, a13, a14] ∧ Lw (5 + i) (names base) M) ((names base).map .str) 0 _ ⟨a6, M, rfl, by rw [← en]; exact gm.lw⟩ (fun i d ρ ed hP' => by
      rw [Nat.zero_add] at hP' ⊢
      obtain ⟨a6, M, rfl, w⟩ := hP'
      rw [List.getElem?_map] at ed
      obtain ⟨k, ek, rfl⟩ := Option.map_eq_some_iff.mp ed
      have hk : k ∈ names base := List.mem_of_getElem? ek
      have hi : i < 3 := by
        have h1 := (List.getElem?_eq_some_iff.mp ek).1
        have h2 := few_of gb.nd gb.sub
        simp [K3] at h2
        omega
      obtain ⟨t, ht⟩ := look_of_mem (show k ∈ names M by rw [w.1]; exact hk)
      have lt := w.2 _ _ ht
      have st := put_told (i := 10) (n := "x7") (e := .int 7) (kk := eV 6) (kf := eC (.str "x7")) (f := n0 (eC (.int 7))) (ρ := [a0, a1, a2, some (.val, hD base), a4, a5, some (.val, .str k), a7, a8, a9, some (.own 3, .tup [hD M, l]), a11, a12, a13, a14]) rfl rfl rfl rfl ht (by omega)
      exact ⟨_, (show andS (gN 6 (.str k) _) b_law_4 = _ from st), some (.val, .str k), modT M k (put t "x7" (.int 7)), rfl, w.put ht⟩)
  exact ⟨a6', M', by rw [e, e2]⟩
end
end Gk80

namespace Gk80
open PySem PySem.Spec VL
open L2 (Key)
/-! ## the law -/
theorem setl_in (b o t : Option D) : (setl b o t).2 = b ∨ (setl b o t).2 = o ∨ (setl b o t).2 = t := by
  unfold setl
  split
  · exact .inr (.inl rfl)
  · split
    · exact .inr (.inr rfl)
    · exact .inl rfl
theorem GT.up {P Q : D → Prop} {t : Tb D} (g : GT P t) (h : ∀ e, P e → Q e) : GT Q t := g.mono h
theorem mg_p2 {base one two : Tb (Tb D)} (gb : GH P2 base) (go : GH P2 one) (gt : GH P2 two) (n1 : names one = names base) (n2 : names two = names base) : ∀ k n x, look (tab (mgH one two base) k) n = some x → P2 x := fun k n x h => by
  unfold tab at h
  cases e : look (mgH one two base) k with
  | none => rw [e] at h; simp [look] at h
  | some u =>
    rw [e, Option.getD_some] at h
    have h1 := look_some e
    unfold mgH at h1
    obtain ⟨p, hp, e2⟩ := List.mem_map.mp h1
    cases e2
    obtain ⟨_, h2⟩ := (row_look s5_nd).mp h
    have hk : p.1 ∈ names base := List.mem_map.mpr ⟨p, hp, rfl⟩
    have v1 := (gb.ts _ _ (look_mem gb.nd hp)).val n x
    have v2 := (go.ts _ _ (tab_of (h := one) (k := p.1) (by rw [n1]; exact hk))).val n x
    have v3 := (gt.ts _ _ (tab_of (h := two) (k := p.1) (by rw [n2]; exact hk))).val n x
    unfold st3 at h2
    rcases setl_in (look p.2 n) (look (tab one p.1) n) (look (tab two p.1) n) with q | q | q
    · exact v1 (q ▸ h2)
    · exact v2 (q ▸ h2)
    · exact v3 (q ▸ h2)
theorem same_at {h : Tb (Tb D)} (g : GH P3 h) (hc : copyH h = h) : m_law_same [hD h, hD h] = .ok (.bl true) [] := law_same_ok (g.mono fun _ z => z.p0) hc
theorem ok_house : PyData.strOk "house" = true := by decide +kernel
theorem ok_tables : PyData.strOk "tables" = true := by decide +kernel
theorem ne_ht (n m : Nat) : neD n (.tup [.str "house", .str "tables"]) m (.tup [.str "house", .str "tables"]) = some (.bl false) := (Cm.tup (k := 1) fun d hd => by
  rcases List.mem_cons.mp hd with rfl | hd
  · exact Cm.str ok_house
  · rcases List.mem_cons.mp hd with rfl | hd
    · exact Cm.str ok_tables
    · cases hd).ne (by decide) _ _
def t7 : SM := sSet 7 (eBu reprD (xVal true (eTup (aCons (eV 3) (aCons (eF 4) (aCons (eF 5) (aNil))))) (xNil)))
def t8 : SM := sUnp [8, 9] (eCall [0, 0, 0] m_law_merge (xVal false (eV 3) (xVal false (eF 4) (xVal true (eF 5) (xNil)))))
def t9 : SM := sOwn 3 10 (nCall [0, 0, 0] m_merge (xVal false (eV 3) (xVal false (eF 4) (xVal true (eF 5) (xNil)))))
def t10 : SM := sIf (bScope [10] (bOr (bNot (eB (eIsi "tuple" (eV 10)))) (bOr (eB (eOp true neD (eBu lenD (xVal true (eV 10) (xNil))) (eC (.int 2)))) (bOr (bNot (eB (eCall [0, 0] m_law_same (xVal true (eIx true (eV 10) (eC (.int 0))) (xVal true (eV 8) (xNil)))))) (bOr (eB (eOp true neD (eIx true (eV 10) (eC (.int 1))) (eV 9))) (bNot (eB (eIsi "list" (eIx true (eV 10) (eC (.int 1))))))))))) (sRet (eC (.bl false))) (sNx)
def t11 : SM := sIf (bOr (eB (eOp true neD (eCall [0, 0, 0] m_conflicts (xVal false (eV 3) (xVal false (eF 4) (xVal true (eF 5) (xNil))))) (eV 9))) (bOr (eB (eOp true neD (eCall [0, 0, 0] m_conflicts (xVal false (eV 3) (xVal false (eF 5) (xVal true (eF 4) (xNil))))) (eV 9))) (bNot (eB (eCall [0, 0] m_law_same (xVal true (eIx true (eCall [0, 0, 0] m_merge (xVal false (eV 3) (xVal false (eF 5) (xVal true (eF 4) (xNil))))) (eC (.int 0))) (xVal true (eV 8) (xNil)))))))) (sRet (eC (.bl false))) (sNx)
def t12 : SM := sFor [11] (iSeq (eLst (aCons (eF 4) (aCons (eF 5) (aNil))))) (gN 11) (b_law_1)
def t13 : SM := sIf (bNot (eB (eCall [0, 0] m_law_says (xVal true (eCall [0, 0, 0, 0] m_is_merge (xVal true (eV 3) (xVal true (eV 4) (xVal true (eV 5) (xVal true (eCall [0] m_law_copy (xVal true (eV 8) (xNil))) (xNil)))))) (xVal true (eOp true eqD (eV 9) (eLst (aNil))) (xNil)))))) (sRet (eC (.bl false))) (sNx)
def t14 : SM := sFor [12, 13] (iDic (eV 3)) (gN 6) (b_law_3)
def t15 : SM := sOwn 2 14 (nCall [0] m_law_copy (xVal true (eF 4) (xNil)))
def t16 : SM := sPut 1 (plN 14) (eC (.str "x9")) (nDic0)
def t17 : SM := sIf (bOr (eB (eOp true neD (eCall [0, 0, 0] m_law_refusal (xVal false (eV 3) (xVal false (eF 14) (xVal true (eF 5) (xNil))))) (eTup (aCons (eC (.str "house")) (aCons (eC (.str "tables")) (aNil)))))) (eB (eOp true neD (eCall [0, 0, 0] m_law_refusal (xVal false (eV 3) (xVal false (eF 5) (xVal true (eF 14) (xNil))))) (eTup (aCons (eC (.str "house")) (aCons (eC (.str "tables")) (aNil))))))) (sRet (eC (.bl false))) (sNx)
def t18 : SM := sIf (bOr (eB (eOp true neD (eCall [0, 0, 0] m_law_refusal (xVal false (eF 14) (xVal false (eF 4) (xVal true (eF 5) (xNil))))) (eTup (aCons (eC (.str "house")) (aCons (eC (.str "tables")) (aNil)))))) (eB (eOp true (dIsB true) (eCall [0, 0, 0, 0] m_is_merge (xVal true (eV 3) (xVal true (eV 4) (xVal true (eV 5) (xVal true (eV 14) (xNil)))))) (eC (.bl false))))) (sRet (eC (.bl false))) (sNx)
def t19 : SM := sFor [] (iDic (eV 3)) (gN 6) (b_law_4)
def t20 : SM := sRet (eAnd (eOp true eqD (eBu reprD (xVal true (eTup (aCons (eV 3) (aCons (eF 4) (aCons (eF 5) (aNil))))) (xNil))) (eV 7)) (eCall [0, 0] m_law_same (xVal true (eIx true (eCall [0, 0, 0] m_merge (xVal false (eV 3) (xVal false (eF 4) (xVal true (eF 5) (xNil))))) (eC (.int 0))) (xVal true (eV 8) (xNil)))))
def tail : SM := sSeq (t7) (sSeq (t8) (sSeq (t9) (sSeq (t10) (sSeq (t11) (sSeq (t12) (sSeq (t13) (sSeq (t14) (sSeq (t15) (sSeq (t16) (sSeq (t17) (sSeq (t18) (sSeq (t19) (t20)))))))))))))
theorem tail_ok {base X Y : Tb (Tb D)} (gb : GH P2 base) (gx : GH P2 X) (gy : GH P2 Y) (nx : names X = names base) (ny : names Y = names base) (cx : copyH X = X) (cy : copyH Y = Y) (a0 a1 a2 a6 : Slot) :
    ∃ ρ', tail [a0, a1, a2, some (.val, hD base), some (.own 2, hD X), some (.own 2, hD Y), a6, none, none, none, none, none, none, none, none] = .rt 0 (.bl true) ρ' ∧ ∀ i, i < 3 → ρ'[i]? = [a0, a1, a2, some (.val, hD base), some (.own 2, hD X), some (.own 2, hD Y), a6, none, none, none, none, none, none, none, none][i]? := by
  have b3 := gb.mono fun _ z => z.p3
  have x3 := gx.mono fun _ z => z.p3
  have y3 := gy.mono fun _ z => z.p3
  have g : Tri base X Y := ⟨b3, x3, y3, nx, ny⟩
  have gd := mg_gh g
  have im := is_due g
  have hP : ∀ k n x, look (tab (mgH X Y base) k) n = some x → x ≠ oth := fun k n x h => (mg_p2 gb gx gy nx ny k n x h).not_o
  obtain ⟨s, rp, sok⟩ := before_ok gb gx gy
  obtain ⟨b6, bl⟩ := bent_loop g hP a0 a1 a2 a6 (some (.val, .str s)) (some (.val, .lst ((sortP (mtH X Y base)).map pairD))) (some (.own 3, .tup [hD (mgH X Y base), .lst ((sortP (mtH X Y base)).map pairD)])) none none
  have l1 := law_merge_ok g
  have m1 := merge_ok g
  have m2 := merge_ok g.swap
  have f1 := conflicts_ok g
  have f2 := conflicts_ok g.swap
  rw [← mg_comm, ← mt_comm] at m2
  rw [← mt_comm] at f2
  have sm := same_at gd mg_copy
  have nm : neD 0 (.lst ((sortP (mtH X Y base)).map pairD)) 0 (.lst ((sortP (mtH X Y base)).map pairD)) = some (.bl false) := (mt_ok g).sort.cm.ne (by decide) _ _
  have en := eq_nil (mt_ok g).sort 0 0
  rw [sortP_nil] at en
  have cm := law_copy _ gd.wh
  rw [mg_copy] at cm
  have cX := law_copy X x3.wh
  rw [cx] at cX
  have w1 : m_is_merge [hD base, hD X, hD Y, hD (wid X)] = .ok (.bl false) [] := by
    have := is_merge_ok g (x := wid X) (b := false) fun _ => same_house_no (sk_wid gd x3 (by rw [mg_names]; exact nx))
    rwa [Bool.and_false] at this
  have sY : m_same_keys [hD base, hD Y] = .ok (.bl true) [] := same_keys_ok ny (by have := few3 b3; omega) b3.okS
  have r1 := refusal_ok (check_keys_bad (base := base) (g := wid X) (hs := []) (ys := [Y]) (fun _ z => nomatch z) (sk_wid b3 x3 nx))
  have r2 := refusal_ok (check_keys_bad (base := base) (g := wid X) (hs := [Y]) (ys := []) (fun h hh => by rw [List.mem_singleton.mp hh]; exact sY) (sk_wid b3 x3 nx))
  have r3 := refusal_ok (check_keys_bad (base := wid X) (g := X) (hs := []) (ys := [Y]) (fun _ z => nomatch z) (sk_wid2 x3 x3 rfl))
  have nht := ne_ht 0 0
  have nM : names (mgH X Y base) = names base := mg_names _ _ _
  obtain ⟨c6, N, tl⟩ := told_loop (M := mgH X Y base) b3 gd nM (.lst ((sortP (mtH X Y base)).map pairD)) a0 a1 a2 (some (.val, hD X)) (some (.val, hD Y)) b6 (some (.val, .str s)) (some (.val, hD (mgH X Y base))) (some (.val, .lst ((sortP (mtH X Y base)).map pairD))) none none none (some (.val, hD (wid X)))
  have es : eqD 0 (.str s) 0 (.str s) = some (.bl true) := by rw [eq_str sok sok]; simp
  have o1 := fun a7 a8 a9 a10 => only_step b3 x3 nx cx a0 a1 a2 (some (.val, hD X)) (some (.val, hD Y)) a6 a7 a8 a9 a10 none none none
  have o2 := fun a7 a8 a9 a10 => only_step b3 y3 ny cy a0 a1 a2 (some (.val, hD X)) (some (.val, hD Y)) a6 a7 a8 a9 a10 none none none
  have hx9 : ("x9" : Str) ∉ names X := fun z => x9_no _ (x3.sub _ z) rfl
  have fx := few3 x3
  generalize hM : mgH X Y base = M at *
  generalize hmp : (sortP (mtH X Y base)).map pairD = mp at *
  generalize (mtH X Y base).isEmpty = ie at *
  clear hP hM hmp
  refine ⟨[a0, a1, a2, some (.val, hD base), some (.val, hD X), some (.val, hD Y), c6, some (.val, .str s), some (.val, hD M), some (.val, .lst mp), some (.own 3, .tup [hD N, .lst mp]), none, none, none, some (.val, hD (wid X))], ?_, fun i hi => ?_⟩
  rotate_left
  · have : i = 0 ∨ i = 1 ∨ i = 2 := by omega
    rcases this with rfl | rfl | rfl <;> rfl
  unfold tail
  refine seq_nx (a := t7) (ρ' := [a0, a1, a2, some (.val, hD base), some (.val, hD X), some (.val, hD Y), a6, some (.val, .str s), none, none, none, none, none, none, none]) ?_ ?_
  · unfold t7
    simp [three_le, valsOf, rp]
  refine seq_nx (a := t8) (ρ' := [a0, a1, a2, some (.val, hD base), some (.val, hD X), some (.val, hD Y), a6, some (.val, .str s), some (.val, hD M), some (.val, .lst mp), none, none, none, none, none]) ?_ ?_
  · unfold t8
    simp [boxes, callDs, asFlat, l1]
  refine seq_nx (a := t9) (ρ' := [a0, a1, a2, some (.val, hD base), some (.val, hD X), some (.val, hD Y), a6, some (.val, .str s), some (.val, hD M), some (.val, .lst mp), some (.own 3, .tup [hD M, .lst mp]), none, none, none, none]) ?_ ?_
  · unfold t9
    simp [boxes, callDs, asFlat, m1, setB]
  refine seq_nx (a := t10) (ρ' := [a0, a1, a2, some (.val, hD base), some (.val, hD X), some (.val, hD Y), a6, some (.val, .str s), some (.val, hD M), some (.val, .lst mp), some (.own 3, .tup [hD M, .lst mp]), none, none, none, none]) ?_ ?_
  · unfold t10
    rw [ap_if, ap_bScope, show toVal [10] [a0, a1, a2, some (.val, hD base), some (.val, hD X), some (.val, hD Y), a6, some (.val, .str s), some (.val, hD M), some (.val, .lst mp), some (.own 3, .tup [hD M, .lst mp]), none, none, none, none] = [a0, a1, a2, some (.val, hD base), some (.val, hD X), some (.val, hD Y), a6, some (.val, .str s), some (.val, hD M), some (.val, .lst mp), some (.val, .tup [hD M, .lst mp]), none, none, none, none] from rfl]
    simp [ap_isi, isi_tup, isi_lst, valsOf, lenD, boxes, callDs, asFlat, sm, nm, scbR_ok]
  refine seq_nx (a := t11) (ρ' := [a0, a1, a2, some (.val, hD base), some (.val, hD X), some (.val, hD Y), a6, some (.val, .str s), some (.val, hD M), some (.val, .lst mp), some (.own 3, .tup [hD M, .lst mp]), none, none, none, none]) ?_ ?_
  · unfold t11
    simp [boxes, callDs, asFlat, f1, f2, nm, m2, sm]
  refine seq_nx (a := t12) (ρ' := [a0, a1, a2, some (.val, hD base), some (.val, hD X), some (.val, hD Y), a6, some (.val, .str s), some (.val, hD M), some (.val, .lst mp), some (.own 3, .tup [hD M, .lst mp]), none, none, none, none]) ?_ ?_
  · unfold t12
    have lp := forL_fun (fg := [11]) (tg := gN 11) (body := b_law_1) hD (fun _ => [a0, a1, a2, some (.val, hD base), some (.val, hD X), some (.val, hD Y), a6, some (.val, .str s), some (.val, hD M), some (.val, .lst mp), some (.own 3, .tup [hD M, .lst mp]), none, none, none, none]) [X, Y] fun done h rest e => by
      have hm : h = X ∨ h = Y := by
        have : h ∈ [X, Y] := by rw [e]; simp
        simpa using this
      rcases hm with rfl | rfl
      · exact ⟨_, (show andS (gN 11 (hD h) _) b_law_1 = _ from o1 _ _ _ _), rfl⟩
      · exact ⟨_, (show andS (gN 11 (hD h) _) b_law_1 = _ from o2 _ _ _ _), rfl⟩
    rw [ap_for]
    simp only [ap_iSeq, ap_lst, ap_aCons, ap_f, List.getElem?_cons_succ, List.getElem?_cons_zero, frzR_val, ap_aNil, bnd_ok, if_true, List.length_cons, List.length_nil, Nat.zero_add, Nat.reduceAdd, if_pos two_le, seqR_lst, bndS_ok]
    exact lp
  refine seq_nx (a := t13) (ρ' := [a0, a1, a2, some (.val, hD base), some (.val, hD X), some (.val, hD Y), a6, some (.val, .str s), some (.val, hD M), some (.val, .lst mp), some (.own 3, .tup [hD M, .lst mp]), none, none, none, none]) ?_ ?_
  · unfold t13
    have sy := says_ok ie
    simp [boxes, callDs, asFlat, cm, im, en, zero_le, sy]
  refine seq_nx (a := t14) (ρ' := [a0, a1, a2, some (.val, hD base), some (.val, hD X), some (.val, hD Y), b6, some (.val, .str s), some (.val, hD M), some (.val, .lst mp), some (.own 3, .tup [hD M, .lst mp]), none, none, none, none]) ?_ ?_
  · unfold t14
    rw [ap_for, ap_iDic]
    simp only [ap_v, List.getElem?_cons_succ, List.getElem?_cons_zero, slotR_some, lv_val, bnd_ok, dic_hD, bndS_ok]
    exact bl
  refine seq_nx (a := t15) (ρ' := [a0, a1, a2, some (.val, hD base), some (.val, hD X), some (.val, hD Y), b6, some (.val, .str s), some (.val, hD M), some (.val, .lst mp), some (.own 3, .tup [hD M, .lst mp]), none, none, none, some (.own 2, hD X)]) ?_ ?_
  · unfold t15
    simp [boxes, callDs, asFlat, cX, setB]
  refine seq_nx (a := t16) (ρ' := [a0, a1, a2, some (.val, hD base), some (.val, hD X), some (.val, hD Y), b6, some (.val, .str s), some (.val, hD M), some (.val, .lst mp), some (.own 3, .tup [hD M, .lst mp]), none, none, none, some (.own 2, hD (wid X))]) ?_ ?_
  · unfold t16
    exact put_row (i := 14) (ρ := [a0, a1, a2, some (.val, hD base), some (.val, hD X), some (.val, hD Y), b6, some (.val, .str s), some (.val, hD M), some (.val, .lst mp), some (.own 3, .tup [hD M, .lst mp]), none, none, none, some (.own 2, hD X)]) (fs := X) (k := "x9") (kf := eC (.str "x9")) rfl rfl hx9 (by omega)
  refine seq_nx (a := t17) (ρ' := [a0, a1, a2, some (.val, hD base), some (.val, hD X), some (.val, hD Y), b6, some (.val, .str s), some (.val, hD M), some (.val, .lst mp), some (.own 3, .tup [hD M, .lst mp]), none, none, none, some (.val, hD (wid X))]) ?_ ?_
  · unfold t17
    simp [boxes, callDs, asFlat, r1, r2, nht, two_le]
  refine seq_nx (a := t18) (ρ' := [a0, a1, a2, some (.val, hD base), some (.val, hD X), some (.val, hD Y), b6, some (.val, .str s), some (.val, hD M), some (.val, .lst mp), some (.own 3, .tup [hD M, .lst mp]), none, none, none, some (.val, hD (wid X))]) ?_ ?_
  · unfold t18
    simp [boxes, callDs, asFlat, r3, nht, two_le, w1, notB]
  refine seq_nx (a := t19) (ρ' := [a0, a1, a2, some (.val, hD base), some (.val, hD X), some (.val, hD Y), c6, some (.val, .str s), some (.val, hD M), some (.val, .lst mp), some (.own 3, .tup [hD N, .lst mp]), none, none, none, some (.val, hD (wid X))]) ?_ ?_
  · unfold t19
    rw [ap_for, ap_iDic]
    simp only [ap_v, List.getElem?_cons_succ, List.getElem?_cons_zero, slotR_some, lv_val, bnd_ok, dic_hD, bndS_ok]
    exact tl
  unfold t20
  simp [three_le, valsOf, rp, es, boxes, callDs, asFlat, m1, sm]
theorem g_law_eq : g_law = sSeq (sSet 1 (eCall [0] m_law_jar (xVal true (eV 0) (xNil)))) (sSeq (sOwn 1 2 (nLst (aCons (eC (.int 0)) (aNil)))) (sSeq (sSet 3 (eCallB [0, 1] m_law_house (xVal true (eV 1) (xBox 2 (xNil))))) (sSeq (sOwn 2 4 (nCall [0, 1, 0, 0] m_law_grown (xVal false (eV 1) (xBox 2 (xVal false (eV 3) (xVal true (eCallB [0, 1, 0] m_law_draw (xVal true (eV 1) (xBox 2 (xVal true (eC (.int 7)) (xNil))))) (xNil))))))) (sSeq (sOwn 2 5 (nCall [0, 1, 0, 0] m_law_grown (xVal false (eV 1) (xBox 2 (xVal false (eV 3) (xVal true (eCallB [0, 1, 0] m_law_draw (xVal true (eV 1) (xBox 2 (xVal true (eC (.int 7)) (xNil))))) (xNil))))))) (sSeq (sIf (eB (eOp true eqD (eCallB [0, 1, 0] m_law_draw (xVal true (eV 1) (xBox 2 (xVal true (eC (.int 3)) (xNil))))) (eC (.int 1)))) (sSeq (sSet 6 (eIx true (eN (nBu listD (xVal true (eV 3) (xNil)))) (eC (.int 0)))) (sSeq (sPut 0 (plK (plN 4) (eV 6)) (eC (.str "e")) (n0 (eTup (aCons (eC (.str "same")) (aCons (eC (.int 1)) (aNil)))))) (sPut 0 (plK (plN 5) (eV 6)) (eC (.str "e")) (n0 (eTup (aCons (eC (.str "same")) (aCons (eC (.int 1)) (aNil)))))))) (sNx)) (tail)))))) := rfl
theorem yes (ns : List Int) (hns : ns.length ≤ 63) : m_law [.sset (ns.map Sum.inl)] = .ok (.bl true) [] := by
  obtain ⟨js, hj, ej⟩ := jar_ok ns
  obtain ⟨h, p, eh, g, hne, hp⟩ := house_ok hj
  obtain ⟨r, p1, er, r0, r1, hp1⟩ := drawJ hj p (by omega) 7 (by decide)
  obtain ⟨m1, hm1⟩ : ∃ m : Nat, r = (m : Int) := ⟨r.toNat, by omega⟩
  subst hm1
  obtain ⟨X, p2, eX, gX, nX, cX, hp2⟩ := grown_ok hj g hne p1 (by omega) m1 (by omega)
  obtain ⟨r', p3, er', r0', r1', hp3⟩ := drawJ hj p2 (by omega) 7 (by decide)
  obtain ⟨m2, hm2⟩ : ∃ m : Nat, r' = (m : Int) := ⟨r'.toNat, by omega⟩
  subst hm2
  obtain ⟨Y, p4, eY, gY, nY, cY, hp4⟩ := grown_ok hj g hne p3 (by omega) m2 (by omega)
  obtain ⟨q, p5, eq, q0, q1, hp5⟩ := drawJ hj p4 (by omega) 3 (by decide)
  have gb : GH P2 h := g.mono fun _ z => .inl z
  have gx : GH P2 X := gX.mono fun _ z => .inl z
  have gy : GH P2 Y := gY.mono fun _ z => .inl z
  -- the entry that both may get
  have mid : ∃ (X' Y' : Tb (Tb D)) (a6 : Slot), (sIf (eB (eOp true eqD (eCallB [0, 1, 0] m_law_draw (xVal true (eV 1) (xBox 2 (xVal true (eC (.int 3)) (xNil))))) (eC (.int 1)))) (sSeq (sSet 6 (eIx true (eN (nBu listD (xVal true (eV 3) (xNil)))) (eC (.int 0)))) (sSeq (sPut 0 (plK (plN 4) (eV 6)) (eC (.str "e")) (n0 (eTup (aCons (eC (.str "same")) (aCons (eC (.int 1)) (aNil)))))) (sPut 0 (plK (plN 5) (eV 6)) (eC (.str "e")) (n0 (eTup (aCons (eC (.str "same")) (aCons (eC (.int 1)) (aNil)))))))) (sNx)) [some (.val, .sset (ns.map Sum.inl)), some (.val, .lst (js.map .int)), some (.own 1, .lst [.int p4]), some (.val, hD h), some (.own 2, hD X), some (.own 2, hD Y), none, none, none, none, none, none, none, none, none] = .nx [some (.val, .sset (ns.map Sum.inl)), some (.val, .lst (js.map .int)), some (.own 1, .lst [.int p5]), some (.val, hD h), some (.own 2, hD X'), some (.own 2, hD Y'), a6, none, none, none, none, none, none, none, none] ∧ GH P2 X' ∧ GH P2 Y' ∧ names X' = names h ∧ names Y' = names h ∧ copyH X' = X' ∧ copyH Y' = Y' := by
    by_cases c : q = 1
    · subst c
      obtain ⟨k, ks, hk⟩ : ∃ k ks, names h = k :: ks := by
        cases h with
        | nil => exact absurd rfl hne
        | cons a b => exact ⟨_, _, rfl⟩
      have hkh : k ∈ names h := by rw [hk]; simp
      have hx := tab_of (h := X) (k := k) (by rw [nX]; exact hkh)
      have hy := tab_of (h := Y) (k := k) (by rw [nY]; exact hkh)
      obtain ⟨x1, x2, x3⟩ := gx.pute cX hx
      obtain ⟨y1, y2, y3⟩ := gy.pute cY hy
      have fx := (gx.ts _ _ hx).few
      have fy := (gy.ts _ _ hy).few
      refine ⟨_, _, some (.val, .str k), ?_, x1, y1, x3.trans nX, y3.trans nY, x2, y2⟩
      have lh : ∀ n : Nat, listD [(n, hD h)] = some (.str k :: ks.map .str) := fun n => by rw [list_hD, hk]; rfl
      rw [ap_if]
      simp [boxes, callDs, asFlat, eq, setB, setD, valsOf, lh]
      rw [put_deep (i := 4) (n := "e") (e := same1) (kk := eV 6) (kf := eC (.str "e")) (f := n0 (eTup (aCons (eC (.str "same")) (aCons (eC (.int 1)) (aNil))))) (ρ := [some (.val, .sset (ns.map Sum.inl)), some (.val, .lst (js.map .int)), some (.own 1, .lst [.int p5]), some (.val, hD h), some (.own 2, hD X), some (.own 2, hD Y), some (.val, .str k), none, none, none, none, none, none, none, none]) rfl rfl rfl (by simp [two_le, same1]) hx (by omega)]
      exact put_deep (i := 5) (n := "e") (e := same1) (kk := eV 6) (kf := eC (.str "e")) (f := n0 (eTup (aCons (eC (.str "same")) (aCons (eC (.int 1)) (aNil))))) (ρ := [some (.val, .sset (ns.map Sum.inl)), some (.val, .lst (js.map .int)), some (.own 1, .lst [.int p5]), some (.val, hD h), some (.own 2, hD (modT X k (put (tab X k) "e" same1))), some (.own 2, hD Y), some (.val, .str k), none, none, none, none, none, none, none, none]) rfl rfl rfl (by simp [two_le, same1]) hy (by omega)
    · refine ⟨X, Y, none, ?_, gx, gy, nX, nY, cX, cY⟩
      simp [boxes, callDs, asFlat, eq, setB, setD, c]
  obtain ⟨X', Y', a6, em, gx', gy', nx', ny', cx', cy'⟩ := mid
  obtain ⟨ρ', et, ei⟩ := tail_ok gb gx' gy' nx' ny' cx' cy' (some (.val, .sset (ns.map Sum.inl))) (some (.val, .lst (js.map .int))) (some (.own 1, .lst [.int p5])) a6
  have hb : g_law [some (.val, .sset (ns.map Sum.inl)), none, none, none, none, none, none, none, none, none, none, none, none, none, none] = .rt 0 (.bl true) ρ' := by
    rw [g_law_eq]
    refine seq_nx (ρ' := [some (.val, .sset (ns.map Sum.inl)), some (.val, .lst (js.map .int)), none, none, none, none, none, none, none, none, none, none, none, none, none]) (by simp [boxes, callDs, asFlat, ej]) ?_
    refine seq_nx (ρ' := [some (.val, .sset (ns.map Sum.inl)), some (.val, .lst (js.map .int)), some (.own 1, .lst [.int 0]), none, none, none, none, none, none, none, none, none, none, none, none]) (by simp [one_le]) ?_
    refine seq_nx (ρ' := [some (.val, .sset (ns.map Sum.inl)), some (.val, .lst (js.map .int)), some (.own 1, .lst [.int p]), some (.val, hD h), none, none, none, none, none, none, none, none, none, none, none]) (by simp [boxes, callDs, asFlat, eh, setB, setD]) ?_
    refine seq_nx (ρ' := [some (.val, .sset (ns.map Sum.inl)), some (.val, .lst (js.map .int)), some (.own 1, .lst [.int p2]), some (.val, hD h), some (.own 2, hD X), none, none, none, none, none, none, none, none, none, none]) (by simp [boxes, callDs, asFlat, er, eX, setB, setD]) ?_
    refine seq_nx (ρ' := [some (.val, .sset (ns.map Sum.inl)), some (.val, .lst (js.map .int)), some (.own 1, .lst [.int p4]), some (.val, hD h), some (.own 2, hD X), some (.own 2, hD Y), none, none, none, none, none, none, none, none, none]) (by simp [boxes, callDs, asFlat, er', eY, setB, setD]) ?_
    exact seq_nx em et
  have h0 : initE [0] [.sset (ns.map Sum.inl)] ++ List.replicate 14 none = [some (.val, .sset (ns.map Sum.inl)), none, none, none, none, none, none, none, none, none, none, none, none, none, none] := rfl
  rw [m_law, ap_run, h0, hb, finR_rt, if_pos rfl]
  obtain ⟨x, xs, rfl⟩ : ∃ x xs, ρ' = x :: xs := by
    cases ρ' with
    | nil => have := ei 0 (by decide); simp at this
    | cons x xs => exact ⟨x, xs, rfl⟩
  rfl
end Gk80


namespace Gk80
open PySem PySem.Spec PyProof.Rows L2 VL
theorem all_mk {P : Program} {w : World} {K : PySem.W.Frag} {h : Heap} {mg : Str → Option Value} {fa : Addr} (X : K.In h) (G : h.Ns mainGlobals mg) (hfa : mg "law" = some (.ref fa))
    {f_law_jar : Addr} {od_law_jar an_law_jar : Option Addr} {sl_law_jar : Array (Option Value)} {oc_law_jar kV_law_jar dc_law_jar pm_law_jar cd_law_jar ct_law_jar : Value}
    {f_law_draw : Addr} {od_law_draw an_law_draw : Option Addr} {sl_law_draw : Array (Option Value)} {oc_law_draw kV_law_draw dc_law_draw pm_law_draw cd_law_draw ct_law_draw : Value}
    {f_law_entry : Addr} {od_law_entry an_law_entry : Option Addr} {sl_law_entry : Array (Option Value)} {oc_law_entry kV_law_entry dc_law_entry pm_law_entry cd_law_entry ct_law_entry : Value}
    {f_law_house : Addr} {od_law_house an_law_house : Option Addr} {sl_law_house : Array (Option Value)} {oc_law_house kV_law_house dc_law_house pm_law_house cd_law_house ct_law_house : Value}
    {f_law_copy : Addr} {od_law_copy an_law_copy : Option Addr} {sl_law_copy : Array (Option Value)} {oc_law_copy kV_law_copy dc_law_copy pm_law_copy cd_law_copy ct_law_copy : Value}
    {f_law_after : Addr} {od_law_after an_law_after : Option Addr} {sl_law_after : Array (Option Value)} {oc_law_after kV_law_after dc_law_after pm_law_after cd_law_after ct_law_after : Value}
    {f_law_edits : Addr} {od_law_edits an_law_edits : Option Addr} {sl_law_edits : Array (Option Value)} {oc_law_edits kV_law_edits dc_law_edits pm_law_edits cd_law_edits ct_law_edits : Value}
    {f_law_grown : Addr} {od_law_grown an_law_grown : Option Addr} {sl_law_grown : Array (Option Value)} {oc_law_grown kV_law_grown dc_law_grown pm_law_grown cd_law_grown ct_law_grown : Value}
    {f_law_entry_at : Addr} {od_law_entry_at an_law_entry_at : Option Addr} {sl_law_entry_at : Array (Option Value)} {oc_law_entry_at kV_law_entry_at dc_law_entry_at pm_law_entry_at cd_law_entry_at ct_law_entry_at : Value}
    {f_law_merge : Addr} {od_law_merge an_law_merge : Option Addr} {sl_law_merge : Array (Option Value)} {oc_law_merge kV_law_merge dc_law_merge pm_law_merge cd_law_merge ct_law_merge : Value}
    {f_same_keys : Addr} {od_same_keys an_same_keys : Option Addr} {sl_same_keys : Array (Option Value)} {oc_same_keys kV_same_keys dc_same_keys pm_same_keys cd_same_keys ct_same_keys : Value}
    {f_check_keys : Addr} {od_check_keys an_check_keys : Option Addr} {sl_check_keys : Array (Option Value)} {oc_check_keys kV_check_keys dc_check_keys pm_check_keys cd_check_keys ct_check_keys : Value}
    {f_names_of : Addr} {od_names_of an_names_of : Option Addr} {sl_names_of : Array (Option Value)} {oc_names_of kV_names_of dc_names_of pm_names_of cd_names_of ct_names_of : Value}
    {f_check_key : Addr} {od_check_key an_check_key : Option Addr} {sl_check_key : Array (Option Value)} {oc_check_key kV_check_key dc_check_key pm_check_key cd_check_key ct_check_key : Value}
    {f_entry_in : Addr} {od_entry_in an_entry_in : Option Addr} {sl_entry_in : Array (Option Value)} {oc_entry_in kV_entry_in dc_entry_in pm_entry_in cd_entry_in ct_entry_in : Value}
    {f_settled : Addr} {od_settled an_settled : Option Addr} {sl_settled : Array (Option Value)} {oc_settled kV_settled dc_settled pm_settled cd_settled ct_settled : Value}
    {f_merge : Addr} {od_merge an_merge : Option Addr} {sl_merge : Array (Option Value)} {oc_merge kV_merge dc_merge pm_merge cd_merge ct_merge : Value}
    {f_law_same : Addr} {od_law_same an_law_same : Option Addr} {sl_law_same : Array (Option Value)} {oc_law_same kV_law_same dc_law_same pm_law_same cd_law_same ct_law_same : Value}
    {f_conflicts : Addr} {od_conflicts an_conflicts : Option Addr} {sl_conflicts : Array (Option Value)} {oc_conflicts kV_conflicts dc_conflicts pm_conflicts cd_conflicts ct_conflicts : Value}
    {f_law_says : Addr} {od_law_says an_law_says : Option Addr} {sl_law_says : Array (Option Value)} {oc_law_says kV_law_says dc_law_says pm_law_says cd_law_says ct_law_says : Value}
    {f_same_house : Addr} {od_same_house an_same_house : Option Addr} {sl_same_house : Array (Option Value)} {oc_same_house kV_same_house dc_same_house pm_same_house cd_same_house ct_same_house : Value}
    {f_is_merge : Addr} {od_is_merge an_is_merge : Option Addr} {sl_is_merge : Array (Option Value)} {oc_is_merge kV_is_merge dc_is_merge pm_is_merge cd_is_merge ct_is_merge : Value}
    {f_law_refusal : Addr} {od_law_refusal an_law_refusal : Option Addr} {sl_law_refusal : Array (Option Value)} {oc_law_refusal kV_law_refusal dc_law_refusal pm_law_refusal cd_law_refusal ct_law_refusal : Value}
    {f_law : Addr} {od_law an_law : Option Addr} {sl_law : Array (Option Value)} {oc_law kV_law dc_law pm_law cd_law ct_law : Value}
    {C_Misfit T0_Misfit f_i_Misfit : Addr} {nm_Misfit q_Misfit : Str} {N_Misfit : Addr} {bs_Misfit : List Value} {sn_Misfit : List Str} {sub_Misfit : List Value} {ab_Misfit : Bool} {col_Misfit : Option Bool} {dd_Misfit : Option Addr} {m0_Misfit m1_Misfit m2_Misfit m3_Misfit m5_Misfit : Option Value}
    {od_i_Misfit an_i_Misfit : Option Addr} {sl_i_Misfit : Array (Option Value)} {oc_i_Misfit kV_i_Misfit dc_i_Misfit pm_i_Misfit cd_i_Misfit ct_i_Misfit : Value}
    {C_Unknown T0_Unknown f_i_Unknown : Addr} {nm_Unknown q_Unknown : Str} {N_Unknown : Addr} {bs_Unknown : List Value} {sn_Unknown : List Str} {sub_Unknown : List Value} {ab_Unknown : Bool} {col_Unknown : Option Bool} {dd_Unknown : Option Addr} {m0_Unknown m1_Unknown m2_Unknown m3_Unknown m5_Unknown : Option Value}
    {od_i_Unknown an_i_Unknown : Option Addr} {sl_i_Unknown : Array (Option Value)} {oc_i_Unknown kV_i_Unknown dc_i_Unknown pm_i_Unknown cd_i_Unknown ct_i_Unknown : Value}
    (a_law_jar : PySem.W.nsIn K mainGlobals "_law_jar" = some (some (.ref f_law_jar)))
    (l_law_jar : K.lookup f_law_jar = some ⟨oc_law_jar, od_law_jar, .func (PySem.W.fnOf "_law_jar" "_law_jar" (defArgs s_law_jar) (defBody s_law_jar) (defScope s_law_jar) .none kV_law_jar dc_law_jar pm_law_jar an_law_jar cd_law_jar ct_law_jar), sl_law_jar⟩)
    (c_law_jar : PySem.W.codeIn K cd_law_jar "_law_jar" = true)
    (k_law_jar : PySem.W.keepIn K (.ref f_law_jar) = true)
    (a_law_draw : PySem.W.nsIn K mainGlobals "_law_draw" = some (some (.ref f_law_draw)))
    (l_law_draw : K.lookup f_law_draw = some ⟨oc_law_draw, od_law_draw, .func (PySem.W.fnOf "_law_draw" "_law_draw" (defArgs s_law_draw) (defBody s_law_draw) (defScope s_law_draw) .none kV_law_draw dc_law_draw pm_law_draw an_law_draw cd_law_draw ct_law_draw), sl_law_draw⟩)
    (c_law_draw : PySem.W.codeIn K cd_law_draw "_law_draw" = true)
    (k_law_draw : PySem.W.keepIn K (.ref f_law_draw) = true)
    (a_law_entry : PySem.W.nsIn K mainGlobals "_law_entry" = some (some (.ref f_law_entry)))
    (l_law_entry : K.lookup f_law_entry = some ⟨oc_law_entry, od_law_entry, .func (PySem.W.fnOf "_law_entry" "_law_entry" (defArgs s_law_entry) (defBody s_law_entry) (defScope s_law_entry) .none kV_law_entry dc_law_entry pm_law_entry an_law_entry cd_law_entry ct_law_entry), sl_law_entry⟩)
    (c_law_entry : PySem.W.codeIn K cd_law_entry "_law_entry" = true)
    (k_law_entry : PySem.W.keepIn K (.ref f_law_entry) = true)
    (a_law_house : PySem.W.nsIn K mainGlobals "_law_house" = some (some (.ref f_law_house)))
    (l_law_house : K.lookup f_law_house = some ⟨oc_law_house, od_law_house, .func (PySem.W.fnOf "_law_house" "_law_house" (defArgs s_law_house) (defBody s_law_house) (defScope s_law_house) .none kV_law_house dc_law_house pm_law_house an_law_house cd_law_house ct_law_house), sl_law_house⟩)
    (c_law_house : PySem.W.codeIn K cd_law_house "_law_house" = true)
    (k_law_house : PySem.W.keepIn K (.ref f_law_house) = true)
    (a_law_copy : PySem.W.nsIn K mainGlobals "_law_copy" = some (some (.ref f_law_copy)))
    (l_law_copy : K.lookup f_law_copy = some ⟨oc_law_copy, od_law_copy, .func (PySem.W.fnOf "_law_copy" "_law_copy" (defArgs s_law_copy) (defBody s_law_copy) (defScope s_law_copy) .none kV_law_copy dc_law_copy pm_law_copy an_law_copy cd_law_copy ct_law_copy), sl_law_copy⟩)
    (c_law_copy : PySem.W.codeIn K cd_law_copy "_law_copy" = true)
    (k_law_copy : PySem.W.keepIn K (.ref f_law_copy) = true)
    (a_law_after : PySem.W.nsIn K mainGlobals "_law_after" = some (some (.ref f_law_after)))
    (l_law_after : K.lookup f_law_after = some ⟨oc_law_after, od_law_after, .func (PySem.W.fnOf "_law_after" "_law_after" (defArgs s_law_after) (defBody s_law_after) (defScope s_law_after) .none kV_law_after dc_law_after pm_law_after an_law_after cd_law_after ct_law_after), sl_law_after⟩)
    (c_law_after : PySem.W.codeIn K cd_law_after "_law_after" = true)
    (k_law_after : PySem.W.keepIn K (.ref f_law_after) = true)
    (a_law_edits : PySem.W.nsIn K mainGlobals "_law_edits" = some (some (.ref f_law_edits)))
    (l_law_edits : K.lookup f_law_edits = some ⟨oc_law_edits, od_law_edits, .func (PySem.W.fnOf "_law_edits" "_law_edits" (defArgs s_law_edits) (defBody s_law_edits) (defScope s_law_edits) .none kV_law_edits dc_law_edits pm_law_edits an_law_edits cd_law_edits ct_law_edits), sl_law_edits⟩)
    (c_law_edits : PySem.W.codeIn K cd_law_edits "_law_edits" = true)
    (k_law_edits : PySem.W.keepIn K (.ref f_law_edits) = true)
    (a_law_grown : PySem.W.nsIn K mainGlobals "_law_grown" = some (some (.ref f_law_grown)))
    (l_law_grown : K.lookup f_law_grown = some ⟨oc_law_grown, od_law_grown, .func (PySem.W.fnOf "_law_grown" "_law_grown" (defArgs s_law_grown) (defBody s_law_grown) (defScope s_law_grown) .none kV_law_grown dc_law_grown pm_law_grown an_law_grown cd_law_grown ct_law_grown), sl_law_grown⟩)
    (c_law_grown : PySem.W.codeIn K cd_law_grown "_law_grown" = true)
    (k_law_grown : PySem.W.keepIn K (.ref f_law_grown) = true)
    (a_law_entry_at : PySem.W.nsIn K mainGlobals "_law_entry_at" = some (some (.ref f_law_entry_at)))
    (l_law_entry_at : K.lookup f_law_entry_at = some ⟨oc_law_entry_at, od_law_entry_at, .func (PySem.W.fnOf "_law_entry_at" "_law_entry_at" (defArgs s_law_entry_at) (defBody s_law_entry_at) (defScope s_law_entry_at) .none kV_law_entry_at dc_law_entry_at pm_law_entry_at an_law_entry_at cd_law_entry_at ct_law_entry_at), sl_law_entry_at⟩)
    (c_law_entry_at : PySem.W.codeIn K cd_law_entry_at "_law_entry_at" = true)
    (k_law_entry_at : PySem.W.keepIn K (.ref f_law_entry_at) = true)
    (a_law_merge : PySem.W.nsIn K mainGlobals "_law_merge" = some (some (.ref f_law_merge)))
    (l_law_merge : K.lookup f_law_merge = some ⟨oc_law_merge, od_law_merge, .func (PySem.W.fnOf "_law_merge" "_law_merge" (defArgs s_law_merge) (defBody s_law_merge) (defScope s_law_merge) .none kV_law_merge dc_law_merge pm_law_merge an_law_merge cd_law_merge ct_law_merge), sl_law_merge⟩)
    (c_law_merge : PySem.W.codeIn K cd_law_merge "_law_merge" = true)
    (k_law_merge : PySem.W.keepIn K (.ref f_law_merge) = true)
    (a_same_keys : PySem.W.nsIn K mainGlobals "same_keys" = some (some (.ref f_same_keys)))
    (l_same_keys : K.lookup f_same_keys = some ⟨oc_same_keys, od_same_keys, .func (PySem.W.fnOf "same_keys" "same_keys" (defArgs s_same_keys) (defBody s_same_keys) (defScope s_same_keys) .none kV_same_keys dc_same_keys pm_same_keys an_same_keys cd_same_keys ct_same_keys), sl_same_keys⟩)
    (c_same_keys : PySem.W.codeIn K cd_same_keys "same_keys" = true)
    (k_same_keys : PySem.W.keepIn K (.ref f_same_keys) = true)
    (a_check_keys : PySem.W.nsIn K mainGlobals "check_keys" = some (some (.ref f_check_keys)))
    (l_check_keys : K.lookup f_check_keys = some ⟨oc_check_keys, od_check_keys, .func (PySem.W.fnOf "check_keys" "check_keys" (defArgs s_check_keys) (defBody s_check_keys) (defScope s_check_keys) .none kV_check_keys dc_check_keys pm_check_keys an_check_keys cd_check_keys ct_check_keys), sl_check_keys⟩)
    (c_check_keys : PySem.W.codeIn K cd_check_keys "check_keys" = true)
    (k_check_keys : PySem.W.keepIn K (.ref f_check_keys) = true)
    (a_names_of : PySem.W.nsIn K mainGlobals "names_of" = some (some (.ref f_names_of)))
    (l_names_of : K.lookup f_names_of = some ⟨oc_names_of, od_names_of, .func (PySem.W.fnOf "names_of" "names_of" (defArgs s_names_of) (defBody s_names_of) (defScope s_names_of) .none kV_names_of dc_names_of pm_names_of an_names_of cd_names_of ct_names_of), sl_names_of⟩)
    (c_names_of : PySem.W.codeIn K cd_names_of "names_of" = true)
    (k_names_of : PySem.W.keepIn K (.ref f_names_of) = true)
    (a_check_key : PySem.W.nsIn K mainGlobals "check_key" = some (some (.ref f_check_key)))
    (l_check_key : K.lookup f_check_key = some ⟨oc_check_key, od_check_key, .func (PySem.W.fnOf "check_key" "check_key" (defArgs s_check_key) (defBody s_check_key) (defScope s_check_key) .none kV_check_key dc_check_key pm_check_key an_check_key cd_check_key ct_check_key), sl_check_key⟩)
    (c_check_key : PySem.W.codeIn K cd_check_key "check_key" = true)
    (k_check_key : PySem.W.keepIn K (.ref f_check_key) = true)
    (a_entry_in : PySem.W.nsIn K mainGlobals "entry_in" = some (some (.ref f_entry_in)))
    (l_entry_in : K.lookup f_entry_in = some ⟨oc_entry_in, od_entry_in, .func (PySem.W.fnOf "entry_in" "entry_in" (defArgs s_entry_in) (defBody s_entry_in) (defScope s_entry_in) .none kV_entry_in dc_entry_in pm_entry_in an_entry_in cd_entry_in ct_entry_in), sl_entry_in⟩)
    (c_entry_in : PySem.W.codeIn K cd_entry_in "entry_in" = true)
    (k_entry_in : PySem.W.keepIn K (.ref f_entry_in) = true)
    (a_settled : PySem.W.nsIn K mainGlobals "settled" = some (some (.ref f_settled)))
    (l_settled : K.lookup f_settled = some ⟨oc_settled, od_settled, .func (PySem.W.fnOf "settled" "settled" (defArgs s_settled) (defBody s_settled) (defScope s_settled) .none kV_settled dc_settled pm_settled an_settled cd_settled ct_settled), sl_settled⟩)
    (c_settled : PySem.W.codeIn K cd_settled "settled" = true)
    (k_settled : PySem.W.keepIn K (.ref f_settled) = true)
    (a_merge : PySem.W.nsIn K mainGlobals "merge" = some (some (.ref f_merge)))
    (l_merge : K.lookup f_merge = some ⟨oc_merge, od_merge, .func (PySem.W.fnOf "merge" "merge" (defArgs s_merge) (defBody s_merge) (defScope s_merge) .none kV_merge dc_merge pm_merge an_merge cd_merge ct_merge), sl_merge⟩)
    (c_merge : PySem.W.codeIn K cd_merge "merge" = true)
    (k_merge : PySem.W.keepIn K (.ref f_merge) = true)
    (a_law_same : PySem.W.nsIn K mainGlobals "_law_same" = some (some (.ref f_law_same)))
    (l_law_same : K.lookup f_law_same = some ⟨oc_law_same, od_law_same, .func (PySem.W.fnOf "_law_same" "_law_same" (defArgs s_law_same) (defBody s_law_same) (defScope s_law_same) .none kV_law_same dc_law_same pm_law_same an_law_same cd_law_same ct_law_same), sl_law_same⟩)
    (c_law_same : PySem.W.codeIn K cd_law_same "_law_same" = true)
    (k_law_same : PySem.W.keepIn K (.ref f_law_same) = true)
    (a_conflicts : PySem.W.nsIn K mainGlobals "conflicts" = some (some (.ref f_conflicts)))
    (l_conflicts : K.lookup f_conflicts = some ⟨oc_conflicts, od_conflicts, .func (PySem.W.fnOf "conflicts" "conflicts" (defArgs s_conflicts) (defBody s_conflicts) (defScope s_conflicts) .none kV_conflicts dc_conflicts pm_conflicts an_conflicts cd_conflicts ct_conflicts), sl_conflicts⟩)
    (c_conflicts : PySem.W.codeIn K cd_conflicts "conflicts" = true)
    (k_conflicts : PySem.W.keepIn K (.ref f_conflicts) = true)
    (a_law_says : PySem.W.nsIn K mainGlobals "_law_says" = some (some (.ref f_law_says)))
    (l_law_says : K.lookup f_law_says = some ⟨oc_law_says, od_law_says, .func (PySem.W.fnOf "_law_says" "_law_says" (defArgs s_law_says) (defBody s_law_says) (defScope s_law_says) .none kV_law_says dc_law_says pm_law_says an_law_says cd_law_says ct_law_says), sl_law_says⟩)
    (c_law_says : PySem.W.codeIn K cd_law_says "_law_says" = true)
    (k_law_says : PySem.W.keepIn K (.ref f_law_says) = true)
    (a_same_house : PySem.W.nsIn K mainGlobals "same_house" = some (some (.ref f_same_house)))
    (l_same_house : K.lookup f_same_house = some ⟨oc_same_house, od_same_house, .func (PySem.W.fnOf "same_house" "same_house" (defArgs s_same_house) (defBody s_same_house) (defScope s_same_house) .none kV_same_house dc_same_house pm_same_house an_same_house cd_same_house ct_same_house), sl_same_house⟩)
    (c_same_house : PySem.W.codeIn K cd_same_house "same_house" = true)
    (k_same_house : PySem.W.keepIn K (.ref f_same_house) = true)
    (a_is_merge : PySem.W.nsIn K mainGlobals "is_merge" = some (some (.ref f_is_merge)))
    (l_is_merge : K.lookup f_is_merge = some ⟨oc_is_merge, od_is_merge, .func (PySem.W.fnOf "is_merge" "is_merge" (defArgs s_is_merge) (defBody s_is_merge) (defScope s_is_merge) .none kV_is_merge dc_is_merge pm_is_merge an_is_merge cd_is_merge ct_is_merge), sl_is_merge⟩)
    (c_is_merge : PySem.W.codeIn K cd_is_merge "is_merge" = true)
    (k_is_merge : PySem.W.keepIn K (.ref f_is_merge) = true)
    (a_law_refusal : PySem.W.nsIn K mainGlobals "_law_refusal" = some (some (.ref f_law_refusal)))
    (l_law_refusal : K.lookup f_law_refusal = some ⟨oc_law_refusal, od_law_refusal, .func (PySem.W.fnOf "_law_refusal" "_law_refusal" (defArgs s_law_refusal) (defBody s_law_refusal) (defScope s_law_refusal) .none kV_law_refusal dc_law_refusal pm_law_refusal an_law_refusal cd_law_refusal ct_law_refusal), sl_law_refusal⟩)
    (c_law_refusal : PySem.W.codeIn K cd_law_refusal "_law_refusal" = true)
    (k_law_refusal : PySem.W.keepIn K (.ref f_law_refusal) = true)
    (a_law : PySem.W.nsIn K mainGlobals "law" = some (some (.ref f_law)))
    (l_law : K.lookup f_law = some ⟨oc_law, od_law, .func (PySem.W.fnOf "law" "law" (defArgs s_law) (defBody s_law) (defScope s_law) .none kV_law dc_law pm_law an_law cd_law ct_law), sl_law⟩)
    (c_law : PySem.W.codeIn K cd_law "law" = true)
    (k_law : PySem.W.keepIn K (.ref f_law) = true)
    (aC_Misfit : PySem.W.nsIn K mainGlobals "Misfit" = some (some (.ref C_Misfit)))
    (xL_Misfit : K.lookup C_Misfit = some (excClassObj nm_Misfit q_Misfit C_Misfit N_Misfit bs_Misfit [.ref T0_Misfit, .type "ValueError", .type "Exception", .type "BaseException", .type "object"] true sn_Misfit sub_Misfit ab_Misfit col_Misfit dd_Misfit m0_Misfit m1_Misfit m2_Misfit m3_Misfit m5_Misfit "ValueError.__new__"))
    (sa_Misfit : PySem.W.findIn K (.ref C_Misfit) "__setattr__" = some (some (.builtin "object.__setattr__")))
    (ga_Misfit : PySem.W.findIn K (.ref C_Misfit) "__getattribute__" = some (some (.builtin "BaseException.__getattribute__")))
    (gg_Misfit : PySem.W.findIn K (.ref C_Misfit) "__getattr__" = some none)
    (kC_Misfit : PySem.W.keepIn K (.ref C_Misfit) = true)
    (eC_Misfit : PySem.W.subIn K (.ref C_Misfit) (.type "BaseException") = some true)
    (tC_Misfit : PySem.W.typeIn K (.ref C_Misfit) = some (.type "type"))
    (hC_Misfit : PySem.W.hasDictIn K C_Misfit = true)
    (iC_Misfit : PySem.W.isClsIn K C_Misfit = true)
    (in_Misfit : PySem.W.findIn K (.ref C_Misfit) "__init__" = some (some (.ref f_i_Misfit)))
    (ti_Misfit : PySem.W.typeIn K (.ref f_i_Misfit) = some (.type "function"))
    (l_i_Misfit : K.lookup f_i_Misfit = some ⟨oc_i_Misfit, od_i_Misfit, .func (PySem.W.fnOf "__init__" "Misfit.__init__" (defArgs s_init_Misfit) (defBody s_init_Misfit) (defScope s_init_Misfit) .none kV_i_Misfit dc_i_Misfit pm_i_Misfit an_i_Misfit cd_i_Misfit ct_i_Misfit), sl_i_Misfit⟩)
    (c_i_Misfit : PySem.W.codeIn K cd_i_Misfit "Misfit.__init__" = true)
    (k_i_Misfit : PySem.W.keepIn K (.ref f_i_Misfit) = true)
    (no_what_Misfit : PySem.W.findIn K (.ref C_Misfit) "what" = some none)
    (no_name_Misfit : PySem.W.findIn K (.ref C_Misfit) "name" = some none)
    (s_Misfit_Misfit : PySem.W.subIn K (.ref C_Misfit) (.ref C_Misfit) = some true)
    (aC_Unknown : PySem.W.nsIn K mainGlobals "Unknown" = some (some (.ref C_Unknown)))
    (xL_Unknown : K.lookup C_Unknown = some (excClassObj nm_Unknown q_Unknown C_Unknown N_Unknown bs_Unknown [.ref T0_Unknown, .type "ValueError", .type "Exception", .type "BaseException", .type "object"] true sn_Unknown sub_Unknown ab_Unknown col_Unknown dd_Unknown m0_Unknown m1_Unknown m2_Unknown m3_Unknown m5_Unknown "ValueError.__new__"))
    (sa_Unknown : PySem.W.findIn K (.ref C_Unknown) "__setattr__" = some (some (.builtin "object.__setattr__")))
    (ga_Unknown : PySem.W.findIn K (.ref C_Unknown) "__getattribute__" = some (some (.builtin "BaseException.__getattribute__")))
    (gg_Unknown : PySem.W.findIn K (.ref C_Unknown) "__getattr__" = some none)
    (kC_Unknown : PySem.W.keepIn K (.ref C_Unknown) = true)
    (eC_Unknown : PySem.W.subIn K (.ref C_Unknown) (.type "BaseException") = some true)
    (tC_Unknown : PySem.W.typeIn K (.ref C_Unknown) = some (.type "type"))
    (hC_Unknown : PySem.W.hasDictIn K C_Unknown = true)
    (iC_Unknown : PySem.W.isClsIn K C_Unknown = true)
    (in_Unknown : PySem.W.findIn K (.ref C_Unknown) "__init__" = some (some (.ref f_i_Unknown)))
    (ti_Unknown : PySem.W.typeIn K (.ref f_i_Unknown) = some (.type "function"))
    (l_i_Unknown : K.lookup f_i_Unknown = some ⟨oc_i_Unknown, od_i_Unknown, .func (PySem.W.fnOf "__init__" "Unknown.__init__" (defArgs s_init_Unknown) (defBody s_init_Unknown) (defScope s_init_Unknown) .none kV_i_Unknown dc_i_Unknown pm_i_Unknown an_i_Unknown cd_i_Unknown ct_i_Unknown), sl_i_Unknown⟩)
    (c_i_Unknown : PySem.W.codeIn K cd_i_Unknown "Unknown.__init__" = true)
    (k_i_Unknown : PySem.W.keepIn K (.ref f_i_Unknown) = true)
    (no_what_Unknown : PySem.W.findIn K (.ref C_Unknown) "what" = some none)
    (no_name_Unknown : PySem.W.findIn K (.ref C_Unknown) "name" = some none)
    (s_Misfit_Unknown : PySem.W.subIn K (.ref C_Unknown) (.ref C_Misfit) = some false)
    (z_abs : PySem.W.nsIn K mainGlobals "abs" = some none)
    (z_all : PySem.W.nsIn K mainGlobals "all" = some none)
    (z_bool : PySem.W.nsIn K mainGlobals "bool" = some none)
    (z_dict : PySem.W.nsIn K mainGlobals "dict" = some none)
    (z_int : PySem.W.nsIn K mainGlobals "int" = some none)
    (z_isinstance : PySem.W.nsIn K mainGlobals "isinstance" = some none)
    (z_len : PySem.W.nsIn K mainGlobals "len" = some none)
    (z_list : PySem.W.nsIn K mainGlobals "list" = some none)
    (z_range : PySem.W.nsIn K mainGlobals "range" = some none)
    (z_repr : PySem.W.nsIn K mainGlobals "repr" = some none)
    (z_sorted : PySem.W.nsIn K mainGlobals "sorted" = some none)
    (z_tuple : PySem.W.nsIn K mainGlobals "tuple" = some none) :
    ∃ fd : FuncData, (∀ (s : Shared) (v : Value), BindsTo s fd ⟨[v], []⟩ [("script", v)]) ∧ ∀ base : Heap, K.In base → base.Ns mainGlobals mg → FnG P w K mg base 7 fa fd ["script"] (SpM K mg [0] 0 m_law) := by
  have e := hfa.symm.trans (PySem.W.mg_of X G a_law)
  cases e
  have F_law_jar := fun_mk (st := s_law_jar) l_law_jar c_law_jar k_law_jar
  have b_law_jar := F_law_jar.binds (ps := ["script"]) fun _ _ _ _ _ _ us hl => match us, hl with | [_], _ => rfl
  have F_law_draw := fun_mk (st := s_law_draw) l_law_draw c_law_draw k_law_draw
  have b_law_draw := F_law_draw.binds (ps := ["jar", "at", "many"]) fun _ _ _ _ _ _ us hl => match us, hl with | [_, _, _], _ => rfl
  have F_law_entry := fun_mk (st := s_law_entry) l_law_entry c_law_entry k_law_entry
  have b_law_entry := F_law_entry.binds (ps := ["jar", "at"]) fun _ _ _ _ _ _ us hl => match us, hl with | [_, _], _ => rfl
  have F_law_house := fun_mk (st := s_law_house) l_law_house c_law_house k_law_house
  have b_law_house := F_law_house.binds (ps := ["jar", "at"]) fun _ _ _ _ _ _ us hl => match us, hl with | [_, _], _ => rfl
  have F_law_copy := fun_mk (st := s_law_copy) l_law_copy c_law_copy k_law_copy
  have b_law_copy := F_law_copy.binds (ps := ["house"]) fun _ _ _ _ _ _ us hl => match us, hl with | [_], _ => rfl
  have F_law_after := fun_mk (st := s_law_after) l_law_after c_law_after k_law_after
  have b_law_after := F_law_after.binds (ps := ["house", "edit"]) fun _ _ _ _ _ _ us hl => match us, hl with | [_, _], _ => rfl
  have F_law_edits := fun_mk (st := s_law_edits) l_law_edits c_law_edits k_law_edits
  have b_law_edits := F_law_edits.binds (ps := ["jar", "at", "house", "many"]) fun _ _ _ _ _ _ us hl => match us, hl with | [_, _, _, _], _ => rfl
  have F_law_grown := fun_mk (st := s_law_grown) l_law_grown c_law_grown k_law_grown
  have b_law_grown := F_law_grown.binds (ps := ["jar", "at", "base", "many"]) fun _ _ _ _ _ _ us hl => match us, hl with | [_, _, _, _], _ => rfl
  have F_law_entry_at := fun_mk (st := s_law_entry_at) l_law_entry_at c_law_entry_at k_law_entry_at
  have b_law_entry_at := F_law_entry_at.binds (ps := ["house", "key", "name"]) fun _ _ _ _ _ _ us hl => match us, hl with | [_, _, _], _ => rfl
  have F_law_merge := fun_mk (st := s_law_merge) l_law_merge c_law_merge k_law_merge
  have b_law_merge := F_law_merge.binds (ps := ["base", "one", "two"]) fun _ _ _ _ _ _ us hl => match us, hl with | [_, _, _], _ => rfl
  have F_same_keys := fun_mk (st := s_same_keys) l_same_keys c_same_keys k_same_keys
  have b_same_keys := F_same_keys.binds (ps := ["house", "other"]) fun _ _ _ _ _ _ us hl => match us, hl with | [_, _], _ => rfl
  have F_check_keys := fun_mk (st := s_check_keys) l_check_keys c_check_keys k_check_keys
  have b_check_keys := F_check_keys.binds (ps := ["base", "houses"]) fun _ _ _ _ _ _ us hl => match us, hl with | [_, _], _ => rfl
  have F_names_of := fun_mk (st := s_names_of) l_names_of c_names_of k_names_of
  have b_names_of := F_names_of.binds (ps := ["houses", "key"]) fun _ _ _ _ _ _ us hl => match us, hl with | [_, _], _ => rfl
  have F_check_key := fun_mk (st := s_check_key) l_check_key c_check_key k_check_key
  have b_check_key := F_check_key.binds (ps := ["house", "key"]) fun _ _ _ _ _ _ us hl => match us, hl with | [_, _], _ => rfl
  have F_entry_in := fun_mk (st := s_entry_in) l_entry_in c_entry_in k_entry_in
  have b_entry_in := F_entry_in.binds (ps := ["house", "key", "name"]) fun _ _ _ _ _ _ us hl => match us, hl with | [_, _, _], _ => rfl
  have F_settled := fun_mk (st := s_settled) l_settled c_settled k_settled
  have b_settled := F_settled.binds (ps := ["base", "one", "two"]) fun _ _ _ _ _ _ us hl => match us, hl with | [_, _, _], _ => rfl
  have F_merge := fun_mk (st := s_merge) l_merge c_merge k_merge
  have b_merge := F_merge.binds (ps := ["base", "one", "two"]) fun _ _ _ _ _ _ us hl => match us, hl with | [_, _, _], _ => rfl
  have F_law_same := fun_mk (st := s_law_same) l_law_same c_law_same k_law_same
  have b_law_same := F_law_same.binds (ps := ["told", "house"]) fun _ _ _ _ _ _ us hl => match us, hl with | [_, _], _ => rfl
  have F_conflicts := fun_mk (st := s_conflicts) l_conflicts c_conflicts k_conflicts
  have b_conflicts := F_conflicts.binds (ps := ["base", "one", "two"]) fun _ _ _ _ _ _ us hl => match us, hl with | [_, _, _], _ => rfl
  have F_law_says := fun_mk (st := s_law_says) l_law_says c_law_says k_law_says
  have b_law_says := F_law_says.binds (ps := ["actual", "due"]) fun _ _ _ _ _ _ us hl => match us, hl with | [_, _], _ => rfl
  have F_same_house := fun_mk (st := s_same_house) l_same_house c_same_house k_same_house
  have b_same_house := F_same_house.binds (ps := ["house", "other"]) fun _ _ _ _ _ _ us hl => match us, hl with | [_, _], _ => rfl
  have F_is_merge := fun_mk (st := s_is_merge) l_is_merge c_is_merge k_is_merge
  have b_is_merge := F_is_merge.binds (ps := ["base", "one", "two", "house"]) fun _ _ _ _ _ _ us hl => match us, hl with | [_, _, _, _], _ => rfl
  have F_law_refusal := fun_mk (st := s_law_refusal) l_law_refusal c_law_refusal k_law_refusal
  have b_law_refusal := F_law_refusal.binds (ps := ["base", "one", "two"]) fun _ _ _ _ _ _ us hl => match us, hl with | [_, _, _], _ => rfl
  have F_law := fun_mk (st := s_law) l_law c_law k_law
  have b_law := F_law.binds (ps := ["script"]) fun _ _ _ _ _ _ us hl => match us, hl with | [_], _ => rfl
  have F_i_Misfit := fun_mk (st := s_init_Misfit) l_i_Misfit c_i_Misfit k_i_Misfit
  have b_i_Misfit := F_i_Misfit.binds (ps := ["self", "what", "name"]) fun _ _ _ _ _ _ us hl => match us, hl with | [_, _, _], _ => rfl
  have F_i_Unknown := fun_mk (st := s_init_Unknown) l_i_Unknown c_i_Unknown k_i_Unknown
  have b_i_Unknown := F_i_Unknown.binds (ps := ["self", "what", "name"]) fun _ _ _ _ _ _ us hl => match us, hl with | [_, _, _], _ => rfl
  have B : Bt mg := ⟨PySem.W.mg_none_of X G z_abs, PySem.W.mg_none_of X G z_all, PySem.W.mg_none_of X G z_bool, PySem.W.mg_none_of X G z_dict, PySem.W.mg_none_of X G z_int, PySem.W.mg_none_of X G z_isinstance, PySem.W.mg_none_of X G z_len, PySem.W.mg_none_of X G z_list, PySem.W.mg_none_of X G z_range, PySem.W.mg_none_of X G z_repr, PySem.W.mg_none_of X G z_sorted, PySem.W.mg_none_of X G z_tuple⟩
  have M_Misfit : ∀ (m : Str) (b : Bool), mt_Misfit m = some b → ∃ p, mg m = some (.ref p) ∧ PySem.W.exmOne K (.ref p) (.ref C_Misfit) = some b := fun m b e => by
    unfold mt_Misfit at e
    split at e
    · rename_i hm; cases e; subst hm; exact ⟨_, PySem.W.mg_of X G aC_Misfit, exm_own eC_Misfit iC_Misfit tC_Misfit s_Misfit_Misfit⟩
    split at e
    · rename_i hm; cases e; subst hm; exact ⟨_, PySem.W.mg_of X G aC_Unknown, exm_own eC_Misfit iC_Misfit tC_Misfit s_Misfit_Unknown⟩
    cases e
  refine ⟨PySem.W.fnOf "law" "law" (defArgs s_law) (defBody s_law) (defScope s_law) .none kV_law dc_law pm_law an_law cd_law ct_law, fun s v => .of_eq rfl, fun base _ _ => ?_⟩
  have E_Misfit : ExcC P w K mg base "Misfit" ["what", "name"] C_Misfit := ⟨⟨⟨_, _, _, _, _, _, _, _, _, _, _, _, _, _, _, xL_Misfit, by rfl⟩, sa_Misfit, eC_Misfit, tC_Misfit, kC_Misfit⟩, ⟨_, _, _, in_Misfit, ti_Misfit, i_init_Misfit F_i_Misfit, b_i_Misfit⟩, PySem.W.mg_of X G aC_Misfit, fun f hf => by
    simp only [List.mem_cons, List.not_mem_nil, or_false] at hf
    rcases hf with rfl | rfl
    · exact no_what_Misfit
    · exact no_name_Misfit, ⟨ga_Misfit, gg_Misfit, eC_Misfit, hC_Misfit⟩, by decide⟩
  have E_Unknown : ExcC P w K mg base "Unknown" ["what", "name"] C_Unknown := ⟨⟨⟨_, _, _, _, _, _, _, _, _, _, _, _, _, _, _, xL_Unknown, by rfl⟩, sa_Unknown, eC_Unknown, tC_Unknown, kC_Unknown⟩, ⟨_, _, _, in_Unknown, ti_Unknown, i_init_Unknown F_i_Unknown, b_i_Unknown⟩, PySem.W.mg_of X G aC_Unknown, fun f hf => by
    simp only [List.mem_cons, List.not_mem_nil, or_false] at hf
    rcases hf with rfl | rfl
    · exact no_what_Unknown
    · exact no_name_Unknown, ⟨ga_Unknown, gg_Unknown, eC_Unknown, hC_Unknown⟩, by decide⟩
  have D_law_jar : DefG P w K mg base 1 "_law_jar" [0] 0 m_law_jar := ⟨⟨_, _, _, w_law_jar B F_law_jar, PySem.W.mg_of X G a_law_jar, F_law_jar.kp, b_law_jar⟩⟩
  have D_law_draw : DefG P w K mg base 1 "_law_draw" [0, 1, 0] 0 m_law_draw := ⟨⟨_, _, _, w_law_draw B F_law_draw, PySem.W.mg_of X G a_law_draw, F_law_draw.kp, b_law_draw⟩⟩
  have D_law_entry : DefG P w K mg base 2 "_law_entry" [0, 1] 0 m_law_entry := ⟨⟨_, _, _, w_law_entry B D_law_draw F_law_entry, PySem.W.mg_of X G a_law_entry, F_law_entry.kp, b_law_entry⟩⟩
  have D_law_house : DefG P w K mg base 3 "_law_house" [0, 1] 0 m_law_house := ⟨⟨_, _, _, w_law_house B D_law_draw D_law_entry F_law_house, PySem.W.mg_of X G a_law_house, F_law_house.kp, b_law_house⟩⟩
  have D_law_copy : DefG P w K mg base 1 "_law_copy" [0] 2 m_law_copy := ⟨⟨_, _, _, w_law_copy B F_law_copy, PySem.W.mg_of X G a_law_copy, F_law_copy.kp, b_law_copy⟩⟩
  have D_law_after : DefG P w K mg base 2 "_law_after" [0, 0] 2 m_law_after := ⟨⟨_, _, _, w_law_after B D_law_copy F_law_after, PySem.W.mg_of X G a_law_after, F_law_after.kp, b_law_after⟩⟩
  have D_law_edits : DefG P w K mg base 3 "_law_edits" [0, 1, 0, 0] 0 m_law_edits := ⟨⟨_, _, _, w_law_edits B D_law_copy D_law_draw D_law_entry D_law_after F_law_edits, PySem.W.mg_of X G a_law_edits, F_law_edits.kp, b_law_edits⟩⟩
  have D_law_grown : DefG P w K mg base 4 "_law_grown" [0, 1, 0, 0] 2 m_law_grown := ⟨⟨_, _, _, w_law_grown B D_law_copy D_law_edits D_law_after F_law_grown, PySem.W.mg_of X G a_law_grown, F_law_grown.kp, b_law_grown⟩⟩
  have D_law_entry_at : DefG P w K mg base 1 "_law_entry_at" [0, 0, 0] 0 m_law_entry_at := ⟨⟨_, _, _, w_law_entry_at B F_law_entry_at, PySem.W.mg_of X G a_law_entry_at, F_law_entry_at.kp, b_law_entry_at⟩⟩
  have D_law_merge : DefG P w K mg base 2 "_law_merge" [0, 0, 0] 0 m_law_merge := ⟨⟨_, _, _, w_law_merge B D_law_entry_at F_law_merge, PySem.W.mg_of X G a_law_merge, F_law_merge.kp, b_law_merge⟩⟩
  have D_same_keys : DefG P w K mg base 1 "same_keys" [0, 0] 0 m_same_keys := ⟨⟨_, _, _, w_same_keys B F_same_keys, PySem.W.mg_of X G a_same_keys, F_same_keys.kp, b_same_keys⟩⟩
  have D_check_keys : DefG P w K mg base 3 "check_keys" [0, 0] 0 m_check_keys := ⟨⟨_, _, _, w_check_keys B D_same_keys E_Misfit F_check_keys, PySem.W.mg_of X G a_check_keys, F_check_keys.kp, b_check_keys⟩⟩
  have D_names_of : DefG P w K mg base 1 "names_of" [0, 0] 0 m_names_of := ⟨⟨_, _, _, w_names_of B F_names_of, PySem.W.mg_of X G a_names_of, F_names_of.kp, b_names_of⟩⟩
  have D_check_key : DefG P w K mg base 3 "check_key" [0, 0] 0 m_check_key := ⟨⟨_, _, _, w_check_key B E_Unknown F_check_key, PySem.W.mg_of X G a_check_key, F_check_key.kp, b_check_key⟩⟩
  have D_entry_in : DefG P w K mg base 4 "entry_in" [0, 0, 0] 0 m_entry_in := ⟨⟨_, _, _, w_entry_in B D_check_key F_entry_in, PySem.W.mg_of X G a_entry_in, F_entry_in.kp, b_entry_in⟩⟩
  have D_settled : DefG P w K mg base 1 "settled" [0, 0, 0] 0 m_settled := ⟨⟨_, _, _, w_settled B F_settled, PySem.W.mg_of X G a_settled, F_settled.kp, b_settled⟩⟩
  have D_merge : DefG P w K mg base 5 "merge" [0, 0, 0] 3 m_merge := ⟨⟨_, _, _, w_merge B D_check_keys D_names_of D_entry_in D_settled F_merge, PySem.W.mg_of X G a_merge, F_merge.kp, b_merge⟩⟩
  have D_law_same : DefG P w K mg base 1 "_law_same" [0, 0] 0 m_law_same := ⟨⟨_, _, _, w_law_same B F_law_same, PySem.W.mg_of X G a_law_same, F_law_same.kp, b_law_same⟩⟩
  have D_conflicts : DefG P w K mg base 6 "conflicts" [0, 0, 0] 0 m_conflicts := ⟨⟨_, _, _, w_conflicts B D_merge F_conflicts, PySem.W.mg_of X G a_conflicts, F_conflicts.kp, b_conflicts⟩⟩
  have D_law_says : DefG P w K mg base 1 "_law_says" [0, 0] 0 m_law_says := ⟨⟨_, _, _, w_law_says B F_law_says, PySem.W.mg_of X G a_law_says, F_law_says.kp, b_law_says⟩⟩
  have D_same_house : DefG P w K mg base 2 "same_house" [0, 0] 0 m_same_house := ⟨⟨_, _, _, w_same_house B D_same_keys F_same_house, PySem.W.mg_of X G a_same_house, F_same_house.kp, b_same_house⟩⟩
  have D_is_merge : DefG P w K mg base 6 "is_merge" [0, 0, 0, 0] 0 m_is_merge := ⟨⟨_, _, _, w_is_merge B D_merge D_same_house F_is_merge, PySem.W.mg_of X G a_is_merge, F_is_merge.kp, b_is_merge⟩⟩
  have D_law_refusal : DefG P w K mg base 6 "_law_refusal" [0, 0, 0] 0 m_law_refusal := ⟨⟨_, _, _, w_law_refusal B D_merge E_Misfit M_Misfit F_law_refusal, PySem.W.mg_of X G a_law_refusal, F_law_refusal.kp, b_law_refusal⟩⟩
  exact w_law B D_law_jar D_law_house D_law_grown D_law_draw D_law_merge D_merge D_law_same D_conflicts D_law_says D_is_merge D_law_copy D_law_refusal F_law
end Gk80
open PySem PySem.W PyProof.Rows
theorem PySem.Challenge.cw_trundleyard_k80_three_way_merges_holds : PySem.Challenge.rw_trundleyard_k80_three_way_merges.Holds := by
  w_on; o_law; k_head; (case hw => w_witness2)
  k_fill
  refine VL.walk (l := PySem.Challenge.rw_trundleyard_k80_three_way_merges) (n := 63) (k := 7) (x := "script") (m := Gk80.m_law) rfl (by decide) rfl ⟨⟨rfl, by decide, by decide⟩, rfl⟩ (fun w h Y => PySem.W.kIn_of Y) ?F Gk80.yes
  case F =>
    intro w mg fa h KX G hmg
    refine' Gk80.all_mk KX G hmg ?a_law_jar ?l_law_jar ?c_law_jar ?k_law_jar ?a_law_draw ?l_law_draw ?c_law_draw ?k_law_draw ?a_law_entry ?l_law_entry ?c_law_entry ?k_law_entry ?a_law_house ?l_law_house ?c_law_house ?k_law_house ?a_law_copy ?l_law_copy ?c_law_copy ?k_law_copy ?a_law_after ?l_law_after ?c_law_after ?k_law_after ?a_law_edits ?l_law_edits ?c_law_edits ?k_law_edits ?a_law_grown ?l_law_grown ?c_law_grown ?k_law_grown ?a_law_entry_at ?l_law_entry_at ?c_law_entry_at ?k_law_entry_at ?a_law_merge ?l_law_merge ?c_law_merge ?k_law_merge ?a_same_keys ?l_same_keys ?c_same_keys ?k_same_keys ?a_check_keys ?l_check_keys ?c_check_keys ?k_check_keys ?a_names_of ?l_names_of ?c_names_of ?k_names_of ?a_check_key ?l_check_key ?c_check_key ?k_check_key ?a_entry_in ?l_entry_in ?c_entry_in ?k_entry_in ?a_settled ?l_settled ?c_settled ?k_settled ?a_merge ?l_merge ?c_merge ?k_merge ?a_law_same ?l_law_same ?c_law_same ?k_law_same ?a_conflicts ?l_conflicts ?c_conflicts ?k_conflicts ?a_law_says ?l_law_says ?c_law_says ?k_law_says ?a_same_house ?l_same_house ?c_same_house ?k_same_house ?a_is_merge ?l_is_merge ?c_is_merge ?k_is_merge ?a_law_refusal ?l_law_refusal ?c_law_refusal ?k_law_refusal ?a_law ?l_law ?c_law ?k_law ?aC_Misfit ?xL_Misfit ?sa_Misfit ?ga_Misfit ?gg_Misfit ?kC_Misfit ?eC_Misfit ?tC_Misfit ?hC_Misfit ?iC_Misfit ?in_Misfit ?ti_Misfit ?l_i_Misfit ?c_i_Misfit ?k_i_Misfit ?no_what_Misfit ?no_name_Misfit ?s_Misfit_Misfit ?aC_Unknown ?xL_Unknown ?sa_Unknown ?ga_Unknown ?gg_Unknown ?kC_Unknown ?eC_Unknown ?tC_Unknown ?hC_Unknown ?iC_Unknown ?in_Unknown ?ti_Unknown ?l_i_Unknown ?c_i_Unknown ?k_i_Unknown ?no_what_Unknown ?no_name_Unknown ?s_Misfit_Unknown ?z_abs ?z_all ?z_bool ?z_dict ?z_int ?z_isinstance ?z_len ?z_list ?z_range ?z_repr ?z_sorted ?z_tuple
    (case a_law_jar => k_is)
    (case l_law_jar => k_is)
    (case c_law_jar => k_is)
    (case k_law_jar => k_is)
    (case a_law_draw => k_is)
    (case l_law_draw => k_is)
    (case c_law_draw => k_is)
    (case k_law_draw => k_is)
    (case a_law_entry => k_is)
    (case l_law_entry => k_is)
    (case c_law_entry => k_is)
    (case k_law_entry => k_is)
    (case a_law_house => k_is)
    (case l_law_house => k_is)
    (case c_law_house => k_is)
    (case k_law_house => k_is)
    (case a_law_copy => k_is)
    (case l_law_copy => k_is)
    (case c_law_copy => k_is)
    (case k_law_copy => k_is)
    (case a_law_after => k_is)
    (case l_law_after => k_is)
    (case c_law_after => k_is)
    (case k_law_after => k_is)
    (case a_law_edits => k_is)
    (case l_law_edits => k_is)
    (case c_law_edits => k_is)
    (case k_law_edits => k_is)
    (case a_law_grown => k_is)
    (case l_law_grown => k_is)
    (case c_law_grown => k_is)
    (case k_law_grown => k_is)
    (case a_law_entry_at => k_is)
    (case l_law_entry_at => k_is)
    (case c_law_entry_at => k_is)
    (case k_law_entry_at => k_is)
    (case a_law_merge => k_is)
    (case l_law_merge => k_is)
    (case c_law_merge => k_is)
    (case k_law_merge => k_is)
    (case a_same_keys => k_is)
    (case l_same_keys => k_is)
    (case c_same_keys => k_is)
    (case k_same_keys => k_is)
    (case a_check_keys => k_is)
    (case l_check_keys => k_is)
    (case c_check_keys => k_is)
    (case k_check_keys => k_is)
    (case a_names_of => k_is)
    (case l_names_of => k_is)
    (case c_names_of => k_is)
    (case k_names_of => k_is)
    (case a_check_key => k_is)
    (case l_check_key => k_is)
    (case c_check_key => k_is)
    (case k_check_key => k_is)
    (case a_entry_in => k_is)
    (case l_entry_in => k_is)
    (case c_entry_in => k_is)
    (case k_entry_in => k_is)
    (case a_settled => k_is)
    (case l_settled => k_is)
    (case c_settled => k_is)
    (case k_settled => k_is)
    (case a_merge => k_is)
    (case l_merge => k_is)
    (case c_merge => k_is)
    (case k_merge => k_is)
    (case a_law_same => k_is)
    (case l_law_same => k_is)
    (case c_law_same => k_is)
    (case k_law_same => k_is)
    (case a_conflicts => k_is)
    (case l_conflicts => k_is)
    (case c_conflicts => k_is)
    (case k_conflicts => k_is)
    (case a_law_says => k_is)
    (case l_law_says => k_is)
    (case c_law_says => k_is)
    (case k_law_says => k_is)
    (case a_same_house => k_is)
    (case l_same_house => k_is)
    (case c_same_house => k_is)
    (case k_same_house => k_is)
    (case a_is_merge => k_is)
    (case l_is_merge => k_is)
    (case c_is_merge => k_is)
    (case k_is_merge => k_is)
    (case a_law_refusal => k_is)
    (case l_law_refusal => k_is)
    (case c_law_refusal => k_is)
    (case k_law_refusal => k_is)
    (case a_law => k_is)
    (case l_law => k_is)
    (case c_law => k_is)
    (case k_law => k_is)
    (case aC_Misfit => k_is)
    (case xL_Misfit => k_is)
    (case sa_Misfit => k_is)
    (case ga_Misfit => k_is)
    (case gg_Misfit => k_is)
    (case kC_Misfit => k_is)
    (case eC_Misfit => k_is)
    (case tC_Misfit => k_is)
    (case hC_Misfit => k_is)
    (case iC_Misfit => k_is)
    (case in_Misfit => k_is)
    (case ti_Misfit => k_is)
    (case l_i_Misfit => k_is)
    (case c_i_Misfit => k_is)
    (case k_i_Misfit => k_is)
    (case no_what_Misfit => k_is)
    (case no_name_Misfit => k_is)
    (case aC_Unknown => k_is)
    (case xL_Unknown => k_is)
    (case sa_Unknown => k_is)
    (case ga_Unknown => k_is)
    (case gg_Unknown => k_is)
    (case kC_Unknown => k_is)
    (case eC_Unknown => k_is)
    (case tC_Unknown => k_is)
    (case hC_Unknown => k_is)
    (case iC_Unknown => k_is)
    (case in_Unknown => k_is)
    (case ti_Unknown => k_is)
    (case l_i_Unknown => k_is)
    (case c_i_Unknown => k_is)
    (case k_i_Unknown => k_is)
    (case no_what_Unknown => k_is)
    (case no_name_Unknown => k_is)
    (case z_abs => k_is)
    (case z_all => k_is)
    (case z_bool => k_is)
    (case z_dict => k_is)
    (case z_int => k_is)
    (case z_isinstance => k_is)
    (case z_len => k_is)
    (case z_list => k_is)
    (case z_range => k_is)
    (case z_repr => k_is)
    (case z_sorted => k_is)
    (case z_tuple => k_is)
    (case s_Misfit_Misfit => first | rfl | k_is)
    (case s_Misfit_Unknown => first | rfl | k_is)
#print axioms PySem.Challenge.cw_trundleyard_k80_three_way_merges_holds

