import PyProof.Rows.All
import Wide.All
import OpenK.AllK
import Wide.FinOn
import HandS.ForMost
import HandS.Exc
import HandS.Wide
import HandS.CallSlots
import HandS.WordsExc
import HandS.Defaults
import HandS.SortInts
import HandS.RaiseMore
import PyProof.ReprRoads
import HandS.Zip
import HandS.Flow
import HandS.Style
import HandS.More
import HandS.Ends
import HandS.EndBits
import HandS.Head0
import HandS.Head1
import HandS.Head2
import HandS.HeadEnd
import HandS.HeadHook1
import HandS.HeadHook2
import PySem.Challenge.RW_everyterm_k02_divisors
set_option Elab.async false
set_option linter.all false
set_option maxRecDepth 100000
set_option maxHeartbeats 1000000
namespace SX
open PySem PySem.Spec PyProof.Rows L2

/-- deep values: tuples are data, all else that can change is a cell -/
inductive D where
  | non | bl (b : Bool) | int (i : Int) | str (x : Str) | tup (xs : List D) | ref (i : Nat) | kt (xs : List D) | kl (xs : List D)
inductive C where
  | lst (xs : List D) | ro (xs : List D) | dK (kvs : List (Key × D)) | dT (kvs : List (List Key × D))
  | ins (c : Str) (fs : List (Str × D)) | xd (fs : List (Str × D)) | lk (kvs : List (Key × D)) | lkT (kvs : List (List Key × D)) | gone
abbrev Hq := List C
abbrev Eq' := List (Option D)
inductive Rs (α : Type) where
  | ok (a : α) (G : Hq) | ex (c : Str) (i : Nat) (G : Hq) | bad
def Rs.bind {α β : Type} : Rs α → (α → Hq → Rs β) → Rs β
  | .ok a G, k => k a G
  | .ex c i G, _ => .ex c i G
  | .bad, _ => .bad
@[simp] theorem Rs.bind_ok {α β : Type} {a : α} {G : Hq} {k : α → Hq → Rs β} : (Rs.ok a G).bind k = k a G := rfl
@[simp] theorem Rs.bind_ex {α β : Type} {c : Str} {i : Nat} {G : Hq} {k : α → Hq → Rs β} : (Rs.ex c i G : Rs α).bind k = .ex c i G := rfl
@[simp] theorem Rs.bind_bad {α β : Type} {k : α → Hq → Rs β} : (Rs.bad : Rs α).bind k = .bad := rfl
abbrev EF := Eq' → Hq → Rs D
abbrev TF := Eq' → Hq → Rs Bool
abbrev AF := Eq' → Hq → Rs (List D)

/-- a list of the written part -/
def KLst (K : PySem.W.Frag) (a : Addr) (vs : List V) : Prop := ∃ (o : Obj) (its : Array Value) (n : Nat), K.lookup a = some o ∧ o.cls = .type "list" ∧ o.dict = none ∧ o.data = .seq its n ∧ its.size ≤ sizeLine ∧ Vals vs its.toList
section
variable (K : PySem.W.Frag)
mutual
inductive VR (m : List Addr) (H : Hp) : D → V → Prop
  | non : VR m H .non .non
  | bl (b : Bool) : VR m H (.bl b) (.bl b)
  | int (i : Int) : VR m H (.int i) (.int i)
  | str (x : Str) : VR m H (.str x) (.str x)
  | tup {a : Addr} {xs : List D} {vs : List V} : H a = some (.tup vs) → VRs m H xs vs → VR m H (.tup xs) (.ref a)
  | ref {i : Nat} {a : Addr} : m[i]? = some a → VR m H (.ref i) (.ref a)
  | kt {a : Addr} {xs : List D} {vs : List V} : SqT K H a vs → VRs m H xs vs → VR m H (.kt xs) (.ref a)
  | kl {a : Addr} {xs : List D} {vs : List V} : KLst K a vs → VRs m H xs vs → VR m H (.kl xs) (.ref a)
inductive VRs (m : List Addr) (H : Hp) : List D → List V → Prop
  | nil : VRs m H [] []
  | cons {x : D} {v : V} {xs : List D} {vs : List V} : VR m H x v → VRs m H xs vs → VRs m H (x :: xs) (v :: vs)
end
/-- pairs, the keys equal -/
inductive VRk {κ : Type} (m : List Addr) (H : Hp) : List (κ × D) → List (κ × V) → Prop
  | nil : VRk m H [] []
  | cons {k : κ} {x : D} {v : V} {xs : List (κ × D)} {vs : List (κ × V)} : VR K m H x v → VRk m H xs vs → VRk m H ((k, x) :: xs) ((k, v) :: vs)
def CR (m : List Addr) (H : Hp) (a : Addr) : C → Prop
  | .lst xs => ∃ vs, H a = some (.lst vs) ∧ VRs K m H xs vs
  | .ro xs => ∃ vs o, H a = some (.frz o (.lst vs)) ∧ VRs K m H xs vs
  | .dK kvs => ∃ vs, H a = some (.dK vs) ∧ VRk K m H kvs vs
  | .dT kvs => ∃ vs, H a = some (.dT vs) ∧ VRk K m H kvs vs
  | .ins _ _ => False
  | .xd fs => ∃ vs, H a = some (.xd vs) ∧ VRk K m H fs vs
  | .lk kvs => ∃ vs o, H a = some (.frz o (.dK vs)) ∧ VRk K m H kvs vs
  | .lkT kvs => ∃ vs o, H a = some (.frz o (.dT vs)) ∧ VRk K m H kvs vs
  | .gone => True
structure Sim (m : List Addr) (G : Hq) (H : Hp) : Prop where
  len : m.length = G.length
  inj : ∀ (i j : Nat) (a : Addr), m[i]? = some a → m[j]? = some a → i = j
  cell : ∀ (i : Nat) (a : Addr) (c : C), m[i]? = some a → G[i]? = some c → CR K m H a c
  trk : ∀ (i : Nat) (a : Addr), m[i]? = some a → (H a).isSome = true
structure Xw (m : List Addr) (H : Hp) (m' : List Addr) (H' : Hp) : Prop where
  pre : ∃ l, m' = m ++ l
  tup : ∀ (a : Addr) (xs : List V), H a = some (.tup xs) → H' a = some (.tup xs)
  seq : ∀ (a : Addr) (xs : List V), SqT K H a xs → SqT K H' a xs
structure Xt (m : List Addr) (H : Hp) (m' : List Addr) (H' : Hp) : Prop extends Xw K m H m' H' where
  frz : ∀ (a : Addr) (o : Obj) (u : HO), H a = some (.frz o u) → H' a = some (.frz o u)
def SR (m : List Addr) (H : Hp) (σ' : Eq') (σ : L2.St) : Prop :=
  σ'.length = σ.length ∧ ∀ (i : Nat) (d : D), σ'[i]? = some (some d) → ∃ v, σ[i]? = some (some v) ∧ VR K m H d v
end

section
variable {K : PySem.W.Frag} {m m1 m2 m' : List Addr} {H H1 H2 H' : Hp} {G G1 G2 G' : Hq} {σ' : Eq'} {σ : L2.St}
theorem Xt.refl : Xt K m H m H := ⟨⟨⟨[], (List.append_nil m).symm⟩, fun _ _ h => h, fun _ _ h => h⟩, fun _ _ _ h => h⟩
theorem Xt.trans (a : Xt K m H m1 H1) (b : Xt K m1 H1 m2 H2) : Xt K m H m2 H2 := by
  obtain ⟨l, e⟩ := a.pre
  obtain ⟨l', e'⟩ := b.pre
  exact ⟨⟨⟨l ++ l', by rw [e', e, List.append_assoc]⟩, fun c xs h => b.tup c xs (a.tup c xs h), fun c xs h => b.seq c xs (a.seq c xs h)⟩, fun c o u h => b.frz c o u (a.frz c o u h)⟩
theorem Xw.at (a : Xw K m H m1 H1) {i : Nat} {b : Addr} (h : m[i]? = some b) : m1[i]? = some b := by
  obtain ⟨l, rfl⟩ := a.pre
  obtain ⟨hi, _⟩ := List.getElem?_eq_some_iff.mp h
  rw [List.getElem?_append_left hi]
  exact h
mutual
theorem VR.monoW (e : Xw K m H m1 H1) : ∀ {d : D} {v : V}, VR K m H d v → VR K m1 H1 d v
  | _, _, .non => .non
  | _, _, .bl b => .bl b
  | _, _, .int i => .int i
  | _, _, .str x => .str x
  | _, _, .tup h r => .tup (e.tup _ _ h) (VRs.monoW e r)
  | _, _, .ref h => .ref (e.at h)
  | _, _, .kt h r => .kt (e.seq _ _ h) (VRs.monoW e r)
  | _, _, .kl h r => .kl h (VRs.monoW e r)
theorem VRs.monoW (e : Xw K m H m1 H1) : ∀ {d : List D} {v : List V}, VRs K m H d v → VRs K m1 H1 d v
  | _, _, .nil => .nil
  | _, _, .cons r t => .cons (VR.monoW e r) (VRs.monoW e t)
end
theorem VR.mono (e : Xt K m H m1 H1) {d : D} {v : V} (h : VR K m H d v) : VR K m1 H1 d v := h.monoW e.toXw
theorem VRs.mono (e : Xt K m H m1 H1) {d : List D} {v : List V} (h : VRs K m H d v) : VRs K m1 H1 d v := h.monoW e.toXw
theorem Xt.at (a : Xt K m H m1 H1) {i : Nat} {b : Addr} (h : m[i]? = some b) : m1[i]? = some b := a.toXw.at h
theorem VRk.monoW {κ : Type} (e : Xw K m H m1 H1) : ∀ {d : List (κ × D)} {v : List (κ × V)}, VRk K m H d v → VRk K m1 H1 d v
  | _, _, .nil => .nil
  | _, _, .cons r t => .cons (r.monoW e) (VRk.monoW e t)
theorem VRk.mono {κ : Type} (e : Xt K m H m1 H1) : ∀ {d : List (κ × D)} {v : List (κ × V)}, VRk K m H d v → VRk K m1 H1 d v
  | _, _, .nil => .nil
  | _, _, .cons r t => .cons (r.mono e) (VRk.mono e t)
theorem SR.mono (e : Xt K m H m1 H1) (h : SR K m H σ' σ) : SR K m1 H1 σ' σ :=
  ⟨h.1, fun i d q => let ⟨v, a, b⟩ := h.2 i d q; ⟨v, a, b.mono e⟩⟩
theorem VRs.length : ∀ {d : List D} {v : List V}, VRs K m H d v → d.length = v.length
  | _, _, .nil => rfl
  | _, _, .cons _ t => by rw [List.length_cons, List.length_cons, VRs.length t]
theorem VRs.get : ∀ {d : List D} {v : List V} {i : Nat} {x : D}, VRs K m H d v → d[i]? = some x → ∃ w, v[i]? = some w ∧ VR K m H x w
  | _, _, _, _, .nil, h => by simp at h
  | _, _, 0, _, .cons r _, h => by simp at h; subst h; exact ⟨_, rfl, r⟩
  | _, _, i + 1, _, .cons _ t, h => by
    obtain ⟨w, a, b⟩ := VRs.get (i := i) t (by simpa using h)
    exact ⟨w, by simpa using a, b⟩
theorem VRs.getV : ∀ {d : List D} {v : List V} {i : Nat} {w : V}, VRs K m H d v → v[i]? = some w → ∃ x, d[i]? = some x ∧ VR K m H x w
  | _, _, _, _, .nil, h => by simp at h
  | _, _, 0, _, .cons r _, h => by simp at h; subst h; exact ⟨_, rfl, r⟩
  | _, _, i + 1, _, .cons _ t, h => by
    obtain ⟨w, a, b⟩ := VRs.getV (i := i) t (by simpa using h)
    exact ⟨w, by simpa using a, b⟩
theorem VRs.append : ∀ {d d' : List D} {v v' : List V}, VRs K m H d v → VRs K m H d' v' → VRs K m H (d ++ d') (v ++ v')
  | _, _, _, _, .nil, q => q
  | _, _, _, _, .cons r t, q => .cons r (VRs.append t q)
theorem VRs.set : ∀ {d : List D} {v : List V} {x : D} {w : V} (i : Nat), VRs K m H d v → VR K m H x w → VRs K m H (d.set i x) (v.set i w)
  | _, _, _, _, _, .nil, _ => .nil
  | _, _, _, _, 0, .cons _ t, q => .cons q t
  | _, _, _, _, i + 1, .cons r t, q => .cons r (VRs.set i t q)
theorem VRs.take : ∀ {d : List D} {v : List V} (i : Nat), VRs K m H d v → VRs K m H (d.take i) (v.take i)
  | _, _, 0, _ => .nil
  | _, _, _ + 1, .nil => .nil
  | _, _, i + 1, .cons r t => .cons r (VRs.take i t)
theorem VRs.drop : ∀ {d : List D} {v : List V} (i : Nat), VRs K m H d v → VRs K m H (d.drop i) (v.drop i)
  | _, _, 0, r => r
  | _, _, _ + 1, .nil => .nil
  | _, _, i + 1, .cons _ t => VRs.drop i t
theorem VRs.reverse {d : List D} {v : List V} (h : VRs K m H d v) : VRs K m H d.reverse v.reverse := by
  have aux : ∀ {d : List D} {v : List V}, VRs K m H d v → ∀ {a : List D} {b : List V}, VRs K m H a b → VRs K m H (d.reverseAux a) (v.reverseAux b) := by
    intro d v h
    induction d generalizing v with
    | nil => cases h; intro a b q; exact q
    | cons x d ih =>
      cases h with
      | cons r t => intro a b q; exact ih t (.cons r q)
  exact aux h .nil

theorem Sim.idx (S : Sim K m G H) {i : Nat} {c : C} (h : G[i]? = some c) : ∃ a, m[i]? = some a := by
  obtain ⟨hi, _⟩ := List.getElem?_eq_some_iff.mp h
  exact ⟨m[i]'(by rw [S.len]; exact hi), List.getElem?_eq_getElem _⟩
/-- a cell's own words stay where its address and the tuples stay -/
theorem CR.stayW {a : Addr} {c : C} (h : CR K m H a c) (e : Xw K m H m1 H1) (ha : H1 a = H a) : CR K m1 H1 a c := by
  cases c with
  | lst xs => obtain ⟨vs, q, r⟩ := h; exact ⟨vs, ha.trans q, r.monoW e⟩
  | ro xs => obtain ⟨vs, o, q, r⟩ := h; exact ⟨vs, o, ha.trans q, r.monoW e⟩
  | dK kvs => obtain ⟨vs, q, r⟩ := h; exact ⟨vs, ha.trans q, r.monoW e⟩
  | dT kvs => obtain ⟨vs, q, r⟩ := h; exact ⟨vs, ha.trans q, r.monoW e⟩
  | ins _ _ => exact h
  | xd fs => obtain ⟨vs, q, r⟩ := h; exact ⟨vs, ha.trans q, r.monoW e⟩
  | lk kvs => obtain ⟨vs, o, q, r⟩ := h; exact ⟨vs, o, ha.trans q, r.monoW e⟩
  | lkT kvs => obtain ⟨vs, o, q, r⟩ := h; exact ⟨vs, o, ha.trans q, r.monoW e⟩
  | gone => trivial

theorem CR.stay {a : Addr} {c : C} (h : CR K m H a c) (e : Xt K m H m1 H1) (ha : H1 a = H a) : CR K m1 H1 a c := h.stayW e.toXw ha
def NoTup (H : Hp) (p : Addr) : Prop := (∀ xs, ¬ Rd H p (.tup xs)) ∧ ∀ o u, H p ≠ some (.frz o u)
theorem xt_upd {p : Addr} {o : HO} {l : List Addr} (h : NoTup H p) : Xt K m H (m ++ l) (upd H p o) := by
  refine ⟨⟨⟨l, rfl⟩, fun a xs q => ?_, fun a xs q => ?_⟩, fun a ob u q => ?_⟩
  · rw [upd_ne (fun e => h.1 xs (by rw [← e]; exact .inl q))]
    exact q
  · rcases q with q | q
    · have ne : a ≠ p := fun e => h.1 xs (by rw [← e]; exact q)
      rcases q with q | ⟨ob, q⟩
      · exact .inl (.inl (by rw [upd_ne ne]; exact q))
      · exact .inl (.inr ⟨ob, by rw [upd_ne ne]; exact q⟩)
    · exact .inr q
  · rw [upd_ne (fun e => h.2 ob u (by rw [← e]; exact q))]
    exact q
theorem noTup_none {p : Addr} (h : H p = none) : NoTup H p := by
  refine ⟨fun xs q => ?_, fun o u q => ?_⟩
  · rcases q with q | ⟨o, q⟩ <;> · rw [h] at q; cases q
  · rw [h] at q; cases q
theorem noTup_mut {p : Addr} (h : Mut (H p)) : NoTup H p := by
  refine ⟨fun xs q => ?_, fun o u q => ?_⟩
  · rcases q with q | ⟨o, q⟩ <;> · rw [q] at h; exact h
  · rw [q] at h; exact h

/-- a new tuple (or any untracked thing) at a free place -/
theorem Sim.ne {p : Addr} (S : Sim K m G H) (hp : H p = none) {i : Nat} {a : Addr} (h : m[i]? = some a) : a ≠ p := fun e => by
  have z := S.trk i a h
  rw [e, hp] at z; cases z
theorem Sim.more {p : Addr} {o : HO} (S : Sim K m G H) (hp : H p = none) : Sim K m G (upd H p o) := by
  have x : Xt K m H m (upd H p o) := by simpa using xt_upd (K := K) (m := m) (o := o) (l := []) (noTup_none hp)
  refine ⟨S.len, S.inj, fun i a c h1 h2 => (S.cell i a c h1 h2).stay x (upd_ne (S.ne hp h1)), fun i a h => ?_⟩
  rw [upd_ne (S.ne hp h)]
  exact S.trk i a h
theorem xt_more {p : Addr} {o : HO} (hp : H p = none) : Xt K m H m (upd H p o) := by
  simpa using xt_upd (K := K) (m := m) (o := o) (l := []) (noTup_none hp)
theorem xt_push {p : Addr} {o : HO} (hp : H p = none) : Xt K m H (m ++ [p]) (upd H p o) := xt_upd (noTup_none hp)
/-- a new cell -/
theorem Sim.push {p : Addr} {o : HO} {c : C} (S : Sim K m G H) (hp : H p = none) (hc : CR K (m ++ [p]) (upd H p o) p c) : Sim K (m ++ [p]) (G ++ [c]) (upd H p o) := by
  have x := xt_push (K := K) (m := m) (o := o) hp
  have old : ∀ {i : Nat} {a : Addr}, (m ++ [p])[i]? = some a → (i < m.length ∧ m[i]? = some a) ∨ (i = m.length ∧ a = p) := fun {i a} h => by
    by_cases hi : i < m.length
    · rw [List.getElem?_append_left hi] at h; exact .inl ⟨hi, h⟩
    · obtain ⟨h1, _⟩ := List.getElem?_eq_some_iff.mp h
      rw [List.length_append, List.length_singleton] at h1
      have e : i = m.length := by omega
      subst e
      rw [List.getElem?_append_right (Nat.le_refl _)] at h
      simp at h
      exact .inr ⟨rfl, h.symm⟩
  refine ⟨by simp [S.len], fun i j a h1 h2 => ?_, fun i a c' h1 h2 => ?_, fun i a h => ?_⟩
  · rcases old h1 with ⟨_, h1⟩ | ⟨h1, e1⟩ <;> rcases old h2 with ⟨_, h2⟩ | ⟨h2, e2⟩
    · exact S.inj i j a h1 h2
    · exact absurd e2 (S.ne hp h1)
    · exact absurd e1 (S.ne hp h2)
    · omega
  · rcases old h1 with ⟨hi, z1⟩ | ⟨z1, e1⟩
    · rw [List.getElem?_append_left (by rw [← S.len]; exact hi)] at h2
      exact (S.cell i a c' z1 h2).stay x (upd_ne (S.ne hp z1))
    · subst e1; subst z1
      rw [List.getElem?_append_right (by rw [S.len]; exact Nat.le_refl _)] at h2
      simp [S.len] at h2
      subst h2
      exact hc
  · rcases old h with ⟨_, h⟩ | ⟨_, e⟩
    · rw [upd_ne (S.ne hp h)]; exact S.trk i a h
    · subst e; rw [upd_same]; rfl
/-- a cell is written -/
theorem Sim.wr {i : Nat} {a : Addr} {o : HO} {c : C} (S : Sim K m G H) (hi : m[i]? = some a) (hm : Mut (H a)) (hc : CR K m (upd H a o) a c) : Sim K m (G.set i c) (upd H a o) := by
  have x : Xt K m H m (upd H a o) := by simpa using xt_upd (K := K) (m := m) (o := o) (l := []) (noTup_mut hm)
  refine ⟨by rw [List.length_set]; exact S.len, S.inj, fun j b c' h1 h2 => ?_, fun j b h => ?_⟩
  · by_cases hb : j = i
    · subst hb
      rw [hi] at h1; cases h1
      have hl : j < G.length := by
        obtain ⟨q, _⟩ := List.getElem?_eq_some_iff.mp h2
        rw [List.length_set] at q; exact q
      rw [List.getElem?_set_self hl] at h2
      cases h2
      exact hc
    · rw [List.getElem?_set_ne (Ne.symm hb)] at h2
      have ne : b ≠ a := fun e => hb (S.inj j i a (e ▸ h1) hi)
      exact (S.cell j b c' h1 h2).stay x (upd_ne ne)
  · by_cases hb : b = a
    · subst hb; rw [upd_same]; rfl
    · rw [upd_ne hb]; exact S.trk j b h
theorem xt_wr {a : Addr} {o : HO} (hm : Mut (H a)) : Xt K m H m (upd H a o) := by
  simpa using xt_upd (K := K) (m := m) (o := o) (l := []) (noTup_mut hm)
end
end SX

set_option Elab.async false
set_option linter.all false
set_option maxRecDepth 100000
set_option maxHeartbeats 1000000
namespace SX
open PySem PySem.Spec PyProof.Rows L2

/-- what is wanted of an exception: class, its dict, the heap -/
abbrev XW := Value → Option Addr → Hp → Prop
def PostR {α β : Type} (K : PySem.W.Frag) (mg : Str → Option Value) (R : List Addr → Hp → α → β → Prop) (W : XW) (m : List Addr) (H : Hp) : Rs α → (β → Hp → Prop) → Prop
  | .ok x G', Q => ∀ m' H' b, Xt K m H m' H' → Sim K m' G' H' → R m' H' x b → Q b H'
  | .ex c i G', _ => ∀ m' H' Ca a, Xt K m H m' H' → Sim K m' G' H' → mg c = some (.ref Ca) → m'[i]? = some a → W (.ref Ca) (some a) H'
  | .bad, _ => False
abbrev W0 : XW := fun _ _ _ => False
section
variable {α β γ δ : Type} {K : PySem.W.Frag} {mg : Str → Option Value} {R : List Addr → Hp → α → β → Prop} {R' : List Addr → Hp → γ → δ → Prop} {W W' : XW} {m m1 : List Addr} {H H1 : Hp} {G G1 : Hq}
theorem PostR.shift {r : Rs α} {Q : β → Hp → Prop} (h : PostR K mg R W m H r Q) (e : Xt K m H m1 H1) : PostR K mg R W m1 H1 r Q := by
  cases r with
  | ok x G' => exact fun m' H' b x s r => h m' H' b (e.trans x) s r
  | ex c i G' => exact fun m' H' Ca a x s z q => h m' H' Ca a (e.trans x) s z q
  | bad => exact h
theorem PostR.wish {r : Rs α} {Q : β → Hp → Prop} (h : PostR K mg R W m H r Q) (hw : ∀ a b c, W a b c → W' a b c) : PostR K mg R W' m H r Q := by
  cases r with
  | ok x G' => exact h
  | ex c i G' => exact fun m' H' Ca a x s z q => hw _ _ _ (h m' H' Ca a x s z q)
  | bad => exact h
theorem PostR.imp {r : Rs α} {Q Q' : β → Hp → Prop} (h : PostR K mg R W m H r Q) (hq : ∀ b H', Q b H' → Q' b H') : PostR K mg R W m H r Q' := by
  cases r with
  | ok x G' => exact fun m' H' b x s r => hq _ _ (h m' H' b x s r)
  | ex c i G' => exact h
  | bad => exact h
/-- behind the first: what is known, and the rest -/
theorem PostR.bnd {r : Rs α} {k : α → Hq → Rs γ} {Q : δ → Hp → Prop} (h : PostR K mg R' W m H (r.bind k) Q) :
    PostR K mg R W m H r fun b H1 => ∃ m1 G1 x, Xt K m H m1 H1 ∧ Sim K m1 G1 H1 ∧ R m1 H1 x b ∧ r = .ok x G1 ∧ PostR K mg R' W m1 H1 (k x G1) Q := by
  cases r with
  | ok x G' => exact fun m' H' b e s r => ⟨m', G', x, e, s, r, rfl, PostR.shift (r := k x G') h e⟩
  | ex c i G' => exact h
  | bad => exact h
theorem PostR.here {x : α} {b : β} {Q : β → Hp → Prop} (h : PostR K mg R W m H (.ok x G) Q) (S : Sim K m G H) (r : R m H x b) : Q b H := h m H b .refl S r
end

abbrev RB : List Addr → Hp → Bool → Bool → Prop := fun _ _ a b => a = b
section
variable (X : Cx) (W : L2.St → XW)
/-- an expression means f -/
def tE (f : EF) : TE := fun σ H Q => ∃ m σ' G, Sim X.K m G H ∧ SR X.K m H σ' σ ∧ PostR X.K X.mg (VR X.K) (W σ) m H (f σ' G) Q
def tT (f : TF) : TT := fun σ H Q => ∃ m σ' G, Sim X.K m G H ∧ SR X.K m H σ' σ ∧ PostR X.K X.mg RB (W σ) m H (f σ' G) Q
def tA (f : AF) : TA := fun σ H Q => ∃ m σ' G, Sim X.K m G H ∧ SR X.K m H σ' σ ∧ PostR X.K X.mg (VRs X.K) (W σ) m H (f σ' G) Q
/-- operations by values -/
def OpF (f : Value → Value → Sem Value) (g : D → D → Hq → Rs D) : Prop :=
  ∀ (pins : List (Addr × Obj)) (s : Shared) (σ : L2.St) (m : List Addr) (G : Hq) (H : Hp) (x y : D) (v w : V) (u z : Value) (Q : VK) (Wx : XW), Inv X pins σ H s → Sim X.K m G H → VR X.K m H x v → VR X.K m H y w → RelV v u → RelV w z →
    PostR X.K X.mg (VR X.K) Wx m H (g x y G) Q → wpAny (model X.prog X.w) X.A (f u z) (EP X pins σ Q) X.xe s
def UnF (f : Value → Sem Value) (g : D → Hq → Rs D) : Prop :=
  ∀ (pins : List (Addr × Obj)) (s : Shared) (σ : L2.St) (m : List Addr) (G : Hq) (H : Hp) (x : D) (v : V) (u : Value) (Q : VK) (Wx : XW), Inv X pins σ H s → Sim X.K m G H → VR X.K m H x v → RelV v u →
    PostR X.K X.mg (VR X.K) Wx m H (g x G) Q → wpAny (model X.prog X.w) X.A (f u) (EP X pins σ Q) X.xe s
def CallF (f : Value) (g : List D → Hq → Rs D) : Prop :=
  ∀ (pins : List (Addr × Obj)) (s : Shared) (σ : L2.St) (m : List Addr) (G : Hq) (H : Hp) (xs : List D) (vs : List V) (us : List Value) (Q : VK) (Wx : XW), Inv X pins σ H s → Sim X.K m G H → VRs X.K m H xs vs → Vals vs us →
    PostR X.K X.mg (VR X.K) Wx m H (g xs G) Q → wpAny (model X.prog X.w) X.A (call f us) (EP X pins σ Q) X.xe s
end

/-! ### the combinators -/
def varC (i : Nat) : EF := fun σ G => match σ[i]? with | some (some d) => .ok d G | _ => .bad
def cC (d : D) : EF := fun _ G => .ok d G
def binC (g : D → D → Hq → Rs D) (a b : EF) : EF := fun σ G => (a σ G).bind fun x G1 => (b σ G1).bind fun y G2 => g x y G2
def unC (g : D → Hq → Rs D) (a : EF) : EF := fun σ G => (a σ G).bind fun x G1 => g x G1
def nilA : AF := fun _ G => .ok [] G
def consA (a : EF) (r : AF) : AF := fun σ G => (a σ G).bind fun x G1 => (r σ G1).bind fun xs G2 => .ok (x :: xs) G2
def callC (g : List D → Hq → Rs D) (a : AF) : EF := fun σ G => (a σ G).bind fun xs G1 => g xs G1
def tupC (a : AF) : EF := fun σ G => (a σ G).bind fun xs G1 => .ok (.tup xs) G1
def lstC (a : AF) : EF := fun σ G => (a σ G).bind fun xs G1 => .ok (.ref G1.length) (G1 ++ [.lst xs])
def toB (d : D) (G : Hq) : Rs Bool := match d with | .bl b => .ok b G | _ => .bad
def valT (a : EF) : TF := fun σ G => (a σ G).bind toB
def andT (a b : TF) : TF := fun σ G => (a σ G).bind fun x G1 => if x then b σ G1 else .ok false G1
def orT (a b : TF) : TF := fun σ G => (a σ G).bind fun x G1 => if x then .ok true G1 else b σ G1
def notT (a : TF) : TF := fun σ G => (a σ G).bind fun x G1 => .ok (!x) G1
def ifC (c : TF) (a b : EF) : EF := fun σ G => (c σ G).bind fun x G1 => if x then a σ G1 else b σ G1

section
variable {X : Cx} {W : L2.St → XW} {e a b : Expr} {es : List Expr} {fa fb : EF} {ta tb : TF} {fr : AF} {pos p : Pos}
theorem SR.get {K : PySem.W.Frag} {m : List Addr} {H : Hp} {σ' : Eq'} {σ : L2.St} (h : SR K m H σ' σ) {i : Nat} {d : D} (e : σ'[i]? = some (some d)) : ∃ v, σ[i]? = some (some v) ∧ VR K m H d v := h.2 i d e
theorem xe_var (i : Nat) {x : Str} (hN : X.N[i]? = some x := by rfl) (hv : Vis X.env.scope x := by first | exact Or.inl rfl | exact Or.inr (Or.inl rfl) | exact Or.inr (Or.inr rfl)) (hd : (x == ("__debug__" : Str)) = false := by decide)
    (hcd : (x == ("__classdict__" : Str)) = false := by decide) : PE X (.Name x pos) (tE X W (varC i)) := by
  refine ⟨fun pins s σ H Q I h => (pe_var (i := i) hN hv hd hcd).run pins s σ H Q I ?_⟩
  obtain ⟨m, σ', G, S, R, h⟩ := h
  unfold varC at h
  cases e : σ'[i]? with
  | none => rw [e] at h; exact h.elim
  | some o =>
    cases o with
    | none => rw [e] at h; exact h.elim
    | some d =>
      rw [e] at h
      obtain ⟨v, ev, r⟩ := R.get e
      exact ⟨v, ev, h.here S r⟩
theorem xe_of {d : D} {v : V} (h : PE X e (tC v)) (r : ∀ m H, VR X.K m H d v) : PE X e (tE X W (cC d)) := by
  refine ⟨fun pins s σ H Q I q => h.run pins s σ H Q I ?_⟩
  obtain ⟨m, σ', G, S, R, q⟩ := q
  exact q.here S (r _ _)
theorem xe_int {i : Int} {j} : PE X (.Constant (.int i) j pos) (tE X W (cC (.int i))) := xe_of pe_int fun _ _ => .int i
theorem xe_bl {i : Bool} {j} : PE X (.Constant (.bool i) j pos) (tE X W (cC (.bl i))) := xe_of pe_bl fun _ _ => .bl i
theorem xe_non {j} : PE X (.Constant .none j pos) (tE X W (cC .non)) := xe_of pe_non fun _ _ => .non
theorem xe_str {x : Str} {j} : PE X (.Constant (.str x) j pos) (tE X W (cC (.str x))) := xe_of pe_str fun _ _ => .str x
/-- two in a row -/
theorem tE_two {g : D → D → Hq → Rs D} {σ : L2.St} {H : Hp} {Q : VK} (h : tE X W (binC g fa fb) σ H Q) :
    tE X W fa σ H fun v H1 => tE X W fb σ H1 fun w H2 => ∃ m2 G2 x y, Sim X.K m2 G2 H2 ∧ VR X.K m2 H2 x v ∧ VR X.K m2 H2 y w ∧ PostR X.K X.mg (VR X.K) (W σ) m2 H2 (g x y G2) Q := by
  obtain ⟨m, σ', G, S, R, h⟩ := h
  refine ⟨m, σ', G, S, R, (PostR.bnd (R := VR X.K) h).imp fun v H1 ⟨m1, G1, x, e1, S1, r1, _, h1⟩ => ⟨m1, σ', G1, S1, R.mono e1, (PostR.bnd (R := VR X.K) h1).imp fun w H2 ⟨m2, G2, y, e2, S2, r2, _, h2⟩ => ⟨m2, G2, x, y, S2, r1.mono e2, r2, h2⟩⟩⟩
end
end SX

set_option Elab.async false
set_option linter.all false
set_option maxRecDepth 100000
set_option maxHeartbeats 1000000
namespace SX
open PySem PySem.Spec PyProof.Rows L2

inductive Sr where
  | nx (σ : Eq') (G : Hq) | rt (d : D) (G : Hq) | bk (σ : Eq') (G : Hq) | ct (σ : Eq') (G : Hq) | ex (c : Str) (i : Nat) (σ : Eq') (G : Hq) | bad
abbrev SF := Eq' → Hq → Sr
abbrev GF := D → Eq' → Hq → Rs Eq'
def PostS (K : PySem.W.Frag) (mg : Str → Option Value) (W : L2.St → XW) (m : List Addr) (H : Hp) : Sr → Ends → Prop
  | .nx σ1 G1, D => ∀ m' H' σ, Xt K m H m' H' → Sim K m' G1 H' → SR K m' H' σ1 σ → D.nx σ H'
  | .rt d G1, D => ∀ m' H' v, Xt K m H m' H' → Sim K m' G1 H' → VR K m' H' d v → D.rt v H'
  | .bk σ1 G1, D => ∀ m' H' σ, Xt K m H m' H' → Sim K m' G1 H' → SR K m' H' σ1 σ → D.bk σ H'
  | .ct σ1 G1, D => ∀ m' H' σ, Xt K m H m' H' → Sim K m' G1 H' → SR K m' H' σ1 σ → D.ct σ H'
  | .ex c i σ1 G1, _ => ∀ m' H' σ Ca a, Xt K m H m' H' → Sim K m' G1 H' → SR K m' H' σ1 σ → mg c = some (.ref Ca) → m'[i]? = some a → W σ (.ref Ca) (some a) H'
  | .bad, _ => False
def onE {α : Type} (r : Rs α) (σ : Eq') (k : α → Hq → Sr) : Sr := match r with
  | .ok a G => k a G
  | .ex c i G => .ex c i σ G
  | .bad => .bad
@[simp] theorem onE_ok {α : Type} {a : α} {G : Hq} {σ : Eq'} {k : α → Hq → Sr} : onE (.ok a G) σ k = k a G := rfl
@[simp] theorem onE_ex {α : Type} {c : Str} {i : Nat} {G : Hq} {σ : Eq'} {k : α → Hq → Sr} : onE (.ex c i G : Rs α) σ k = .ex c i σ G := rfl
@[simp] theorem onE_bad {α : Type} {σ : Eq'} {k : α → Hq → Sr} : onE (.bad : Rs α) σ k = .bad := rfl
def onG (r : Rs Eq') (k : SF) : Sr := match r with
  | .ok σ1 G => k σ1 G
  | _ => .bad
@[simp] theorem onG_ok {a : Eq'} {G : Hq} {k : SF} : onG (.ok a G) k = k a G := rfl
@[simp] theorem onG_ex {c : Str} {i : Nat} {G : Hq} {k : SF} : onG (.ex c i G) k = .bad := rfl
@[simp] theorem onG_bad {k : SF} : onG .bad k = .bad := rfl
section
variable {α β : Type} {K : PySem.W.Frag} {mg : Str → Option Value} {R : List Addr → Hp → α → β → Prop} {W : L2.St → XW} {m m1 : List Addr} {H H1 : Hp} {σ' : Eq'} {σ : L2.St}
theorem PostS.shift {r : Sr} {D : Ends} (h : PostS K mg W m H r D) (e : Xt K m H m1 H1) : PostS K mg W m1 H1 r D := by
  cases r with
  | nx a b => exact fun m' H' σ x s r => h m' H' σ (e.trans x) s r
  | rt a b => exact fun m' H' σ x s r => h m' H' σ (e.trans x) s r
  | bk a b => exact fun m' H' σ x s r => h m' H' σ (e.trans x) s r
  | ct a b => exact fun m' H' σ x s r => h m' H' σ (e.trans x) s r
  | ex c i a b => exact fun m' H' σ Ca q x s r z y => h m' H' σ Ca q (e.trans x) s r z y
  | bad => exact h
theorem PostS.bnd {r : Rs α} {k : α → Hq → Sr} {D : Ends} (hr : SR K m H σ' σ) (h : PostS K mg W m H (onE r σ' k) D) :
    PostR K mg R (W σ) m H r fun b H1 => ∃ m1 G1 x, Xt K m H m1 H1 ∧ Sim K m1 G1 H1 ∧ R m1 H1 x b ∧ r = .ok x G1 ∧ PostS K mg W m1 H1 (k x G1) D := by
  cases r with
  | ok x G' => exact fun m' H' b e s r => ⟨m', G', x, e, s, r, rfl, PostS.shift (r := k x G') h e⟩
  | ex c i G' => exact fun m' H' Ca a e s z q => h m' H' σ Ca a e s (hr.mono e) z q
  | bad => exact h
end
section
variable (X : Cx) (W : L2.St → XW)
def tS (f : SF) : TS := fun D σ H => ∃ m σ' G, Sim X.K m G H ∧ SR X.K m H σ' σ ∧ PostS X.K X.mg W m H (f σ' G) D
def tG (g : GF) : TG := fun v σ H Q => ∃ m σ' G d, Sim X.K m G H ∧ SR X.K m H σ' σ ∧ VR X.K m H d v ∧ PostR X.K X.mg (SR X.K) W0 m H (g d σ' G) Q
def tGs (g : List D → Eq' → Hq → Rs Eq') : TGs := fun vs σ H Q => ∃ m σ' G ds, Sim X.K m G H ∧ SR X.K m H σ' σ ∧ VRs X.K m H ds vs ∧ PostR X.K X.mg (SR X.K) W0 m H (g ds σ' G) Q
/-- what the context must bear -/
structure Ctx (k : Nat) : Prop where
  calm : X.calm = true
  nd : X.N.Nodup
  hx : ∀ σ, PassesAt (L2.CX X.prog X.w) X σ (W σ)
  hp : PassesOwn (model X.prog X.w) X.A X.env X.xe
  room : Room k X.A
  gd : X.A.guards = some []
end

def setC (i : Nat) (e : EF) : SF := fun σ G => onE (e σ G) σ fun d G1 => .nx (σ.set i (some d)) G1
def asgC (e : EF) (g : GF) : SF := fun σ G => onE (e σ G) σ fun d G1 => onG (g d σ G1) fun σ1 G2 => .nx σ1 G2
def exprC (e : EF) : SF := fun σ G => onE (e σ G) σ fun _ G1 => .nx σ G1
def retC (e : EF) : SF := fun σ G => onE (e σ G) σ fun d G1 => .rt d G1
def retN : SF := fun _ G => .rt .non G
def passC : SF := fun σ G => .nx σ G
def breakC : SF := fun σ G => .bk σ G
def contC : SF := fun σ G => .ct σ G
def ifS (c : TF) (a b : SF) : SF := fun σ G => onE (c σ G) σ fun x G1 => if x then a σ G1 else b σ G1
def Sr.then (r : Sr) (k : SF) : Sr := match r with
  | .nx σ1 G1 => k σ1 G1
  | r => r
def seqC (a b : SF) : SF := fun σ G => (a σ G).then b
def augC (i : Nat) (g : D → D → Hq → Rs D) (e : EF) : SF := fun σ G => match σ[i]? with
  | some (some x) => onE (e σ G) σ fun y G1 => onE (g x y G1) σ fun z G2 => .nx (σ.set i (some z)) G2
  | _ => .bad
/-- one turn's end: on, or out -/
def Sr.turn (r : Sr) (k : SF) : Sr := match r with
  | .nx σ G => k σ G
  | .ct σ G => k σ G
  | .bk σ G => .nx σ G
  | r => r
def whileN (c : TF) (b : SF) : Nat → SF
  | 0 => fun _ _ => .bad
  | n + 1 => fun σ G => onE (c σ G) σ fun x G1 => if x then (b σ G1).turn (whileN c b n) else .nx σ G1
theorem whileN_s {c : TF} {b : SF} {n : Nat} {σ : Eq'} {G : Hq} : whileN c b (n + 1) σ G = onE (c σ G) σ fun x G1 => if x then (b σ G1).turn (whileN c b n) else .nx σ G1 := rfl
noncomputable def lim (f : Nat → Sr) : Sr := by
  classical exact if h : ∃ n, f n ≠ .bad then f (Classical.choose h) else .bad
theorem lim_eq {f : Nat → Sr} (mono : ∀ n, f n ≠ .bad → f (n + 1) = f n) {n : Nat} (h : f n ≠ .bad) : lim f = f n := by
  classical
  have up : ∀ k n, f n ≠ .bad → f (n + k) = f n := by
    intro k
    induction k with
    | zero => intro n _; rfl
    | succ k ih =>
      intro n h
      have e := ih n h
      rw [← Nat.add_assoc, mono _ (by rw [e]; exact h), e]
  have ex : ∃ n, f n ≠ .bad := ⟨n, h⟩
  unfold lim
  rw [dif_pos ex]
  have hc := Classical.choose_spec ex
  generalize Classical.choose ex = c at hc ⊢
  rcases Nat.le_total c n with hl | hl
  · obtain ⟨k, rfl⟩ := Nat.exists_eq_add_of_le hl
    exact (up k c hc).symm
  · obtain ⟨k, rfl⟩ := Nat.exists_eq_add_of_le hl
    exact up k n h
theorem lim_ex {f : Nat → Sr} (h : lim f ≠ .bad) : ∃ n, f n = lim f := by
  classical
  unfold lim at h ⊢
  split at h
  · rename_i e; rw [dif_pos e]; exact ⟨_, rfl⟩
  · exact absurd rfl h
noncomputable def whileC (c : TF) (b : SF) : SF := fun σ G => lim fun n => whileN c b n σ G
theorem Sr.turn_ne {r : Sr} {k : SF} (h : r.turn k ≠ .bad) {k' : SF} (e : ∀ σ G, k σ G ≠ .bad → k' σ G = k σ G) : r.turn k' = r.turn k := by
  cases r with
  | nx σ G => exact e σ G h
  | ct σ G => exact e σ G h
  | _ => rfl
theorem whileN_mono {c : TF} {b : SF} : ∀ n σ G, whileN c b n σ G ≠ .bad → whileN c b (n + 1) σ G = whileN c b n σ G
  | 0, _, _, h => absurd rfl h
  | n + 1, σ, G, h => by
    rw [whileN_s] at h ⊢
    rw [whileN_s]
    cases e : c σ G with
    | ok x G1 =>
      rw [e] at h
      simp only [onE_ok] at h ⊢
      cases x with
      | true =>
        simp only [if_true] at h ⊢
        exact Sr.turn_ne h (fun σ G h => whileN_mono n σ G h)
      | false => rfl
    | ex _ _ _ => rfl
    | bad => rfl
/-- the while's own equation -/
theorem whileC_eq {c : TF} {b : SF} (σ : Eq') (G : Hq) : whileC c b σ G = onE (c σ G) σ fun x G1 => if x then (b σ G1).turn (whileC c b) else .nx σ G1 := by
  have mono : ∀ σ G n, whileN c b n σ G ≠ .bad → whileN c b (n + 1) σ G = whileN c b n σ G := fun σ G n => whileN_mono n σ G
  by_cases hb : whileC c b σ G = .bad
  · rw [hb]
    -- then every turn's is bad
    have all : ∀ n, whileN c b n σ G = .bad := fun n => by
      by_cases h : whileN c b n σ G = .bad
      · exact h
      · exact absurd ((lim_eq (mono σ G) h).symm.trans hb) h
    cases e : c σ G with
    | ok x G1 =>
      simp only [onE_ok]
      cases x with
      | true =>
        simp only [if_true]
        have step : ∀ n, (b σ G1).turn (whileN c b n) = .bad := fun n => by
          have z := all (n + 1)
          rw [whileN_s, e] at z
          simpa using z
        cases eb : b σ G1 with
        | nx σ2 G2 =>
          rw [eb] at step
          show Sr.bad = whileC c b σ2 G2
          by_cases h : whileC c b σ2 G2 = .bad
          · exact h.symm
          · obtain ⟨n, hn⟩ := lim_ex h
            exact (step n).symm.trans hn
        | ct σ2 G2 =>
          rw [eb] at step
          show Sr.bad = whileC c b σ2 G2
          by_cases h : whileC c b σ2 G2 = .bad
          · exact h.symm
          · obtain ⟨n, hn⟩ := lim_ex h
            exact (step n).symm.trans hn
        | rt _ _ => rw [eb] at step; exact (step 0).symm
        | bk _ _ => rw [eb] at step; exact (step 0).symm
        | ex _ _ _ _ => rw [eb] at step; exact (step 0).symm
        | bad => rfl
      | false =>
        have z := all 1
        rw [whileN_s, e] at z
        simp at z
    | ex _ _ _ =>
      have z := all 1
      rw [whileN_s, e] at z
      cases z
    | bad => rfl
  · obtain ⟨n, hn⟩ := lim_ex hb
    have hn' : whileN c b n σ G = whileC c b σ G := hn
    cases n with
    | zero => exact absurd hn'.symm hb
    | succ n =>
      rw [← hn', whileN_s]
      rw [← hn', whileN_s] at hb
      cases e : c σ G with
      | ok x G1 =>
        rw [e] at hb
        simp only [onE_ok] at hb ⊢
        cases x with
        | true =>
          simp only [if_true] at hb ⊢
          exact (Sr.turn_ne hb fun σ G h => lim_eq (mono σ G) h).symm
        | false => rfl
      | ex _ _ _ => rfl
      | bad => rfl
/-! ### for -/
inductive Nx where
  | item (d : D) | stop | bad
abbrev Src := Nat → Hq → Nx
abbrev IF := Eq' → Hq → Rs Src
def forN (s : Src) (g : GF) (b : SF) : Nat → Nat → SF
  | 0, _ => fun _ _ => .bad
  | n + 1, k => fun σ G => match s k G with
    | .item d => onG (g d σ G) fun σ1 G1 => (b σ1 G1).turn (forN s g b n (k + 1))
    | .stop => .nx σ G
    | .bad => .bad
theorem forN_s {s : Src} {g : GF} {b : SF} {n k : Nat} {σ : Eq'} {G : Hq} : forN s g b (n + 1) k σ G = match s k G with
    | .item d => onG (g d σ G) fun σ1 G1 => (b σ1 G1).turn (forN s g b n (k + 1))
    | .stop => .nx σ G
    | .bad => .bad := rfl
noncomputable def forL (s : Src) (g : GF) (b : SF) (k : Nat) : SF := fun σ G => lim fun n => forN s g b n k σ G
noncomputable def forC (i : IF) (g : GF) (b : SF) : SF := fun σ G => onE (i σ G) σ fun s G1 => forL s g b 0 σ G1
theorem forN_mono {s : Src} {g : GF} {b : SF} : ∀ n k σ G, forN s g b n k σ G ≠ .bad → forN s g b (n + 1) k σ G = forN s g b n k σ G
  | 0, _, _, _, h => absurd rfl h
  | n + 1, k, σ, G, h => by
    rw [forN_s] at h ⊢
    rw [forN_s]
    cases e : s k G with
    | item d =>
      rw [e] at h
      simp only at h ⊢
      cases eg : g d σ G with
      | ok σ1 G1 =>
        rw [eg] at h
        simp only [onG_ok] at h ⊢
        exact Sr.turn_ne h (fun σ G h => forN_mono n (k + 1) σ G h)
      | ex _ _ _ => rfl
      | bad => rfl
    | stop => rfl
    | bad => rfl
theorem forL_eq {s : Src} {g : GF} {b : SF} (k : Nat) (σ : Eq') (G : Hq) : forL s g b k σ G = match s k G with
    | .item d => onG (g d σ G) fun σ1 G1 => (b σ1 G1).turn (forL s g b (k + 1))
    | .stop => .nx σ G
    | .bad => .bad := by
  have mono : ∀ k σ G n, forN s g b n k σ G ≠ .bad → forN s g b (n + 1) k σ G = forN s g b n k σ G := fun k σ G n => forN_mono n k σ G
  by_cases hb : forL s g b k σ G = .bad
  · rw [hb]
    have all : ∀ n, forN s g b n k σ G = .bad := fun n => by
      by_cases h : forN s g b n k σ G = .bad
      · exact h
      · exact absurd ((lim_eq (mono k σ G) h).symm.trans hb) h
    cases e : s k G with
    | item d =>
      simp only
      cases eg : g d σ G with
      | ok σ1 G1 =>
        simp only [onG_ok]
        have step : ∀ n, (b σ1 G1).turn (forN s g b n (k + 1)) = .bad := fun n => by
          have z := all (n + 1)
          rw [forN_s, e] at z
          simp only [eg, onG_ok] at z
          exact z
        cases eb : b σ1 G1 with
        | nx σ2 G2 =>
          rw [eb] at step
          show Sr.bad = forL s g b (k + 1) σ2 G2
          by_cases h : forL s g b (k + 1) σ2 G2 = .bad
          · exact h.symm
          · obtain ⟨n, hn⟩ := lim_ex h
            exact (step n).symm.trans hn
        | ct σ2 G2 =>
          rw [eb] at step
          show Sr.bad = forL s g b (k + 1) σ2 G2
          by_cases h : forL s g b (k + 1) σ2 G2 = .bad
          · exact h.symm
          · obtain ⟨n, hn⟩ := lim_ex h
            exact (step n).symm.trans hn
        | rt _ _ => rw [eb] at step; exact (step 0).symm
        | bk _ _ => rw [eb] at step; exact (step 0).symm
        | ex _ _ _ _ => rw [eb] at step; exact (step 0).symm
        | bad => rfl
      | ex _ _ _ => rfl
      | bad => rfl
    | stop =>
      have z := all 1
      rw [forN_s, e] at z
      cases z
    | bad => rfl
  · obtain ⟨n, hn⟩ := lim_ex hb
    have hn' : forN s g b n k σ G = forL s g b k σ G := hn
    cases n with
    | zero => exact absurd hn'.symm hb
    | succ n =>
      rw [← hn', forN_s]
      rw [← hn', forN_s] at hb
      cases e : s k G with
      | item d =>
        rw [e] at hb
        simp only at hb ⊢
        cases eg : g d σ G with
        | ok σ1 G1 =>
          rw [eg] at hb
          simp only [onG_ok] at hb ⊢
          exact (Sr.turn_ne hb fun σ G h => lim_eq (mono (k + 1) σ G) h).symm
        | ex _ _ _ => rfl
        | bad => rfl
      | stop => rfl
      | bad => rfl
end SX

set_option Elab.async false
set_option linter.all false
set_option maxRecDepth 100000
set_option maxHeartbeats 1000000
namespace SX
open PySem PySem.Spec PyProof.Rows L2

section
variable {X : Cx} {W : L2.St → XW} {k : Nat} {e a b : Expr} {es : List Expr} {fa fb : EF} {ta tb : TF} {fr : AF} {pos p : Pos} {st : Stmt} {sts : List Stmt} {f1 f2 : SF} {gf : GF}
theorem xe_bin {op : Operator} {g : D → D → Hq → Rs D} (ho : OpF X (binaryOp op) g) (ha : PE X a (tE X W fa)) (hb : PE X b (tE X W fb)) : PE X (.BinOp a op b pos) (tE X W (binC g fa fb)) := by
  refine ⟨fun pins s σ H Q I h => wpAny_BinOp (binT ha hb I (tE_two h) fun u z s2 v w H2 I2 rv rw_ q => ?_)⟩
  obtain ⟨m2, G2, x, y, S2, r1, r2, q⟩ := q
  exact ho pins s2 σ m2 G2 H2 x y v w u z Q (W σ) I2 S2 r1 r2 rv rw_ q
theorem tE_one {g : D → Hq → Rs D} {σ : L2.St} {H : Hp} {Q : VK} (h : tE X W (unC g fa) σ H Q) :
    tE X W fa σ H fun v H1 => ∃ m1 G1 x, Sim X.K m1 G1 H1 ∧ VR X.K m1 H1 x v ∧ PostR X.K X.mg (VR X.K) (W σ) m1 H1 (g x G1) Q := by
  obtain ⟨m, σ', G, S, R, h⟩ := h
  exact ⟨m, σ', G, S, R, (PostR.bnd (R := VR X.K) h).imp fun v H1 ⟨m1, G1, x, e1, S1, r1, _, h1⟩ => ⟨m1, G1, x, S1, r1, h1⟩⟩
theorem xe_un {op : UnaryOp} {g : D → Hq → Rs D} (ho : UnF X (unaryOp op) g) (ha : PE X a (tE X W fa)) : PE X (.UnaryOp op a pos) (tE X W (unC g fa)) := by
  refine ⟨fun pins s σ H Q I h => UnaryOp_ (thn (ha.run pins s σ H _ I (tE_one h)) fun u s1 ⟨v, H1, I1, rv, q⟩ => ?_)⟩
  obtain ⟨m1, G1, x, S1, r1, q⟩ := q
  exact ho pins s1 σ m1 G1 H1 x v u Q (W σ) I1 S1 r1 rv q
theorem xe_cmp {op : CmpOp} {g : D → D → Hq → Rs D} (ho : OpF X (compareOp op) g) (ha : PE X a (tE X W fa)) (hb : PE X b (tE X W fb)) (hm : behindInMarks op b = false) : PE X (.Compare a [op] [b] pos) (tE X W (binC g fa fb)) := by
  refine ⟨fun pins s σ H Q I h => wpAny_Compare1 (binT ha hb I (tE_two h) fun u z s2 v w H2 I2 rv rw_ q => ?_) hm⟩
  obtain ⟨m2, G2, x, y, S2, r1, r2, q⟩ := q
  exact ho pins s2 σ m2 G2 H2 x y v w u z Q (W σ) I2 S2 r1 r2 rv rw_ q
/-! arguments -/
theorem xa_nil : PA X [] (tA X W nilA) := ⟨fun ps pins s σ H Q I ⟨m, σ', G, S, R, h⟩ => pa_nil.run ps pins s σ H Q I (PostR.here (b := []) h S .nil)⟩
theorem xa_cons (ha : PE X e (tE X W fa)) (hr : PA X es (tA X W fr)) (hs : starEach (e :: es) X.env = (false, eval e X.env) :: starEach es X.env := by rfl) : PA X (e :: es) (tA X W (consA fa fr)) := by
  refine ⟨fun ps pins s σ H Q I ⟨m, σ', G, S, R, h⟩ => (pa_cons ha hr hs).run ps pins s σ H Q I ?_⟩
  refine ⟨m, σ', G, S, R, (PostR.bnd (R := VR X.K) h).imp fun v H1 ⟨m1, G1, x, e1, S1, r1, _, h1⟩ => ⟨m1, σ', G1, S1, R.mono e1, (PostR.bnd (R := VRs X.K) h1).imp fun vs H2 ⟨m2, G2, xs, e2, S2, r2, _, h2⟩ => ?_⟩⟩
  exact h2.here S2 (.cons (r1.mono e2) r2)
theorem argsLen {f : AF} {n : Nat} (h : ∀ σ G xs G', f σ G = .ok xs G' → xs.length = n) {f0 : EF} : ∀ σ G xs G', consA f0 f σ G = .ok xs G' → xs.length = n + 1 := by
  intro σ G xs G' e
  unfold consA at e
  cases e0 : f0 σ G with
  | ok x G1 =>
    rw [e0] at e
    simp only [Rs.bind_ok] at e
    cases e1 : f σ G1 with
    | ok ys G2 => rw [e1] at e; simp only [Rs.bind_ok] at e; cases e; rw [List.length_cons, h _ _ _ _ e1]
    | ex _ _ _ => rw [e1] at e; cases e
    | bad => rw [e1] at e; cases e
  | ex _ _ _ => rw [e0] at e; cases e
  | bad => rw [e0] at e; cases e
/-- how many values an argument function gives -/
def ALen (f : AF) (n : Nat) : Prop := ∀ σ G xs G', f σ G = .ok xs G' → xs.length = n
theorem aLen_nil : ALen nilA 0 := fun σ G xs G' e => by cases e; rfl
theorem aLen_cons {f : AF} {n : Nat} {f0 : EF} (h : ALen f n) : ALen (consA f0 f) (n + 1) := argsLen h
theorem xe_tup {n : Nat} {kk} (h : PA X es (tA X W fr)) (hl : ALen fr n) (hz : n ≤ sizeLine := by show _ ≤ 16777216; decide) : PE X (.Tuple es kk pos) (tE X W (tupC fr)) := by
  refine ⟨fun pins s σ H Q I ⟨m, σ', G, S, R, q⟩ => (pe_tup h).run pins s σ H Q I ?_⟩
  refine ⟨m, σ', G, S, R, (PostR.bnd (R := VRs X.K) q).imp fun vs H1 ⟨m1, G1, xs, e1, S1, r1, er, h1⟩ => ⟨by rw [← r1.length, hl _ _ _ _ er]; exact hz, fun pp hp => ?_⟩⟩
  exact h1 m1 (upd H1 pp (.tup vs)) (.ref pp) (xt_more hp) (S1.more hp) (.tup upd_same (r1.mono (xt_more hp)))
theorem xe_lst {n : Nat} (h : PA X es (tA X W fr)) (hl : ALen fr n) (hz : n ≤ sizeLine := by show _ ≤ 16777216; decide) : PE X (.List es pos) (tE X W (lstC fr)) := by
  refine ⟨fun pins s σ H Q I ⟨m, σ', G, S, R, q⟩ => (pe_lst h).run pins s σ H Q I ?_⟩
  refine ⟨m, σ', G, S, R, (PostR.bnd (R := VRs X.K) q).imp fun vs H1 ⟨m1, G1, xs, e1, S1, r1, er, h1⟩ => ⟨by rw [← r1.length, hl _ _ _ _ er]; exact hz, fun pp hp => ?_⟩⟩
  exact h1 (m1 ++ [pp]) (upd H1 pp (.lst vs)) (.ref pp) (xt_push hp) (S1.push hp ⟨vs, upd_same, r1.mono (xt_push hp)⟩) (.ref (by rw [← S1.len]; simp))
/-! tests -/
theorem xt_val (h : PE X e (tE X W fa)) (he : ∀ whole, isTrue e X.env whole = (do let v ← whole; standAt e.pos; holding [v] (truthy v)) := by intro _; rfl) : PT X e (tT X W (valT fa)) := by
  refine ⟨fun pins s σ H Q I ⟨m, σ', G, S, R, q⟩ => (pt_val h he).run pins s σ H Q I ?_⟩
  refine ⟨m, σ', G, S, R, (PostR.bnd (R := VR X.K) q).imp fun v H1 ⟨m1, G1, x, e1, S1, r1, er, h1⟩ => ?_⟩
  cases x with
  | bl c => cases r1; exact ⟨c, rfl, h1.here S1 rfl⟩
  | _ => exact h1.elim
theorem xt_cmp {op : CmpOp} (h : PE X (.Compare a [op] [b] pos) (tE X W fa)) (hc : PC X op a b (tE X W fa)) (h1 : behindInMarks op b = false) : PT X (.Compare a [op] [b] pos) (tT X W (valT fa)) := by
  refine ⟨fun pins s σ H Q I ⟨m, σ', G, S, R, q⟩ => (pt_cmp hc h1).run pins s σ H Q I ?_⟩
  refine ⟨m, σ', G, S, R, (PostR.bnd (R := VR X.K) q).imp fun v H1 ⟨m1, G1, x, e1, S1, r1, er, h1⟩ => ?_⟩
  cases x with
  | bl c => cases r1; exact ⟨c, rfl, h1.here S1 rfl⟩
  | _ => exact h1.elim
theorem xt_cmpR {op : CmpOp} {g : D → D → Hq → Rs D} (ho : OpF X (compareOp op) g) (ha : PE X a (tE X W fa)) (hb : PE X b (tE X W fb)) (hm : behindInMarks op b = false) : PT X (.Compare a [op] [b] pos) (tT X W (valT (binC g fa fb))) := by
  refine xt_cmp (xe_cmp ho ha hb hm) ⟨fun pins s σ H Q I h => binT ha hb I (tE_two h) fun u z s2 v w H2 I2 rv rw_ q => ?_⟩ hm
  obtain ⟨m2, G2, x, y, S2, r1, r2, q⟩ := q
  exact ho pins s2 σ m2 G2 H2 x y v w u z Q (W σ) I2 S2 r1 r2 rv rw_ q
theorem xw_and (ha : PT X a (tT X W ta)) (hb : PW X (.BoolOp .And (b :: es) pos) (tT X W tb)) : PW X (.BoolOp .And (a :: b :: es) pos) (tT X W (andT ta tb)) := by
  refine ⟨fun wh pins s σ H Q I ⟨m, σ', G, S, R, q⟩ => (pw_and ha hb).run wh pins s σ H Q I ?_⟩
  refine ⟨m, σ', G, S, R, (PostR.bnd (R := RB) q).imp fun x H1 ⟨m1, G1, y, e1, S1, r1, _, h1⟩ => ?_⟩
  cases r1
  cases x with
  | true => exact iteT ⟨m1, σ', G1, S1, R.mono e1, h1⟩
  | false => exact iteF (PostR.here h1 S1 rfl)
theorem xw_or (ha : PT X a (tT X W ta)) (hb : PW X (.BoolOp .Or (b :: es) pos) (tT X W tb)) : PW X (.BoolOp .Or (a :: b :: es) pos) (tT X W (orT ta tb)) := by
  refine ⟨fun wh pins s σ H Q I ⟨m, σ', G, S, R, q⟩ => (pw_or ha hb).run wh pins s σ H Q I ?_⟩
  refine ⟨m, σ', G, S, R, (PostR.bnd (R := RB) q).imp fun x H1 ⟨m1, G1, y, e1, S1, r1, _, h1⟩ => ?_⟩
  cases r1
  cases x with
  | true => exact iteT (PostR.here h1 S1 rfl)
  | false => exact iteF ⟨m1, σ', G1, S1, R.mono e1, h1⟩
theorem xw_and1 (ha : PT X a (tT X W ta)) : PW X (.BoolOp .And [a] pos) (tT X W ta) := pw_and1 ha
theorem xw_or1 (ha : PT X a (tT X W ta)) : PW X (.BoolOp .Or [a] pos) (tT X W ta) := pw_or1 ha
theorem xt_not (ha : PT X a (tT X W ta)) : PT X (.UnaryOp .Not a pos) (tT X W (notT ta)) := by
  refine ⟨fun pins s σ H Q I ⟨m, σ', G, S, R, q⟩ => (pt_not ha).run pins s σ H Q I ?_⟩
  refine ⟨m, σ', G, S, R, (PostR.bnd (R := RB) q).imp fun x H1 ⟨m1, G1, y, e1, S1, r1, _, h1⟩ => ?_⟩
  cases r1
  exact h1.here S1 rfl
theorem xe_if {c : Expr} (hc : PT X c (tT X W ta)) (ha : PE X a (tE X W fa)) (hb : PE X b (tE X W fb)) : PE X (.IfExp c a b pos) (tE X W (ifC ta fa fb)) := by
  refine ⟨fun pins s σ H Q I ⟨m, σ', G, S, R, q⟩ => (pe_ifExp hc ha hb).run pins s σ H Q I ?_⟩
  refine ⟨m, σ', G, S, R, (PostR.bnd (R := RB) q).imp fun x H1 ⟨m1, G1, y, e1, S1, r1, _, h1⟩ => ?_⟩
  cases r1
  cases x with
  | true => exact iteT ⟨m1, σ', G1, S1, R.mono e1, h1⟩
  | false => exact iteF ⟨m1, σ', G1, S1, R.mono e1, h1⟩
/-! statements -/
theorem xs_expr (he : PE X e (tE X W fa)) (hs : swapsWith e none pos.line X.env = pure false := by rfl) : PS X (.Expr e pos) (tS X W (exprC fa)) := by
  refine ⟨fun pins s σ H Dd I ⟨m, σ', G, S, R, q⟩ => (ps_expr he hs).run pins s σ H Dd I ?_⟩
  exact ⟨m, σ', G, S, R, (PostS.bnd (R := VR X.K) R q).imp fun v H1 ⟨m1, G1, x, e1, S1, r1, _, h1⟩ => h1 m1 H1 σ .refl S1 (R.mono e1)⟩
theorem xs_ret (he : PE X e (tE X W fa)) : PS X (.Return (some e) pos) (tS X W (retC fa)) := by
  refine ⟨fun pins s σ H Dd I ⟨m, σ', G, S, R, q⟩ => (ps_ret he).run pins s σ H Dd I ?_⟩
  exact ⟨m, σ', G, S, R, (PostS.bnd (R := VR X.K) R q).imp fun v H1 ⟨m1, G1, x, e1, S1, r1, _, h1⟩ => h1 m1 H1 v .refl S1 r1⟩
theorem xs_retN : PS X (.Return none pos) (tS X W retN) :=
  ⟨fun pins s σ H Dd I ⟨m, σ', G, S, R, q⟩ => ps_retN.run pins s σ H Dd I (q m H .non .refl S .non)⟩
theorem xs_pass : PS X (.Pass pos) (tS X W passC) := ⟨fun pins s σ H Dd I ⟨m, σ', G, S, R, q⟩ => ps_pass.run pins s σ H Dd I (q m H σ .refl S R)⟩
theorem xs_break : PS X (.Break pos) (tS X W breakC) := ⟨fun pins s σ H Dd I ⟨m, σ', G, S, R, q⟩ => ps_break.run pins s σ H Dd I (q m H σ .refl S R)⟩
theorem xs_cont : PS X (.Continue pos) (tS X W contC) := ⟨fun pins s σ H Dd I ⟨m, σ', G, S, R, q⟩ => ps_continue.run pins s σ H Dd I (q m H σ .refl S R)⟩
theorem xs_if {c : Expr} {s1 s2 : List Stmt} (hc : PT X c (tT X W ta)) (h1 : PSs X s1 (tS X W f1)) (h2 : PSs X s2 (tS X W f2)) : PS X (.If c s1 s2 pos) (tS X W (ifS ta f1 f2)) := by
  refine ⟨fun pins s σ H Dd I ⟨m, σ', G, S, R, q⟩ => (ps_if hc h1 h2).run pins s σ H Dd I ?_⟩
  refine ⟨m, σ', G, S, R, (PostS.bnd (R := RB) R q).imp fun x H1 ⟨m1, G1, y, e1, S1, r1, _, h1⟩ => ?_⟩
  cases r1
  cases x with
  | true => exact iteT ⟨m1, σ', G1, S1, R.mono e1, h1⟩
  | false => exact iteF ⟨m1, σ', G1, S1, R.mono e1, h1⟩
theorem xss_nil : PSs X [] (tS X W passC) := ⟨fun pins s σ H Dd I ⟨m, σ', G, S, R, q⟩ => pss_nil.run pins s σ H Dd I (q m H σ .refl S R)⟩
theorem xss_one (h : PS X st (tS X W f1)) : PSs X [st] (tS X W f1) := pss_one h
theorem xss_cons (h1 : PS X st (tS X W f1)) (h2 : PSs X sts (tS X W f2)) : PSs X (st :: sts) (tS X W (seqC f1 f2)) := by
  refine ⟨fun pins s σ H Dd I ⟨m, σ', G, S, R, q⟩ => (pss_cons h1 h2).run pins s σ H Dd I ?_⟩
  refine ⟨m, σ', G, S, R, ?_⟩
  unfold seqC at q
  cases e : f1 σ' G with
  | nx σ1 G1 => rw [e] at q; exact fun m1 H1 σ2 x S1 R1 => ⟨m1, σ1, G1, S1, R1, q.shift x⟩
  | rt d G1 => rw [e] at q; exact q
  | bk σ1 G1 => rw [e] at q; exact q
  | ct σ1 G1 => rw [e] at q; exact q
  | ex c i σ1 G1 => rw [e] at q; exact q
  | bad => rw [e] at q; exact q.elim
/-! stores -/
theorem SR.put {K : PySem.W.Frag} {m : List Addr} {H : Hp} {σ' : Eq'} {σ : L2.St} (R : SR K m H σ' σ) (i : Nat) {d : D} {v : V} (r : VR K m H d v) : SR K m H (σ'.set i (some d)) (σ.set i (some v)) := by
  refine ⟨by rw [List.length_set, List.length_set]; exact R.1, fun j x e => ?_⟩
  by_cases hj : j = i
  · subst hj
    obtain ⟨hl, _⟩ := List.getElem?_eq_some_iff.mp e
    rw [List.length_set] at hl
    rw [List.getElem?_set_self hl] at e
    cases e
    exact ⟨v, List.getElem?_set_self (by rw [← R.1]; exact hl), r⟩
  · rw [List.getElem?_set_ne (Ne.symm hj)] at e
    rw [List.getElem?_set_ne (Ne.symm hj)]
    exact R.2 j x e
theorem xs_set (i : Nat) {x : Str} {pos' : Pos} (hN : X.N.Nodup) (he : PE X e (tE X W fa)) (hi : X.N[i]? = some x := by rfl) (hx : Loc X.env.scope x := by first | exact Or.inl rfl | exact Or.inr rfl) (hs : swapsWith e (some (.Name x pos')) pos.line X.env = pure false := by rfl)
    (hf : X.fn x = true ∨ X.env.scope.names.lookup x = some .local := by first | exact .inl rfl | exact .inr rfl) : PS X (.Assign [.Name x pos'] e pos) (tS X W (setC i fa)) := by
  refine ⟨fun pins s σ H Dd I ⟨m, σ', G, S, R, q⟩ => (ps_set (i := i) hN hi hx he hs hf).run pins s σ H Dd I ?_⟩
  exact ⟨m, σ', G, S, R, (PostS.bnd (R := VR X.K) R q).imp fun v H1 ⟨m1, G1, y, e1, S1, r1, _, h1⟩ => h1 m1 H1 _ .refl S1 ((R.mono e1).put i r1)⟩
def gN (i : Nat) : GF := fun d σ G => .ok (σ.set i (some d)) G
def gNl : List D → Eq' → Hq → Rs Eq' := fun ds σ G => match ds with | [] => .ok σ G | _ => .bad
def gCs (g : GF) (r : List D → Eq' → Hq → Rs Eq') : List D → Eq' → Hq → Rs Eq' := fun ds σ G => match ds with
  | [] => .bad
  | d :: ds => (g d σ G).bind fun σ1 G1 => r ds σ1 G1
def gTp (n : Nat) (g : List D → Eq' → Hq → Rs Eq') : GF := fun d σ G => match d with
  | .tup xs => if xs.length = n then g xs σ G else .bad
  | _ => .bad
theorem xg_name (i : Nat) {x : Str} (hN : X.N.Nodup) (hi : X.N[i]? = some x := by rfl) (hx : Loc X.env.scope x := by first | exact Or.inl rfl | exact Or.inr rfl)
    (hf : X.fn x = true ∨ X.env.scope.names.lookup x = some .local := by first | exact .inl rfl | exact .inr rfl) : PG X (.Name x pos) (tG X (gN i)) := by
  refine ⟨fun pins s σ H v u Q I r ⟨m, σ', G, d, S, R, rd, q⟩ => (pg_name (i := i) hN hi hx hf).run pins s σ H v u Q I r ?_⟩
  exact q.here S (R.put i rd)
theorem xgs_nil : PGs X [] (tGs X gNl) := by
  refine ⟨fun pins s σ H vs us Q I r ⟨m, σ', G, ds, S, R, rd, q⟩ => pgs_nil.run pins s σ H vs us Q I r ?_⟩
  cases rd with
  | nil => exact ⟨rfl, q.here S R⟩
  | cons _ _ => exact q.elim
theorem xgs_cons {gr : List D → Eq' → Hq → Rs Eq'} (h1 : PG X e (tG X gf)) (h2 : PGs X es (tGs X gr)) (hs : (assignEach (e :: es) X.env).map (·.2) = assign e X.env :: (assignEach es X.env).map (·.2) := by rfl):
    PGs X (e :: es) (tGs X (gCs gf gr)) := by
  refine ⟨fun pins s σ H vs us Q I r ⟨m, σ', G, ds, S, R, rd, q⟩ => (pgs_cons h1 h2 hs).run pins s σ H vs us Q I r ?_⟩
  cases rd with
  | nil => exact q.elim
  | cons r1 rr =>
    refine ⟨_, _, rfl, m, σ', G, _, S, R, r1, (PostR.bnd (R := SR X.K) q).imp fun σ1 H1 ⟨m1, G1, y, e1, S1, R1, _, h1⟩ => ⟨m1, y, G1, _, S1, R1, rr.mono e1, h1⟩⟩
end
end SX

set_option Elab.async false
set_option linter.all false
set_option maxRecDepth 100000
set_option maxHeartbeats 1000000
namespace SX
open PySem PySem.Spec PyProof.Rows L2

/-- o[i] = v -/
def SetF (X : Cx) (g : D → D → D → Hq → Rs Unit) : Prop :=
  ∀ (pins : List (Addr × Obj)) (s : Shared) (σ : L2.St) (m : List Addr) (G : Hq) (H : Hp) (x y z : D) (v w t : V) (ov iv u : Value) (Q : Hp → Prop), Inv X pins σ H s → Sim X.K m G H → VR X.K m H x v → VR X.K m H y w → VR X.K m H z t →
    RelV v ov → RelV w iv → RelV t u → PostR X.K X.mg (fun _ _ (_ : Unit) (_ : Unit) => True) W0 m H (g x y z G) (fun _ H' => Q H') →
    wpAny (model X.prog X.w) X.A (setItem ov iv u) (fun _ s' => ∃ H', Inv X pins σ H' s' ∧ Q H') X.xe s
abbrev RU : List Addr → Hp → Unit → Unit → Prop := fun _ _ _ _ => True
def gSubC (g : D → D → D → Hq → Rs Unit) (o i : EF) : GF := fun d σ G => match o σ G with
  | .ok x G1 => match i σ G1 with
    | .ok y G2 => match g x y d G2 with
      | .ok _ G3 => .ok σ G3
      | _ => .bad
    | _ => .bad
  | _ => .bad
def onU (r : Rs Unit) (k : Hq → Sr) : Sr := match r with
  | .ok _ G => k G
  | _ => .bad
def augSubC (get : D → D → Hq → Rs D) (op : D → D → Hq → Rs D) (g : D → D → D → Hq → Rs Unit) (o i e : EF) : SF := fun σ G => onE (o σ G) σ fun x G1 => onE (i σ G1) σ fun y G2 => onE (get x y G2) σ fun old G3 => onE (e σ G3) σ fun d G4 =>
  onE (op old d G4) σ fun new G5 => onU (g x y new G5) fun G6 => .nx σ G6
section
variable {X : Cx} {W : L2.St → XW} {k : Nat} {e a b tg o i : Expr} {es : List Expr} {fa fb fo fi : EF} {ta tb : TF} {fr : AF} {pos p : Pos} {st : Stmt} {sts body : List Stmt} {f1 f2 fbd : SF} {gf : GF}
theorem xg_tup {n kk : Nat} {gr : List D → Eq' → Hq → Rs Eq'} (hc : X.calm = true) (h : PGs X es (tGs X gr)) (hn : (assignEach es X.env).length = n := by rfl) (hst : (assignEach es X.env).findIdx? (·.1) = none := by rfl) : PG X (.Tuple es kk pos) (tG X (gTp n gr)) := by
  refine ⟨fun pins s σ H v u Q I r ⟨m, σ', G, d, S, R, rd, q⟩ => (pg_tup hc h hn hst).run pins s σ H v u Q I r ?_⟩
  cases rd with
  | @tup aa xs vs hs hr =>
    by_cases hl : xs.length = n
    · refine ⟨aa, vs, rfl, SqT.of hs, by rw [← hr.length]; exact hl, m, σ', G, xs, S, R, hr, ?_⟩
      have e : gTp n gr (.tup xs) σ' G = gr xs σ' G := if_pos hl
      rw [← e]; exact q
    · have e : gTp n gr (.tup xs) σ' G = .bad := if_neg hl
      rw [e] at q; exact q.elim
  | _ => exact q.elim
theorem xs_asg (he : PE X e (tE X W fa)) (hg : PG X tg (tG X gf)) (hs : swapsWithSole [tg] e pos.line X.env = pure false := by rfl) (hw : swappedStores [tg] e X.env = pure none := by rfl)
    (h1 : (assignEach [tg] X.env).map (·.2) = [assign tg X.env] := by rfl) : PS X (.Assign [tg] e pos) (tS X W (asgC fa gf)) := by
  refine ⟨fun pins s σ H Dd I ⟨m, σ', G, S, R, q⟩ => (ps_asg he hg hs hw h1).run pins s σ H Dd I ?_⟩
  refine ⟨m, σ', G, S, R, (PostS.bnd (R := VR X.K) R q).imp fun v H1 ⟨m1, G1, x, e1, S1, r1, _, h1⟩ => ⟨m1, σ', G1, x, S1, R.mono e1, r1, ?_⟩⟩
  cases eg : gf x σ' G1 with
  | ok σ2 G2 => rw [eg] at h1; exact h1
  | ex c j G2 => rw [eg] at h1; exact h1.elim
  | bad => rw [eg] at h1; exact h1.elim
theorem xs_aug (i : Nat) {x : Str} {op : Operator} {pos' : Pos} {g : D → D → Hq → Rs D} (hN : X.N.Nodup) (ho : OpF X (inplaceOp op) g) (he : PE X e (tE X W fa)) (hi : X.N[i]? = some x := by rfl) (hx : Loc X.env.scope x := by first | exact Or.inl rfl | exact Or.inr rfl)
    (hf : X.fn x = true ∨ X.env.scope.names.lookup x = some .local := by first | exact .inl rfl | exact .inr rfl) : PS X (.AugAssign (.Name x pos') op e pos) (tS X W (augC i g fa)) := by
  have hp : PIp X op (fun v w H Q => ∃ m G d z, Sim X.K m G H ∧ VR X.K m H d v ∧ VR X.K m H z w ∧ ∃ Wx, PostR X.K X.mg (VR X.K) Wx m H (g d z G) Q) := by
    intro pins s σ H v w u z Q I r1 r2 ⟨m, G, d, z', S, h1, h2, Wx, h3⟩
    exact ho pins s σ m G H d z' v w u z Q Wx I S h1 h2 r1 r2 h3
  refine ⟨fun pins s σ H Dd I ⟨m, σ', G, S, R, q⟩ => (ps_aug (i := i) hN hi hx he hp hf).run pins s σ H Dd I ?_⟩
  unfold augC at q
  cases es : σ'[i]? with
  | none => rw [es] at q; exact q.elim
  | some o =>
    cases o with
    | none => rw [es] at q; exact q.elim
    | some d =>
      rw [es] at q
      obtain ⟨v, ev, rv⟩ := R.get es
      refine ⟨v, ev, m, σ', G, S, R, (PostS.bnd (R := VR X.K) R q).imp fun w H1 ⟨m1, G1, y, e1, S1, r1, _, h1⟩ => ⟨m1, G1, d, y, S1, rv.mono e1, r1, W σ, ?_⟩⟩
      exact (PostS.bnd (R := VR X.K) (R.mono e1) h1).imp fun t H2 ⟨m2, G2, z, e2, S2, r2, _, h2⟩ => h2 m2 H2 _ .refl S2 (((R.mono e1).mono e2).put i r2)
theorem xg_sub {g : D → D → D → Hq → Rs Unit} (hs : SetF X g) (ho : PE X o (tE X W fo)) (hi : PE X i (tE X W fi))
    (ha : ∀ v, assign (.Subscript o i pos) X.env v = (do
      let ov ← holding [v] (eval o X.env)
      let iv ← holding [v, ov] (eval i X.env)
      standAt pos
      holding [v, ov, iv] (setItem ov iv v)
      release [v, ov, iv] []) := by intro _; rfl) : PG X (.Subscript o i pos) (tG X (gSubC g fo fi)) := by
  have ps : PSet X (fun v w t H Q => ∃ m G x y z, Sim X.K m G H ∧ VR X.K m H x v ∧ VR X.K m H y w ∧ VR X.K m H z t ∧ PostR X.K X.mg RU W0 m H (g x y z G) (fun _ H' => Q H')) := by
    intro pins s σ H v w t ov iv u Q I r1 r2 r3 ⟨m, G, x, y, z, S, h1, h2, h3, h4⟩
    exact hs pins s σ m G H x y z v w t ov iv u Q I S h1 h2 h3 r1 r2 r3 h4
  refine ⟨fun pins s σ H v u Q I r ⟨m, σ', G, d, S, R, rd, q⟩ => (pg_sub ho hi ps ha).run pins s σ H v u Q I r ?_⟩
  unfold gSubC at q
  cases e1 : fo σ' G with
  | ok x G1 =>
    rw [e1] at q
    simp only at q
    refine ⟨m, σ', G, S, R, ?_⟩
    rw [e1]
    intro m1 H1 xv x1 S1 r1
    cases e2 : fi σ' G1 with
    | ok y G2 =>
      rw [e2] at q
      simp only at q
      refine ⟨m1, σ', G1, S1, R.mono x1, ?_⟩
      rw [e2]
      intro m2 H2 yv x2 S2 r2
      cases e3 : g x y d G2 with
      | ok _ G3 =>
        rw [e3] at q
        simp only at q
        refine ⟨m2, G2, x, y, d, S2, r1.mono x2, r2, (rd.mono x1).mono x2, ?_⟩
        rw [e3]
        intro m3 H3 _ x3 S3 _
        exact q m3 H3 σ ((x1.trans x2).trans x3) S3 (((R.mono x1).mono x2).mono x3)
      | ex _ _ _ => rw [e3] at q; exact q.elim
      | bad => rw [e3] at q; exact q.elim
    | ex _ _ _ => rw [e2] at q; exact q.elim
    | bad => rw [e2] at q; exact q.elim
  | ex _ _ _ => rw [e1] at q; exact q.elim
  | bad => rw [e1] at q; exact q.elim
theorem xs_augSub {op : Operator} {tpos : Pos} {get og : D → D → Hq → Rs D} {g : D → D → D → Hq → Rs Unit} (hg : OpF X getItem get) (hop : OpF X (inplaceOp op) og) (hst : SetF X g) (ho : PE X o (tE X W fo)) (hi : PE X i (tE X W fi)) (he : PE X e (tE X W fa))
    (ha : ∀ ov iv new, augStore i ov iv new = (do holding [new, ov, iv] (setItem ov iv new); release [new, ov, iv] []; pure .next) := by intros; rfl) : PS X (.AugAssign (.Subscript o i tpos) op e pos) (tS X W (augSubC get og g fo fi fa)) := by
  have ps : PSet X (fun v w t H Q => ∃ m G x y z, Sim X.K m G H ∧ VR X.K m H x v ∧ VR X.K m H y w ∧ VR X.K m H z t ∧ PostR X.K X.mg RU W0 m H (g x y z G) (fun _ H' => Q H')) := by
    intro pins s σ H v w t ov iv u Q I r1 r2 r3 ⟨m, G, x, y, z, S, h1, h2, h3, h4⟩
    exact hst pins s σ m G H x y z v w t ov iv u Q I S h1 h2 h3 r1 r2 r3 h4
  have pg : PGet X (fun v w H Q => ∃ m G d z, Sim X.K m G H ∧ VR X.K m H d v ∧ VR X.K m H z w ∧ ∃ Wx, PostR X.K X.mg (VR X.K) Wx m H (get d z G) Q) := by
    intro pins s σ H v w u z Q I r1 r2 ⟨m, G, d, z', S, h1, h2, Wx, h3⟩
    exact hg pins s σ m G H d z' v w u z Q Wx I S h1 h2 r1 r2 h3
  have hp : PIp X op (fun v w H Q => ∃ m G d z, Sim X.K m G H ∧ VR X.K m H d v ∧ VR X.K m H z w ∧ ∃ Wx, PostR X.K X.mg (VR X.K) Wx m H (og d z G) Q) := by
    intro pins s σ H v w u z Q I r1 r2 ⟨m, G, d, z', S, h1, h2, Wx, h3⟩
    exact hop pins s σ m G H d z' v w u z Q Wx I S h1 h2 r1 r2 h3
  refine ⟨fun pins s σ H Dd I ⟨m, σ', G, S, R, q⟩ => (ps_augS ho hi pg he hp ps ha).run pins s σ H Dd I ?_⟩
  refine ⟨m, σ', G, S, R, (PostS.bnd (R := VR X.K) R q).imp fun v1 H1 ⟨m1, G1, x, e1, S1, r1, _, h1⟩ => ?_⟩
  refine ⟨m1, σ', G1, S1, R.mono e1, (PostS.bnd (R := VR X.K) (R.mono e1) h1).imp fun v2 H2 ⟨m2, G2, y, e2, S2, r2, _, h2⟩ => ?_⟩
  have R2 := (R.mono e1).mono e2
  refine ⟨m2, G2, x, y, S2, r1.mono e2, r2, W σ, (PostS.bnd (R := VR X.K) R2 h2).imp fun v3 H3 ⟨m3, G3, old, e3, S3, r3, _, h3⟩ => ?_⟩
  refine ⟨m3, σ', G3, S3, R2.mono e3, (PostS.bnd (R := VR X.K) (R2.mono e3) h3).imp fun v4 H4 ⟨m4, G4, d, e4, S4, r4, _, h4⟩ => ?_⟩
  have R4 := (R2.mono e3).mono e4
  refine ⟨m4, G4, old, d, S4, r3.mono e4, r4, W σ, (PostS.bnd (R := VR X.K) R4 h4).imp fun v5 H5 ⟨m5, G5, new, e5, S5, r5, _, h5⟩ => ?_⟩
  have x5 := (e3.trans e4).trans e5
  refine ⟨m5, G5, x, y, new, S5, (r1.mono e2).mono x5, r2.mono x5, r5, ?_⟩
  cases eg : g x y new G5 with
  | ok _ G6 =>
    rw [eg] at h5
    intro m6 H6 _ e6 S6 _
    exact h5 m6 H6 σ e6 S6 ((R4.mono e5).mono e6)
  | ex c j G6 => rw [eg] at h5; exact h5.elim
  | bad => rw [eg] at h5; exact h5.elim
/-! while -/
theorem whileN_pos {c : TF} {b : SF} {D' : Ends} {K : PySem.W.Frag} {mg : Str → Option Value} {m : List Addr} {H : Hp} {σ' : Eq'} {G : Hq} (h : PostS K mg W m H (whileC c b σ' G) D') : ∃ n, PostS K mg W m H (whileN c b n σ' G) D' := by
  have nb : whileC c b σ' G ≠ .bad := fun z => by rw [z] at h; exact h
  obtain ⟨n, hn⟩ := lim_ex nb
  refine ⟨n, ?_⟩
  have : whileN c b n σ' G = whileC c b σ' G := hn
  rw [this]; exact h
theorem xs_while {c : Expr} (hp : PassesOwn (model X.prog X.w) X.A X.env X.xe) (hc : PT X c (tT X W ta)) (hb : PSs X body (tS X W fbd)) : PS X (.While c body [] pos) (tS X W (whileC ta fbd)) := by
  refine ⟨fun pins s σ H Dd I ⟨m, σ', G, S, R, q⟩ => (ps_while hp hc hb).run pins s σ H Dd I ?_⟩
  obtain ⟨n, q⟩ := whileN_pos q
  refine ⟨fun n σ H => ∃ m σ' G, Sim X.K m G H ∧ SR X.K m H σ' σ ∧ PostS X.K X.mg W m H (whileN ta fbd n σ' G) Dd, ⟨n, m, σ', G, S, R, q⟩, ?_⟩
  rintro n σ1 H1 ⟨m1, σ1', G1, S1, R1, q1⟩
  cases n with
  | zero => exact q1.elim
  | succ n =>
    refine ⟨m1, σ1', G1, S1, R1, (PostS.bnd (R := RB) R1 q1).imp fun x H2 ⟨m2, G2, y, e2, S2, r2, _, q2⟩ => ?_⟩
    cases r2
    cases x with
    | false => exact iteF (q2 m2 H2 σ1 .refl S2 (R1.mono e2))
    | true =>
      refine iteT ⟨fun σ3 H3 => ∃ m σ' G, Sim X.K m G H3 ∧ SR X.K m H3 σ' σ3 ∧ PostS X.K X.mg W m H3 (whileN ta fbd n σ' G) Dd, fun σ3 H3 z => ⟨n, by omega, z⟩, m2, σ1', G2, S2, R1.mono e2, ?_⟩
      simp only [if_true] at q2
      cases eb : fbd σ1' G2 with
      | nx σ3 G3 => rw [eb] at q2; exact fun m3 H3 s3 x3 S3 R3 => ⟨m3, σ3, G3, S3, R3, PostS.shift (r := whileN ta fbd n σ3 G3) q2 x3⟩
      | ct σ3 G3 => rw [eb] at q2; exact fun m3 H3 s3 x3 S3 R3 => ⟨m3, σ3, G3, S3, R3, PostS.shift (r := whileN ta fbd n σ3 G3) q2 x3⟩
      | bk σ3 G3 => rw [eb] at q2; exact q2
      | rt d G3 => rw [eb] at q2; exact q2
      | ex c i σ3 G3 => rw [eb] at q2; exact q2
      | bad => rw [eb] at q2; exact q2.elim
end

/-! ### for -/
/-- an iterator of the layer yields what s says -/
def ItOk (K : PySem.W.Frag) : List Addr → Hp → Src → It → Prop := fun m0 H0 s J => ∀ (k : Nat) (m : List Addr) (G : Hq) (H : Hp), Xt K m0 H0 m H → Sim K m G H → match s k G with
  | .item d => J.go k H ∧ ∀ v H', J.yld k H v H' → Xt K m H m H' ∧ Sim K m G H' ∧ VR K m H' d v
  | .stop => J.stop k H
  | .bad => True
def tI (X : Cx) (W : L2.St → XW) (f : IF) : TI := fun σ H R' => ∃ m σ' G, Sim X.K m G H ∧ SR X.K m H σ' σ ∧ PostR X.K X.mg (ItOk X.K) (W σ) m H (f σ' G) R'
section
variable {X : Cx} {W : L2.St → XW} {tg iter : Expr} {body : List Stmt} {fi : IF} {gf : GF} {fbd : SF} {pos : Pos}
theorem forL_pos {s : Src} {g : GF} {b : SF} {k : Nat} {D' : Ends} {K : PySem.W.Frag} {mg : Str → Option Value} {m : List Addr} {H : Hp} {σ' : Eq'} {G : Hq} (h : PostS K mg W m H (forL s g b k σ' G) D') : ∃ n, PostS K mg W m H (forN s g b n k σ' G) D' := by
  have nb : forL s g b k σ' G ≠ .bad := fun z => by rw [z] at h; exact h
  obtain ⟨n, hn⟩ := lim_ex nb
  refine ⟨n, ?_⟩
  have : forN s g b n k σ' G = forL s g b k σ' G := hn
  rw [this]; exact h
theorem xs_for (hp : PassesOwn (model X.prog X.w) X.A X.env X.xe) (hc : X.calm = true) (hi : PI X tg iter (tI X W fi)) (hg : PG X tg (tG X gf)) (hb : PSs X body (tS X W fbd)) (hs : ∀ x, foldedSetIterable iter X.env x = pure x := by intro _; rfl) :
    PS X (.For tg iter body [] pos) (tS X W (forC fi gf fbd)) := by
  refine ⟨fun pins s σ H Dd I ⟨m, σ', G, S, R, q⟩ => (ps_for hp hc hi hg hb hs).run pins s σ H Dd I ?_⟩
  refine ⟨m, σ', G, S, R, (PostS.bnd (R := ItOk X.K) R q).imp fun J H1 ⟨m1, G1, src, e1, S1, r1, _, q1⟩ => ?_⟩
  obtain ⟨n, q1⟩ := forL_pos q1
  refine ⟨fun k n σ H => ∃ m σ' G, Xt X.K m1 H1 m H ∧ Sim X.K m G H ∧ SR X.K m H σ' σ ∧ PostS X.K X.mg W m H (forN src gf fbd n k σ' G) Dd, ⟨n, m1, σ', G1, .refl, S1, R.mono e1, q1⟩, ?_⟩
  rintro k n σ2 H2 ⟨m2, σ2', G2, x2, S2, R2, q2⟩
  cases n with
  | zero => exact q2.elim
  | succ n =>
    have it := r1 k m2 G2 H2 x2 S2
    rw [forN_s] at q2
    cases es : src k G2 with
    | bad => rw [es] at q2; exact q2.elim
    | stop => rw [es] at q2 it; exact .inl ⟨it, q2 m2 H2 σ2 .refl S2 R2⟩
    | item d =>
      rw [es] at q2 it
      obtain ⟨go, yl⟩ := it
      refine .inr ⟨go, fun σ3 H3 => ∃ m σ' G, Xt X.K m1 H1 m H3 ∧ Sim X.K m G H3 ∧ SR X.K m H3 σ' σ3 ∧ PostS X.K X.mg W m H3 (forN src gf fbd n (k + 1) σ' G) Dd, fun σ3 H3 z => ⟨n, by omega, z⟩, fun v H3 hy => ?_⟩
      obtain ⟨x3, S3, r3⟩ := yl v H3 hy
      refine ⟨m2, σ2', G2, d, S3, R2.mono x3, r3, ?_⟩
      simp only at q2
      cases eg : gf d σ2' G2 with
      | ok σ4 G4 =>
        rw [eg] at q2
        simp only [onG_ok] at q2
        intro m4 H4 s4 x4 S4 R4
        refine ⟨m4, σ4, G4, S4, R4, ?_⟩
        have xx := (x2.trans x3).trans x4
        have q4 : PostS X.K X.mg W m4 H4 ((fbd σ4 G4).turn (forN src gf fbd n (k + 1))) Dd := PostS.shift (r := (fbd σ4 G4).turn (forN src gf fbd n (k + 1))) q2 (x3.trans x4)
        cases eb : fbd σ4 G4 with
        | nx σ5 G5 => rw [eb] at q4; exact fun m5 H5 s5 x5 S5 R5 => ⟨m5, σ5, G5, xx.trans x5, S5, R5, PostS.shift (r := forN src gf fbd n (k + 1) σ5 G5) q4 x5⟩
        | ct σ5 G5 => rw [eb] at q4; exact fun m5 H5 s5 x5 S5 R5 => ⟨m5, σ5, G5, xx.trans x5, S5, R5, PostS.shift (r := forN src gf fbd n (k + 1) σ5 G5) q4 x5⟩
        | bk σ5 G5 => rw [eb] at q4; exact q4
        | rt d5 G5 => rw [eb] at q4; exact q4
        | ex c i σ5 G5 => rw [eb] at q4; exact q4
        | bad => rw [eb] at q4; exact q4.elim
      | ex c i G4 => rw [eg] at q2; exact q2.elim
      | bad => rw [eg] at q2; exact q2.elim
end

/-! ### defs -/
abbrev FF := List D → Hq → Rs D
/-- a def's body, by its slots -/
def bodyC (n : Nat) (b : SF) : FF := fun ds G => match b (ds.map some ++ List.replicate (n - ds.length) none) G with
  | .nx _ G1 => .ok .non G1
  | .rt d G1 => .ok d G1
  | .ex c i _ G1 => .ex c i G1
  | _ => .bad
/-- the promise of a def that means f -/
def spF (K : PySem.W.Frag) (mg : Str → Option Value) (n : Nat) (f : FF) : Sp := fun vs H Q E => vs.length = n ∧ ∃ m ds G, Sim K m G H ∧ VRs K m H ds vs ∧ PostR K mg (VR K) E m H (f ds G) Q
section
variable {P : Program} {w : World} {K : PySem.W.Frag} {mg : Str → Option Value} {base : Heap}
theorem start_sr {m : List Addr} {H : Hp} {N : List Str} {ds : List D} {vs : List V} (r : VRs K m H ds vs) : SR K m H (ds.map some ++ List.replicate (N.length - ds.length) none) (L2.start N vs) := by
  have hl := r.length
  refine ⟨by simp [L2.start, hl], fun i d e => ?_⟩
  by_cases hi : i < ds.length
  · rw [List.getElem?_append_left (by simpa using hi)] at e
    rw [List.getElem?_map] at e
    cases ed : ds[i]? with
    | none => rw [ed] at e; cases e
    | some d' =>
      rw [ed] at e
      cases e
      obtain ⟨v, ev, rv⟩ := r.get ed
      refine ⟨v, ?_, rv⟩
      unfold L2.start
      rw [List.getElem?_append_left (by simpa [← hl] using hi), List.getElem?_map, ev]
      rfl
  · rw [List.getElem?_append_right (by simpa using hi)] at e
    rw [List.getElem?_replicate] at e
    split at e <;> cases e
/-- a def keeps its promise where nothing is being shown (for repr: no guard stands) -/
structure FnG (P : Program) (w : World) (K : PySem.W.Frag) (mg : Str → Option Value) (base : Heap) (k : Nat) (f : Addr) (fd : FuncData) (ps : List Str) (sp : Sp) : Prop where
  len : ∀ vs H Q E, sp vs H Q E → vs.length = ps.length
  go : ∀ (A : Around) (out : List Env) (s : Shared) (H : Hp) (args : Args) (us : List Value) (vs : List V) (Q : VK) (E : XK),
    A.guards = some [] → Room k A → Env0 P w K mg base A out s H → BindsTo s fd args (ps.zip us) → Vals vs us → sp vs H Q E → codeAny (model P w) A (.call (.ref f) args) (L2.CR (L2.CX P w) out P w H s Q E) s
theorem FnG.mono {j k : Nat} {f : Addr} {fd : FuncData} {ps : List Str} {sp : Sp} (F : FnG P w K mg base j f fd ps sp) (h : j ≤ k) : FnG P w K mg base k f fd ps sp :=
  ⟨F.len, fun A out s H args us vs Q E g r => F.go A out s H args us vs Q E g (r.mono h)⟩
theorem defOk {x qual : Str} {st : Stmt} {f : Addr} {fd : FuncData} {N ps : List Str} {k : Nat} {b : SF} {dvs : List V} {kws : List (Str × V)} (F : L2.FunD K x qual (defArgs st) (defBody st) (defScope st) dvs kws f fd) (Sc : FnScope N ps (defScope st))
    (h : ∀ (cdv : Value) (A : Around) (out : List Env) (s : Shared) (H : Hp) (E : XK),
      Ctx (cxOf (L2.CX P w) P w K mg base N qual (defScope st) f cdv A out s H E) (fun _ => E) k →
      PSs (cxOf (L2.CX P w) P w K mg base N qual (defScope st) f cdv A out s H E) (defBody st) (tS (cxOf (L2.CX P w) P w K mg base N qual (defScope st) f cdv A out s H E) (fun _ => E) b)) :
    FnG P w K mg base (k + 1) f fd ps (spF K mg ps.length (bodyC N.length b)) := by
  obtain ⟨oc, od, dV, kV, doc, pm, an, cdv, ct, osl, rfl, lk, hcd, _, _⟩ := F.ex
  refine ⟨fun vs H Q E q => q.1, fun A out s H args us vs Q E hgd hro en bt rv q => ?_⟩
  obtain ⟨hl, m, ds, G, S, r, q⟩ := q
  have kin : K.In s.heap := en.mod.kin.keeps fun c o z => (en.bs c o z).1
  have lim : s.heap.NoLimit := en.mod.nolimit.keeps fun c o z => (en.bs c o z).1
  have kinds : ∀ y ∈ ps.zip us, (defScope st).names.lookup y.1 = some .local ∨ ((defScope st).names.lookup y.1 = some .cell ∧ ((cellsFrom (s.heap.objs.size + 1) (defScope st).names []).lookup y.1).isSome = true) := by
    rintro ⟨n, v⟩ hy
    rcases Sc.par n (List.of_mem_zip hy).1 with z | z
    · exact .inl z
    · exact .inr ⟨z, PySem.W.cellsFrom_some _ _ _ (.inl z)⟩
  refine codeAny_call_function hro.depth (kin _ _ lk) rfl Sc.co Sc.gen rfl (PySem.W.codeRec_of kin hcd) (bt _ _ _ _ ?_)
  refine wpAny_newFunctionEnv_cells Sc.kind kinds fun env henv s1 ic => ?_
  subst henv
  refine ⟨lim.keeps ic.toInCall.keep, codeAny_func ?_⟩
  have I : Inv (cxOf (L2.CX P w) P w K mg base N qual (defScope st) f cdv A out s H E) [] (L2.start N vs) H s1 := inv_start Sc hro.hd en hl rv ic
  have tk : Takes (cxOf (L2.CX P w) P w K mg base N qual (defScope st) f cdv A out s H E) (fun cls d _ H => E cls d H) := takes_of rfl rfl rfl rfl
  have C : Ctx (cxOf (L2.CX P w) P w K mg base N qual (defScope st) f cdv A out s H E) (fun _ => E) k := ⟨rfl, Sc.nd, fun σ => L2.passAt tk σ, passes_of rfl, hro.deeper _, hgd⟩
  have pre : tS (cxOf (L2.CX P w) P w K mg base N qual (defScope st) f cdv A out s H E) (fun _ => E) b { nx := fun _ H1 => Q .non H1, rt := Q } (L2.start N vs) H := by
    refine ⟨m, _, G, S, start_sr (N := N) r, ?_⟩
    unfold bodyC at q
    cases eb : b (ds.map some ++ List.replicate (N.length - ds.length) none) G with
    | nx σ1 G1 => rw [eb] at q; exact fun m1 H1 s1 x1 S1 R1 => q m1 H1 .non x1 S1 .non
    | rt d G1 => rw [eb] at q; exact q
    | bk _ _ => rw [eb] at q; exact q.elim
    | ct _ _ => rw [eb] at q; exact q.elim
    | ex c i σ1 G1 => rw [eb] at q; exact fun m1 H1 s1 Ca aa x1 S1 R1 z1 z2 => q m1 H1 Ca aa x1 S1 z1 z2
    | bad => rw [eb] at q; exact q.elim
  refine wpAny_mono ((h cdv A out s H E C).run [] s1 _ H _ I pre) (fun fl s2 z => ?_) fun _ _ z => z
  cases fl with
  | ret u => obtain ⟨v, σ2, H2, J, r2, z⟩ := z; exact ⟨v, H2, J.os, J.bare, J.base, J.hok, r2, z⟩
  | next => obtain ⟨σ2, H2, J, z⟩ := z; exact ⟨.non, H2, J.os, J.bare, J.base, J.hok, rfl, z⟩
  | brk => obtain ⟨_, _, _, z⟩ := z; exact z.elim
  | cont => obtain ⟨_, _, _, z⟩ := z; exact z.elim
end
section
variable {X : Cx} {W : L2.St → XW} {k : Nat} {x : Str} {p pos : Pos} {e : Expr} {es : List Expr} {fr : AF} {ff : FF} {f : Addr} {fd : FuncData} {ps : List Str} {dvs : List D} {ds : List Value}
/-- defaults: values without cells -/
inductive DefV : D → Value → Prop
  | non : DefV .non .none
  | bl (b : Bool) : DefV (.bl b) (.bool b)
  | int (i : Int) (t : Tok) : DefV (.int i) (.int i t)
  | str (i : Str) (t : Tok) : DefV (.str i) (.str i t)
theorem defV_rel {K : PySem.W.Frag} {m : List Addr} {H : Hp} : ∀ {ds : List D} {us : List Value}, Paired DefV ds us → ∃ vs, VRs K m H ds vs ∧ Vals vs us
  | _, _, .nil => ⟨[], .nil, .nil⟩
  | _, _, .cons r t => by
    obtain ⟨vs, h1, h2⟩ := defV_rel t
    cases r with
    | non => exact ⟨.non :: vs, .cons .non h1, .cons rfl h2⟩
    | bl b => exact ⟨.bl b :: vs, .cons (.bl b) h1, .cons rfl h2⟩
    | int i t => exact ⟨.int i :: vs, .cons (.int i) h1, .cons ⟨t, rfl⟩ h2⟩
    | str i t => exact ⟨.str i :: vs, .cons (.str i) h1, .cons ⟨t, rfl⟩ h2⟩
def fnC (ff : FF) (dvs : List D) (a : AF) : EF := fun σ G => (a σ G).bind fun xs G1 => ff (xs ++ dvs) G1
/-- the callee runs -/
theorem run_G {pins : List (Addr × Obj)} {σ : L2.St} {H : Hp} {s : Shared} {Q : VK} {us : List Value} {vs vs0 : List V} {sp : Sp} (C : Ctx X W k) (F : FnG X.prog X.w X.K X.mg X.base k f fd ps sp) (hb : Binds X.K fd ps ds) (hd : Vals vs0 ds)
    (I : Inv X pins σ H s) (r : Vals vs us) (h : sp (vs ++ vs0) H Q (W σ)) : wpAny (model X.prog X.w) X.A (call (.ref f) us) (EP X pins σ Q) X.xe s := by
  have rr : Vals (vs ++ vs0) (us ++ ds) := Vals.append r hd
  have hl : (us ++ ds).length = ps.length := rr.length.symm.trans (F.len _ _ _ _ h)
  refine wpAny_call (codeAny_mono (F.go X.A X.stack s H ⟨us, []⟩ _ _ Q (W σ) C.gd C.room I.env0 (hb s us I.kIn hl) rr h) ?_)
  intro res s2 z
  match res, z with
  | .error e, z => exact C.hx σ pins H s e s2 I z
  | .ok (.ret u), z => exact I.after z
  | .ok .next, z => exact z.elim
  | .ok .brk, z => exact z.elim
  | .ok .cont, z => exact z.elim
theorem xe_call {n : Nat} (C : Ctx X W k) (F : FnG X.prog X.w X.K X.mg X.base k f fd ps (spF X.K X.mg ps.length ff)) (hm : X.mg x = some (.ref f)) (hk : PySem.W.keepIn X.K (.ref f) = true) (hb : Binds X.K fd ps ds) (hd : Paired DefV dvs ds)
    (ha : PA X (e :: es) (tA X W fr)) (hl : ALen fr n) (hn : n + dvs.length = ps.length := by rfl) (hg : Gl X x := by rfl) (hdb : (x == ("__debug__" : Str)) = false := by decide) (he : starEach (e :: es) X.env = (false, eval e X.env) :: starEach es X.env := by rfl) (hpl : (backTo pos (starEach es X.env)).any (·.1) = false := by rfl) :
    PE X (.Call (.Name x p) (e :: es) [] pos) (tE X W (fnC ff dvs fr)) := by
  refine ⟨fun pins s σ H Q I ⟨m, σ', G, S, R, q⟩ => wpAny_Call_Name_kw (ld_glob I hg hm ?_ hdb)⟩
  have q' : tA X W fr σ H fun vs H1 => ∃ vs0, Vals vs0 ds ∧ spF X.K X.mg ps.length ff (vs ++ vs0) H1 Q (W σ) := by
    refine ⟨m, σ', G, S, R, (PostR.bnd (R := VRs X.K) q).imp fun vs H1 ⟨m1, G1, xs, e1, S1, r1, er, h1⟩ => ?_⟩
    obtain ⟨vs0, r0, hv0⟩ := defV_rel (K := X.K) (m := m1) (H := H1) hd
    have rr := r1.append r0
    refine ⟨vs0, hv0, ?_, m1, xs ++ dvs, G1, S1, rr, h1⟩
    rw [← rr.length, List.length_append, hl _ _ _ _ er]
    exact hn
  refine PySem.W.callWith_K (h₀ := X.base) I.ok.mod.kin hk (thn (ha.run pos pins s σ H _ I q') fun us s1 z => ?_) he hpl
  obtain ⟨vs, H1, I1, r, vs0, hv0, z⟩ := z
  exact ⟨I1.kIn, run_G C F hb hv0 I1 r z⟩
theorem xe_call0 (C : Ctx X W k) (F : FnG X.prog X.w X.K X.mg X.base k f fd ps (spF X.K X.mg ps.length ff)) (hm : X.mg x = some (.ref f)) (hk : PySem.W.keepIn X.K (.ref f) = true) (hb : Binds X.K fd ps ds) (hd : Paired DefV dvs ds)
    (hn : dvs.length = ps.length := by rfl) (hg : Gl X x := by rfl) (hdb : (x == ("__debug__" : Str)) = false := by decide) : PE X (.Call (.Name x p) [] [] pos) (tE X W (fnC ff dvs nilA)) := by
  refine ⟨fun pins s σ H Q I ⟨m, σ', G, S, R, q⟩ => wpAny_Call_Name_kw (ld_glob I hg hm ?_ hdb)⟩
  obtain ⟨vs0, r0, hv0⟩ := defV_rel (K := X.K) (m := m) (H := H) hd
  refine PySem.W.callWith_K0 I.kIn hk (run_G (us := []) (vs := []) C F hb hv0 I .nil ⟨?_, m, dvs, G, S, r0, q⟩)
  show ([] ++ vs0).length = _
  rw [List.nil_append, ← r0.length]
  exact hn
/-- a call of a builtin function, of a builtin class -/
theorem xe_callB {id : String} {g : List D → Hq → Rs D} (hc : CallF X (.builtin id) g) (hm : X.mg x = none) (ha : PA X (e :: es) (tA X W fr)) (hv : bootBuiltins x = some (.builtin id) := by decide +kernel) (hg : Gl X x := by rfl) (hn : x ≠ "__name__" := by decide) (hdb : (x == ("__debug__" : Str)) = false := by decide)
    (he : starEach (e :: es) X.env = (false, eval e X.env) :: starEach es X.env := by rfl) (hpl : (backTo pos (starEach es X.env)).any (·.1) = false := by rfl) : PE X (.Call (.Name x p) (e :: es) [] pos) (tE X W (callC g fr)) := by
  have cr : CallR X (.builtin id) (fun vs H Q => ∃ m G xs, Sim X.K m G H ∧ VRs X.K m H xs vs ∧ ∃ Wx, PostR X.K X.mg (VR X.K) Wx m H (g xs G) Q) := by
    intro pins s σ H vs us Q I r ⟨m, G, xs, S, h1, Wx, h2⟩
    exact hc pins s σ m G H xs vs us Q Wx I S h1 r h2
  refine ⟨fun pins s σ H Q I ⟨m, σ', G, S, R, q⟩ => (pe_callB cr hg hm hv ha hn hdb he hpl).run pins s σ H Q I ?_⟩
  exact ⟨m, σ', G, S, R, (PostR.bnd (R := VRs X.K) q).imp fun vs H1 ⟨m1, G1, xs, e1, S1, r1, er, h1⟩ => ⟨m1, G1, xs, S1, r1, W σ, h1⟩⟩
theorem xe_callT {id : String} {g : List D → Hq → Rs D} (hc : CallF X (.type id) g) (hm : X.mg x = none) (ha : PA X (e :: es) (tA X W fr)) (hv : bootBuiltins x = some (.type id) := by decide +kernel) (hg : Gl X x := by rfl) (hn : x ≠ "__name__" := by decide) (hdb : (x == ("__debug__" : Str)) = false := by decide)
    (he : starEach (e :: es) X.env = (false, eval e X.env) :: starEach es X.env := by rfl) (hpl : (backTo pos (starEach es X.env)).any (·.1) = false := by rfl) : PE X (.Call (.Name x p) (e :: es) [] pos) (tE X W (callC g fr)) := by
  have cr : CallR X (.type id) (fun vs H Q => ∃ m G xs, Sim X.K m G H ∧ VRs X.K m H xs vs ∧ ∃ Wx, PostR X.K X.mg (VR X.K) Wx m H (g xs G) Q) := by
    intro pins s σ H vs us Q I r ⟨m, G, xs, S, h1, Wx, h2⟩
    exact hc pins s σ m G H xs vs us Q Wx I S h1 r h2
  refine ⟨fun pins s σ H Q I ⟨m, σ', G, S, R, q⟩ => (pe_callTy cr hg hm hv ha hn hdb he hpl).run pins s σ H Q I ?_⟩
  exact ⟨m, σ', G, S, R, (PostR.bnd (R := VRs X.K) q).imp fun vs H1 ⟨m1, G1, xs, e1, S1, r1, er, h1⟩ => ⟨m1, G1, xs, S1, r1, W σ, h1⟩⟩
end
end SX

set_option Elab.async false
set_option linter.all false
set_option maxRecDepth 100000
set_option maxHeartbeats 1000000
namespace SX
open PySem PySem.Spec PyProof.Rows L2

/-! ### comprehensions -/
def wipeD (σ : Eq') : List Nat → Eq'
  | [] => σ
  | v :: vs => (wipeD σ vs).set v none
/-- into the list at p -/
def appAt (p : Nat) (d : D) (G : Hq) : Option Hq := match G[p]? with
  | some (.lst acc) => if acc.length < 16777216 then some (G.set p (.lst (acc ++ [d]))) else none
  | _ => none
/-- what a comprehension's turn makes, over the heap alone -/
abbrev Cr := Option Hq
def lcTurn (g : GF) (t : TF) (e : EF) (σ0 : Eq') (p : Nat) (d : D) (G : Hq) : Cr := match g d σ0 G with
  | .ok σ1 G1 => match t σ1 G1 with
    | .ok true G2 => match e σ1 G2 with
      | .ok y G3 => appAt p y G3
      | _ => none
    | .ok false G2 => some G2
    | _ => none
  | _ => none
/-- over the turns, by a turn's function -/
def lcN (s : Src) (turn : D → Hq → Cr) : Nat → Nat → Hq → Cr
  | 0, _, _ => none
  | n + 1, k, G => match s k G with
    | .item d => (turn d G).bind (lcN s turn n (k + 1))
    | .stop => some G
    | .bad => none
noncomputable def limO (f : Nat → Cr) : Cr := by
  classical exact if h : ∃ n, f n ≠ none then f (Classical.choose h) else none
theorem limO_eq {f : Nat → Cr} (mono : ∀ n, f n ≠ none → f (n + 1) = f n) {n : Nat} (h : f n ≠ none) : limO f = f n := by
  classical
  have up : ∀ k n, f n ≠ none → f (n + k) = f n := by
    intro k
    induction k with
    | zero => intro n _; rfl
    | succ k ih =>
      intro n h
      have e := ih n h
      rw [← Nat.add_assoc, mono _ (by rw [e]; exact h), e]
  have ex : ∃ n, f n ≠ none := ⟨n, h⟩
  unfold limO
  rw [dif_pos ex]
  have hc := Classical.choose_spec ex
  generalize Classical.choose ex = c at hc ⊢
  rcases Nat.le_total c n with hl | hl
  · obtain ⟨k, rfl⟩ := Nat.exists_eq_add_of_le hl
    exact (up k c hc).symm
  · obtain ⟨k, rfl⟩ := Nat.exists_eq_add_of_le hl
    exact up k n h
theorem limO_ex {f : Nat → Cr} (h : limO f ≠ none) : ∃ n, f n = limO f := by
  classical
  unfold limO at h ⊢
  split at h
  · rename_i e; rw [dif_pos e]; exact ⟨_, rfl⟩
  · exact absurd rfl h
noncomputable def lcL (s : Src) (turn : D → Hq → Cr) (k : Nat) (G : Hq) : Cr := limO fun n => lcN s turn n k G
theorem lcN_s {s : Src} {turn : D → Hq → Cr} {n k : Nat} {G : Hq} : lcN s turn (n + 1) k G = match s k G with
    | .item d => (turn d G).bind (lcN s turn n (k + 1))
    | .stop => some G
    | .bad => none := rfl
theorem lcN_mono {s : Src} {turn : D → Hq → Cr} : ∀ n k G, lcN s turn n k G ≠ none → lcN s turn (n + 1) k G = lcN s turn n k G
  | 0, _, _, h => absurd rfl h
  | n + 1, k, G, h => by
    rw [lcN_s] at h ⊢
    rw [lcN_s]
    cases e : s k G with
    | item d =>
      rw [e] at h
      simp only at h ⊢
      cases et : turn d G with
      | none => rfl
      | some G1 =>
        rw [et] at h
        exact lcN_mono n (k + 1) G1 h
    | stop => rfl
    | bad => rfl
theorem lcL_eq {s : Src} {turn : D → Hq → Cr} (k : Nat) (G : Hq) : lcL s turn k G = match s k G with
    | .item d => (turn d G).bind (lcL s turn (k + 1))
    | .stop => some G
    | .bad => none := by
  have mono : ∀ k G n, lcN s turn n k G ≠ none → lcN s turn (n + 1) k G = lcN s turn n k G := fun k G n => lcN_mono n k G
  by_cases hb : lcL s turn k G = none
  · rw [hb]
    have all : ∀ n, lcN s turn n k G = none := fun n => by
      by_cases h : lcN s turn n k G = none
      · exact h
      · exact absurd ((limO_eq (mono k G) h).symm.trans hb) h
    cases e : s k G with
    | item d =>
      simp only
      cases et : turn d G with
      | none => rfl
      | some G1 =>
        have step : ∀ n, lcN s turn n (k + 1) G1 = none := fun n => by
          have z := all (n + 1)
          rw [lcN_s, e] at z
          simp only [et] at z
          exact z
        show none = lcL s turn (k + 1) G1
        by_cases h : lcL s turn (k + 1) G1 = none
        · exact h.symm
        · obtain ⟨n, hn⟩ := limO_ex h
          exact (step n).symm.trans hn
    | stop =>
      have z := all 1
      rw [lcN_s, e] at z
      cases z
    | bad => rfl
  · obtain ⟨n, hn⟩ := limO_ex hb
    have hn' : lcN s turn n k G = lcL s turn k G := hn
    cases n with
    | zero => exact absurd hn'.symm hb
    | succ n =>
      rw [← hn', lcN_s]
      rw [← hn', lcN_s] at hb
      cases e : s k G with
      | item d =>
        rw [e] at hb
        simp only at hb ⊢
        cases et : turn d G with
        | none => rfl
        | some G1 =>
          rw [et] at hb
          exact (limO_eq (mono (k + 1) G1) hb).symm
      | stop => rfl
      | bad => rfl
def ofCr (r : Cr) (d : D) : Rs D := match r with
  | some G => .ok d G
  | none => .bad
/-- [e for g in i if t]; vs: the block's slots -/
noncomputable def lcC (i : IF) (g : GF) (t : TF) (e : EF) (vs : List Nat) : EF := fun σ G => (i σ G).bind fun s G1 =>
  ofCr (lcL s (lcTurn g t e (wipeD σ vs) G1.length) 0 (G1 ++ [.lst []])) (.ref G1.length)
def yesT : TF := fun _ G => .ok true G
theorem wipe_sr {K : PySem.W.Frag} {m : List Addr} {H : Hp} {σ' : Eq'} {σ : L2.St} (R : SR K m H σ' σ) : ∀ vs : List Nat, SR K m H (wipeD σ' vs) (wipe σ vs)
  | [] => R
  | v :: vs => by
    have ih := wipe_sr R vs
    refine ⟨by rw [wipeD, wipe, List.length_set, List.length_set]; exact ih.1, fun j x e => ?_⟩
    rw [wipeD] at e
    rw [wipe]
    by_cases hj : j = v
    · subst hj
      obtain ⟨hl, _⟩ := List.getElem?_eq_some_iff.mp e
      rw [List.length_set] at hl
      rw [List.getElem?_set_self hl] at e
      cases e
    · rw [List.getElem?_set_ne (Ne.symm hj)] at e ⊢
      exact ih.2 j x e
theorem wipe_set {x : Option V} {i : Nat} : ∀ {vs : List Nat} {σ : L2.St}, i ∈ vs → wipe (σ.set i x) vs = wipe σ vs
  | v :: vs, σ, h => by
    rw [wipe, wipe]
    by_cases hv : i ∈ vs
    · rw [wipe_set hv]
    · have e : i = v := by
        rcases List.mem_cons.mp h with e | e
        · exact e
        · exact absurd e hv
      subst e
      have out : ∀ {vs : List Nat} {σ : L2.St}, i ∉ vs → wipe (σ.set i x) vs = (wipe σ vs).set i x := by
        intro vs
        induction vs with
        | nil => intro σ _; rfl
        | cons u us ih =>
          intro σ h
          simp only [List.mem_cons, not_or] at h
          rw [wipe, wipe, ih h.2]
          exact List.set_comm _ _ h.1
      rw [out hv, List.set_set]
theorem wipe_wipe (σ : L2.St) (vs : List Nat) : wipe (wipe σ vs) vs = wipe σ vs := by
  have aux : ∀ us : List Nat, (∀ u ∈ us, u ∈ vs) → wipe (wipe σ us) vs = wipe σ vs := by
    intro us
    induction us with
    | nil => intro _; rfl
    | cons u us ih =>
      intro h
      rw [show wipe σ (u :: us) = (wipe σ us).set u none from rfl, wipe_set (h u List.mem_cons_self)]
      exact ih fun w hw => h w (List.mem_cons_of_mem _ hw)
  exact aux vs fun u h => h
section
variable (X : Cx) (vs : List Nat)
/-- a target that stores in the block's own slots -/
def tGw (g : GF) : TG := fun v σ H Q => ∃ m σ' G d, Sim X.K m G H ∧ SR X.K m H σ' σ ∧ VR X.K m H d v ∧ PostR X.K X.mg (fun m H a b => SR X.K m H a b ∧ wipe b vs = wipe σ vs) W0 m H (g d σ' G) Q
def tGsw (g : List D → Eq' → Hq → Rs Eq') : TGs := fun ws σ H Q => ∃ m σ' G ds, Sim X.K m G H ∧ SR X.K m H σ' σ ∧ VRs X.K m H ds ws ∧ PostR X.K X.mg (fun m H a b => SR X.K m H a b ∧ wipe b vs = wipe σ vs) W0 m H (g ds σ' G) Q
end
section
variable {X : Cx} {vs : List Nat} {e : Expr} {es : List Expr} {gf : GF} {pos : Pos}
theorem xgw_name (i : Nat) {x : Str} (hN : X.N.Nodup) (hiv : i ∈ vs := by decide) (hi : X.N[i]? = some x := by rfl) (hx : Loc X.env.scope x := by first | exact Or.inl rfl | exact Or.inr rfl)
    (hf : X.fn x = true ∨ X.env.scope.names.lookup x = some .local := by first | exact .inl rfl | exact .inr rfl) : PG X (.Name x pos) (tGw X vs (gN i)) := by
  refine ⟨fun pins s σ H v u Q I r ⟨m, σ', G, d, S, R, rd, q⟩ => (pg_name (i := i) hN hi hx hf).run pins s σ H v u Q I r ?_⟩
  exact q.here S ⟨R.put i rd, wipe_set hiv⟩
theorem xgsw_nil : PGs X [] (tGsw X vs gNl) := by
  refine ⟨fun pins s σ H ws us Q I r ⟨m, σ', G, ds, S, R, rd, q⟩ => pgs_nil.run pins s σ H ws us Q I r ?_⟩
  cases rd with
  | nil => exact ⟨rfl, q.here S ⟨R, rfl⟩⟩
  | cons _ _ => exact q.elim
theorem xgsw_cons {gr : List D → Eq' → Hq → Rs Eq'} (h1 : PG X e (tGw X vs gf)) (h2 : PGs X es (tGsw X vs gr)) (hs : (assignEach (e :: es) X.env).map (·.2) = assign e X.env :: (assignEach es X.env).map (·.2) := by rfl) :
    PGs X (e :: es) (tGsw X vs (gCs gf gr)) := by
  refine ⟨fun pins s σ H ws us Q I r ⟨m, σ', G, ds, S, R, rd, q⟩ => (pgs_cons h1 h2 hs).run pins s σ H ws us Q I r ?_⟩
  cases rd with
  | nil => exact q.elim
  | cons r1 rr =>
    refine ⟨_, _, rfl, m, σ', G, _, S, R, r1, ?_⟩
    refine (PostR.bnd (R := fun m H a b => SR X.K m H a b ∧ wipe b vs = wipe σ vs) q).imp fun σ1 H1 ⟨m1, G1, y, e1, S1, ⟨R1, w1⟩, _, h1⟩ => ⟨m1, y, G1, _, S1, R1, rr.mono e1, ?_⟩
    rw [w1]
    exact h1
theorem xgw_tup {n kk : Nat} {gr : List D → Eq' → Hq → Rs Eq'} (hc : X.calm = true) (h : PGs X es (tGsw X vs gr)) (hn : (assignEach es X.env).length = n := by rfl) (hst : (assignEach es X.env).findIdx? (·.1) = none := by rfl) : PG X (.Tuple es kk pos) (tGw X vs (gTp n gr)) := by
  refine ⟨fun pins s σ H v u Q I r ⟨m, σ', G, d, S, R, rd, q⟩ => (pg_tup hc h hn hst).run pins s σ H v u Q I r ?_⟩
  cases rd with
  | @tup aa xs ws hs hr =>
    by_cases hl : xs.length = n
    · refine ⟨aa, ws, rfl, SqT.of hs, by rw [← hr.length]; exact hl, m, σ', G, xs, S, R, hr, ?_⟩
      have e : gTp n gr (.tup xs) σ' G = gr xs σ' G := if_pos hl
      rw [← e]; exact q
    · have e : gTp n gr (.tup xs) σ' G = .bad := if_neg hl
      rw [e] at q; exact q.elim
  | _ => exact q.elim
end
section
variable {X : Cx} {W : L2.St → XW} {elt tg iter : Expr} {ifs : List Expr} {fi : IF} {gf : GF} {tf : TF} {ef : EF} {scope : Scope} {own : List (Str × Nat)} {pos : Pos}
theorem lcL_pos {s : Src} {turn : D → Hq → Cr} {k : Nat} {G G' : Hq} (h : lcL s turn k G = some G') : ∃ n, lcN s turn n k G = some G' := by
  have nb : lcL s turn k G ≠ none := fun z => by rw [z] at h; cases h
  obtain ⟨n, hn⟩ := limO_ex nb
  exact ⟨n, (show lcN s turn n k G = lcL s turn k G from hn).trans h⟩
theorem app_sim {K : PySem.W.Frag} {m : List Addr} {G G' : Hq} {H : Hp} {p : Nat} {a : Addr} {y : D} {v : V} (S : Sim K m G H) (ha : m[p]? = some a) (r : VR K m H y v) (e : appAt p y G = some G') :
    ∃ acc, H a = some (.lst acc) ∧ acc.length < sizeLine ∧ Sim K m G' (upd H a (.lst (acc ++ [v]))) ∧ Xt K m H m (upd H a (.lst (acc ++ [v]))) := by
  unfold appAt at e
  split at e
  · rename_i acc hg
    obtain ⟨ws, hw, rw_⟩ := S.cell p a _ ha hg
    split at e
    · rename_i hz
      cases e
      have hm : Mut (H a) := by rw [hw]; trivial
      have xx : Xt K m H m (upd H a (.lst (ws ++ [v]))) := xt_wr hm
      refine ⟨ws, hw, by rw [← rw_.length]; show _ < 16777216; exact hz, S.wr ha hm ⟨_, upd_same, ?_⟩, xx⟩
      exact (rw_.mono xx).append (.cons (r.mono xx) .nil)
    · cases e
  · cases e
/-- the reading of a comprehension -/
theorem lc_read {σ : L2.St} {H : Hp} {Q : VK} {vs : List Nat} (h : tE X W (lcC fi gf tf ef vs) σ H Q) :
    tLc (tI X W fi) (tGw X vs gf) (tT X (fun _ => W0) tf) (tE X (fun _ => W0) ef) vs σ H Q := by
  obtain ⟨m, σ', G, S, R, q⟩ := h
  refine ⟨m, σ', G, S, R, (PostR.bnd (R := ItOk X.K) q).imp fun J H1 ⟨m1, G1, src, x1, S1, it, _, q1⟩ => fun a hD => ?_⟩
  cases el : lcL src (lcTurn gf tf ef (wipeD σ' vs) G1.length) 0 (G1 ++ [.lst []]) with
  | none => rw [el] at q1; exact q1.elim
  | some Gz =>
    rw [el] at q1
    obtain ⟨n, hn⟩ := lcL_pos el
    have x2 : Xt X.K m1 H1 (m1 ++ [a]) (upd H1 a (.lst [])) := xt_push hD
    have S2 : Sim X.K (m1 ++ [a]) (G1 ++ [.lst []]) (upd H1 a (.lst [])) := S1.push hD ⟨[], upd_same, .nil⟩
    have ha : (m1 ++ [a])[G1.length]? = some a := by rw [← S1.len]; simp
    refine ⟨fun k n H => ∃ m G, Xt X.K (m1 ++ [a]) (upd H1 a (.lst [])) m H ∧ Sim X.K m G H ∧ lcN src (lcTurn gf tf ef (wipeD σ' vs) G1.length) n k G = some Gz, ⟨n, _, _, .refl, S2, hn⟩, ?_⟩
    rintro k n H3 ⟨m3, G3, x3, S3, h3⟩
    have ha3 := x3.at ha
    cases n with
    | zero => cases h3
    | succ n =>
      rw [lcN_s] at h3
      have itk := it k m3 G3 H3 (x2.trans x3) S3
      cases es : src k G3 with
      | bad => rw [es] at h3; cases h3
      | stop =>
        rw [es] at h3 itk
        cases h3
        exact .inl ⟨itk, q1 m3 H3 _ (x2.trans x3) S3 (.ref ha3)⟩
      | item d =>
        rw [es] at h3 itk
        simp only at h3
        obtain ⟨go, yl⟩ := itk
        refine .inr ⟨go, fun H4 => ∃ m G, Xt X.K (m1 ++ [a]) (upd H1 a (.lst [])) m H4 ∧ Sim X.K m G H4 ∧ lcN src (lcTurn gf tf ef (wipeD σ' vs) G1.length) n (k + 1) G = some Gz, fun H4 z => ⟨n, by omega, z⟩, fun v H4 hy => ?_⟩
        obtain ⟨x4, S4, r4⟩ := yl v H4 hy
        have R4 : SR X.K m3 H4 (wipeD σ' vs) (wipe σ vs) := wipe_sr ((((R.mono x1).mono x2).mono x3).mono x4) vs
        cases et : lcTurn gf tf ef (wipeD σ' vs) G1.length d G3 with
        | none => rw [et] at h3; cases h3
        | some Gt =>
          rw [et] at h3
          have h3' : lcN src (lcTurn gf tf ef (wipeD σ' vs) G1.length) n (k + 1) Gt = some Gz := h3
          unfold lcTurn at et
          refine ⟨m3, wipeD σ' vs, G3, d, S4, R4, r4, ?_⟩
          cases eg : gf d (wipeD σ' vs) G3 with
          | ok σ5 G5 =>
            rw [eg] at et
            simp only at et
            intro m5 H5 s5 x5 S5 ⟨R5, w5⟩
            refine ⟨by rw [w5, wipe_wipe], m5, σ5, G5, S5, R5, ?_⟩
            cases eb : tf σ5 G5 with
            | ok b G6 =>
              rw [eb] at et
              intro m6 H6 b6 x6 S6 r6
              cases r6
              have xx := ((x3.trans x4).trans x5).trans x6
              cases b with
              | false =>
                cases et
                exact iteF ⟨m6, _, xx, S6, h3'⟩
              | true =>
                simp only at et
                refine iteT ⟨m6, σ5, G6, S6, R5.mono x6, ?_⟩
                cases ee : ef σ5 G6 with
                | ok y G7 =>
                  rw [ee] at et
                  intro m7 H7 y7 x7 S7 r7
                  have ha7 := (xx.trans x7).at ha
                  obtain ⟨acc, h71, h72, S8, x8⟩ := app_sim S7 ha7 r7 et
                  exact ⟨acc, h71, h72, m7, Gt, (xx.trans x7).trans x8, S8, h3'⟩
                | ex _ _ _ => rw [ee] at et; cases et
                | bad => rw [ee] at et; cases et
            | ex _ _ _ => rw [eb] at et; cases et
            | bad => rw [eb] at et; cases et
          | ex _ _ _ => rw [eg] at et; cases et
          | bad => rw [eg] at et; cases et
/-- a block's context -/
theorem Ctx.blk {k : Nat} (C : Ctx X W k) {s : Shared} {H : Hp} {cenv : Env} {fp : List Addr} : Ctx (X.blk s H scope cenv fp) (fun _ => W0) k :=
  ⟨C.calm, C.nd, fun σ pins H s e s' I h => (by obtain ⟨_, _, _, _, _, _, _, _, _, _, _, _, z⟩ := h; exact z.elim), .never, C.room, C.gd⟩
theorem xe_lc {k : Nat} (C : Ctx X W k) (hi : PI X tg iter (tI X W fi)) (hown : blkC X.N X.env.scope scope own = true)
    (hg : ∀ (s : Shared) (H : Hp) (c : Addr) (cl : List (Str × Addr)) (fp : List Addr), PG (X.blk s H scope (compEnvC scope cl c X.env) fp) tg (tGw (X.blk s H scope (compEnvC scope cl c X.env) fp) (own.map (·.2)) gf))
    (ht : ∀ (s : Shared) (H : Hp) (c : Addr) (cl : List (Str × Addr)) (fp : List Addr), Ctx (X.blk s H scope (compEnvC scope cl c X.env) fp) (fun _ => W0) k → PTs (X.blk s H scope (compEnvC scope cl c X.env) fp) ifs (tT (X.blk s H scope (compEnvC scope cl c X.env) fp) (fun _ => W0) tf))
    (he : ∀ (s : Shared) (H : Hp) (c : Addr) (cl : List (Str × Addr)) (fp : List Addr), Ctx (X.blk s H scope (compEnvC scope cl c X.env) fp) (fun _ => W0) k → PE (X.blk s H scope (compEnvC scope cl c X.env) fp) elt (tE (X.blk s H scope (compEnvC scope cl c X.env) fp) (fun _ => W0) ef))
    (hs : ∀ x, foldedSetIterable iter X.env x = pure x := by intro _; rfl) : PE X (.ListComp elt [⟨tg, iter, ifs, 0⟩] scope pos) (tE X W (lcC fi gf tf ef (own.map (·.2)))) := by
  refine ⟨fun pins s σ H Q I h => ?_⟩
  exact (pe_lc (g := tGw X (own.map fun q : Str × Nat => q.2) gf) (tt := tT X (fun _ => W0) tf) (te := tE X (fun _ => W0) ef) C.calm C.nd hi (blkOk_by hown) hg (fun s H c cl fp => ht s H c cl fp C.blk) (fun s H c cl fp => he s H c cl fp C.blk) hs).run pins s σ H Q I (lc_read h)
theorem xs_setLc {k : Nat} (i : Nat) {y : Str} {py spos : Pos} (C : Ctx X W k) (hi : PI X tg iter (tI X W fi)) (hown : blkC X.N X.env.scope scope own = true)
    (hg : ∀ (s : Shared) (H : Hp) (c : Addr) (cl : List (Str × Addr)) (fp : List Addr), PG (X.blk s H scope (compEnvC scope cl c X.env) fp) tg (tGw (X.blk s H scope (compEnvC scope cl c X.env) fp) (own.map (·.2)) gf))
    (ht : ∀ (s : Shared) (H : Hp) (c : Addr) (cl : List (Str × Addr)) (fp : List Addr), Ctx (X.blk s H scope (compEnvC scope cl c X.env) fp) (fun _ => W0) k → PTs (X.blk s H scope (compEnvC scope cl c X.env) fp) ifs (tT (X.blk s H scope (compEnvC scope cl c X.env) fp) (fun _ => W0) tf))
    (he : ∀ (s : Shared) (H : Hp) (c : Addr) (cl : List (Str × Addr)) (fp : List Addr), Ctx (X.blk s H scope (compEnvC scope cl c X.env) fp) (fun _ => W0) k → PE (X.blk s H scope (compEnvC scope cl c X.env) fp) elt (tE (X.blk s H scope (compEnvC scope cl c X.env) fp) (fun _ => W0) ef))
    (hsw : swapsWith (.ListComp elt [⟨tg, iter, ifs, 0⟩] scope pos) (some (.Name y py)) spos.line X.env = pure true) (hy : X.N[i]? = some y := by rfl) (hyl : X.env.scope.names.lookup y = some .local := by rfl)
    (hs : ∀ x, foldedSetIterable iter X.env x = pure x := by intro _; rfl) : PS X (.Assign [.Name y py] (.ListComp elt [⟨tg, iter, ifs, 0⟩] scope pos) spos) (tS X W (setC i (lcC fi gf tf ef (own.map (·.2))))) := by
  refine ⟨fun pins s σ H Dd I ⟨m, σ', G, S, R, q⟩ => ?_⟩
  refine (ps_setLc (i := i) (g := tGw X (own.map fun q : Str × Nat => q.2) gf) (tt := tT X (fun _ => W0) tf) (te := tE X (fun _ => W0) ef) C.calm C.nd hy hyl hsw hi (blkOk_by hown) hg (fun s H c cl fp => ht s H c cl fp C.blk) (fun s H c cl fp => he s H c cl fp C.blk) hs).run pins s σ H Dd I ?_
  refine lc_read ⟨m, σ', G, S, R, (PostS.bnd (R := VR X.K) R q).imp fun v H1 ⟨m1, G1, x, e1, S1, r1, _, h1⟩ => ?_⟩
  exact h1 m1 H1 _ .refl S1 ((R.mono e1).put i r1)
theorem xts_nil : PTs X [] (tT X W yesT) := ⟨fun pins s σ H Q I ⟨m, σ', G, S, R, q⟩ => (pts_nil (X := X)).run pins s σ H Q I (PostR.here q S rfl)⟩
theorem xts_one {c : Expr} (h : PT X c (tT X W tf)) : PTs X [c] (tT X W tf) := pts_one h
end
end SX

set_option Elab.async false
set_option linter.all false
set_option maxRecDepth 100000
set_option maxHeartbeats 1000000
namespace SX
open PySem PySem.Spec PyProof.Rows L2

/-! ### what the values are -/
def lstOf (G : Hq) : D → Option (List D)
  | .ref p => match G[p]? with
    | some (.lst xs) => some xs
    | some (.ro xs) => some xs
    | _ => none
  | .kl xs => some xs
  | _ => none
def tupOf : D → Option (List D)
  | .tup xs => some xs
  | .kt xs => some xs
  | _ => none
def intsD : List D → Option (List Int)
  | [] => some []
  | .int i :: r => (intsD r).map (i :: ·)
  | _ => none
def blsD : List D → Option (List Bool)
  | [] => some []
  | .bl i :: r => (blsD r).map (i :: ·)
  | _ => none
theorem intsD_eq : ∀ {xs : List D} {ns : List Int}, intsD xs = some ns → xs = ns.map D.int
  | [], ns, h => by cases h; rfl
  | x :: r, ns, h => by
    cases x <;> first
      | (simp [intsD] at h; done)
      | (simp only [intsD, Option.map_eq_some_iff] at h
         obtain ⟨ms, hm, rfl⟩ := h
         rw [intsD_eq hm]; rfl)
theorem intsD_map : ∀ ns : List Int, intsD (ns.map D.int) = some ns
  | [] => rfl
  | n :: r => by rw [List.map_cons, intsD, intsD_map r]; rfl
theorem blsD_eq : ∀ {xs : List D} {ns : List Bool}, blsD xs = some ns → xs = ns.map D.bl
  | [], ns, h => by cases h; rfl
  | x :: r, ns, h => by
    cases x <;> first
      | (simp [blsD] at h; done)
      | (simp only [blsD, Option.map_eq_some_iff] at h
         obtain ⟨ms, hm, rfl⟩ := h
         rw [blsD_eq hm]; rfl)
theorem blsD_map : ∀ ns : List Bool, blsD (ns.map D.bl) = some ns
  | [] => rfl
  | n :: r => by rw [List.map_cons, blsD, blsD_map r]; rfl
section
variable {K : PySem.W.Frag} {m : List Addr} {H : Hp} {G : Hq}
theorem vrs_ints : ∀ {ns : List Int} {vs : List V}, VRs K m H (ns.map D.int) vs → vs = ns.map V.int
  | [], _, h => by cases h; rfl
  | n :: r, _, h => by
    cases h with
    | cons a b => cases a; rw [vrs_ints b]; rfl
theorem vrs_bls : ∀ {ns : List Bool} {vs : List V}, VRs K m H (ns.map D.bl) vs → vs = ns.map V.bl
  | [], _, h => by cases h; rfl
  | n :: r, _, h => by
    cases h with
    | cons a b => cases a; rw [vrs_bls b]; rfl
theorem ints_vrs : ∀ ns : List Int, VRs K m H (ns.map D.int) (ns.map V.int)
  | [] => .nil
  | n :: r => .cons (.int n) (ints_vrs r)
theorem lst_at (S : Sim K m G H) {d : D} {v : V} (r : VR K m H d v) {xs : List D} (e : lstOf G d = some xs) : ∃ a vs, v = .ref a ∧ SqL K H a vs ∧ VRs K m H xs vs := by
  cases r with
  | @ref p a hp =>
    unfold lstOf at e
    simp only at e
    split at e
    · rename_i ys hg
      cases e
      obtain ⟨vs, h1, h2⟩ := S.cell p a _ hp hg
      exact ⟨a, vs, rfl, SqL.of h1, h2⟩
    · rename_i ys hg
      cases e
      obtain ⟨vs, o, h1, h2⟩ := S.cell p a _ hp hg
      exact ⟨a, vs, rfl, .inl (.inr ⟨o, h1⟩), h2⟩
    · cases e
  | kl h1 h2 => cases e; exact ⟨_, _, rfl, .inr h1, h2⟩
  | _ => cases e
theorem tup_at {d : D} {v : V} (r : VR K m H d v) {xs : List D} (e : tupOf d = some xs) : ∃ a vs, v = .ref a ∧ SqT K H a vs ∧ VRs K m H xs vs := by
  cases r with
  | tup h1 h2 => cases e; exact ⟨_, _, rfl, SqT.of h1, h2⟩
  | kt h1 h2 => cases e; exact ⟨_, _, rfl, h1, h2⟩
  | _ => cases e
theorem cell_lst (S : Sim K m G H) {p : Nat} {xs : List D} (hg : G[p]? = some (.lst xs)) : ∃ a vs, m[p]? = some a ∧ H a = some (.lst vs) ∧ VRs K m H xs vs := by
  obtain ⟨a, ha⟩ := S.idx hg
  obtain ⟨vs, h1, h2⟩ := S.cell p a _ ha hg
  exact ⟨a, vs, ha, h1, h2⟩
end

/-! ### arithmetic -/
def mulOk (i j : Int) : Bool := decide (i.natAbs.log2 + j.natAbs.log2 < 1000000)
def divOk (j : Int) : Bool := decide (j ≠ 0) && decide (j.natAbs.log2 < 9000)
def addD (x y : D) (G : Hq) : Rs D := match x, y with
  | .int i, .int j => .ok (.int (i + j)) G
  | .str a, .str b => if a.length + b.length ≤ 16777216 then .ok (.str (a ++ b)) G else .bad
  | .ref p, .ref q => match G[p]?, G[q]? with
    | some (.lst xs), some (.lst ys) => if xs.length + ys.length ≤ 16777216 then .ok (.ref G.length) (G ++ [.lst (xs ++ ys)]) else .bad
    | _, _ => .bad
  | _, _ => .bad
def iaddD (x y : D) (G : Hq) : Rs D := match x, y with
  | .int i, .int j => .ok (.int (i + j)) G
  | _, _ => .bad
def imulD (x y : D) (G : Hq) : Rs D := match x, y with
  | .int i, .int j => if mulOk i j then .ok (.int (i * j)) G else .bad
  | _, _ => .bad
theorem mulOk_spec {i j : Int} (h : mulOk i j = true) : CMulW i j := by
  unfold mulOk at h
  show i.natAbs.log2 + j.natAbs.log2 < 1000000
  exact of_decide_eq_true h
def subD (x y : D) (G : Hq) : Rs D := match x, y with
  | .int i, .int j => .ok (.int (i - j)) G
  | _, _ => .bad
def mulD (x y : D) (G : Hq) : Rs D := match x, y with
  | .int i, .int j => if mulOk i j then .ok (.int (i * j)) G else .bad
  | .ref p, .int k => match G[p]? with
    | some (.lst xs) => if k < 2 ^ 63 ∧ -(2 ^ 63) ≤ k ∧ xs.length * k.toNat ≤ 16777216 then .ok (.ref G.length) (G ++ [.lst (List.replicate k.toNat xs).flatten]) else .bad
    | _ => .bad
  | _, _ => .bad
def fdivD (x y : D) (G : Hq) : Rs D := match x, y with
  | .int i, .int j => if divOk j then .ok (.int (i.fdiv j)) G else .bad
  | _, _ => .bad
def modD (x y : D) (G : Hq) : Rs D := match x, y with
  | .int i, .int j => if j ≠ 0 then .ok (.int (i.fmod j)) G else .bad
  | _, _ => .bad
def powD (x y : D) (G : Hq) : Rs D := match x, y with
  | .int i, .int j => if 0 ≤ j ∧ j ≤ 1000000 ∧ i.natAbs < 2 ^ 64 then .ok (.int (i ^ j.toNat)) G else .bad
  | _, _ => .bad
def negD (x : D) (G : Hq) : Rs D := match x with
  | .int i => .ok (.int (-i)) G
  | _ => .bad
section
variable {X : Cx}
theorem lst_new {K : PySem.W.Frag} {mg : Str → Option Value} {Wx : XW} {m : List Addr} {H : Hp} {G : Hq} {xs : List D} {vs : List V} {Q : VK} {p : Addr} (S : Sim K m G H) (r : VRs K m H xs vs)
    (q : PostR K mg (VR K) Wx m H (.ok (.ref G.length) (G ++ [.lst xs])) Q) (hp : H p = none) : Q (.ref p) (upd H p (.lst vs)) :=
  q (m ++ [p]) (upd H p (.lst vs)) (.ref p) (xt_push hp) (S.push hp ⟨vs, upd_same, r.mono (xt_push hp)⟩) (.ref (by rw [← S.len]; simp))
theorem f_add : OpF X (binaryOp .Add) addD := by
  intro pins s σ m G H x y v w u z Q Wx I S rx ry ru rz q
  unfold addD at q
  split at q
  · cases rx; cases ry; exact op_add pins s σ H _ _ u z Q I ru rz ⟨_, _, rfl, rfl, q.here S (.int _)⟩
  · split at q
    · rename_i hz
      cases rx; cases ry; exact op_add_str pins s σ H _ _ u z Q I ru rz ⟨_, _, rfl, rfl, hz, q.here S (.str _)⟩
    · exact q.elim
  · split at q
    · rename_i xs ys h1 h2
      split at q
      · rename_i hz
        obtain ⟨a, vs, ha, hv, r1⟩ := cell_lst S h1
        obtain ⟨b, ws, hb, hw, r2⟩ := cell_lst S h2
        cases rx with
        | ref ha' =>
          cases ry with
          | ref hb' =>
            rw [ha] at ha'; cases ha'
            rw [hb] at hb'; cases hb'
            refine op_cat pins s σ H _ _ u z Q I ru rz ⟨a, b, vs, ws, rfl, rfl, hv, hw, by rw [← r1.length, ← r2.length]; exact hz, fun p hp => ?_⟩
            exact lst_new S (r1.append r2) q hp
      · exact q.elim
    · exact q.elim
  · exact q.elim
theorem f_iadd : OpF X (inplaceOp .Add) iaddD := by
  intro pins s σ m G H x y v w u z Q Wx I S rx ry ru rz q
  unfold iaddD at q
  split at q
  · cases rx; cases ry; exact iop_add pins s σ H _ _ u z Q I ru rz ⟨_, _, rfl, rfl, q.here S (.int _)⟩
  · exact q.elim
theorem f_sub : OpF X (binaryOp .Sub) subD := by
  intro pins s σ m G H x y v w u z Q Wx I S rx ry ru rz q
  unfold subD at q
  split at q
  · cases rx; cases ry; exact op_sub pins s σ H _ _ u z Q I ru rz ⟨_, _, rfl, rfl, q.here S (.int _)⟩
  · exact q.elim
theorem f_isub : OpF X (inplaceOp .Sub) subD := by
  intro pins s σ m G H x y v w u z Q Wx I S rx ry ru rz q
  unfold subD at q
  split at q
  · cases rx; cases ry; exact iop_sub pins s σ H _ _ u z Q I ru rz ⟨_, _, rfl, rfl, q.here S (.int _)⟩
  · exact q.elim
theorem f_mul : OpF X (binaryOp .Mult) mulD := by
  intro pins s σ m G H x y v w u z Q Wx I S rx ry ru rz q
  unfold mulD at q
  split at q
  · split at q
    · rename_i hz
      cases rx; cases ry; exact op_mulW pins s σ H _ _ u z Q I ru rz ⟨_, _, rfl, rfl, mulOk_spec hz, q.here S (.int _)⟩
    · exact q.elim
  · split at q
    · rename_i xs h1
      split at q
      · rename_i hz
        obtain ⟨a, vs, ha, hv, r1⟩ := cell_lst S h1
        cases ry
        cases rx with
        | ref ha' =>
          rw [ha] at ha'; cases ha'
          refine op_rep pins s σ H _ _ u z Q I ru rz ⟨a, _, vs, rfl, rfl, hv, hz.2.1, hz.1, by rw [← r1.length]; exact hz.2.2, fun p hp => ?_⟩
          refine lst_new S ?_ q hp
          have rep : ∀ k : Nat, VRs X.K m H (List.replicate k xs).flatten (List.replicate k vs).flatten := by
            intro k
            induction k with
            | zero => exact .nil
            | succ k ih => rw [List.replicate_succ, List.replicate_succ, List.flatten_cons, List.flatten_cons]; exact r1.append ih
          exact rep _
      · exact q.elim
    · exact q.elim
  · exact q.elim
theorem f_imul : OpF X (inplaceOp .Mult) imulD := by
  intro pins s σ m G H x y v w u z Q Wx I S rx ry ru rz q
  unfold imulD at q
  split at q
  · split at q
    · rename_i hz
      cases rx; cases ry
      obtain ⟨t, rfl⟩ := ru
      obtain ⟨t', rfl⟩ := rz
      exact imul_int ⟨.int _, H, I.tok _, ⟨_, rfl⟩, q.here S (.int _)⟩ (CMulW.ok (mulOk_spec hz))
    · exact q.elim
  · exact q.elim
theorem divOk_spec {j : Int} (h : divOk j = true) : j ≠ 0 ∧ j.natAbs.log2 < 9000 := by
  unfold divOk at h
  rw [Bool.and_eq_true] at h
  exact ⟨of_decide_eq_true h.1, of_decide_eq_true h.2⟩
theorem f_fdiv : OpF X (binaryOp .FloorDiv) fdivD := by
  intro pins s σ m G H x y v w u z Q Wx I S rx ry ru rz q
  unfold fdivD at q
  split at q
  · split at q
    · rename_i hz
      cases rx; cases ry
      obtain ⟨t, rfl⟩ := ru
      obtain ⟨t', rfl⟩ := rz
      exact floordiv_int (divOk_spec hz).1 ⟨.int _, H, I.tok _, ⟨_, rfl⟩, q.here S (.int _)⟩ (.inl (PyProof.noPylong_of_log2 (divOk_spec hz).2))
    · exact q.elim
  · exact q.elim
theorem f_ifdiv : OpF X (inplaceOp .FloorDiv) fdivD := by
  intro pins s σ m G H x y v w u z Q Wx I S rx ry ru rz q
  unfold fdivD at q
  split at q
  · split at q
    · rename_i hz
      cases rx; cases ry
      obtain ⟨t, rfl⟩ := ru
      obtain ⟨t', rfl⟩ := rz
      exact ifloordiv_int (divOk_spec hz).1 ⟨.int _, H, I.tok _, ⟨_, rfl⟩, q.here S (.int _)⟩ (.inl (PyProof.noPylong_of_log2 (divOk_spec hz).2))
    · exact q.elim
  · exact q.elim
theorem f_mod : OpF X (binaryOp .Mod) modD := by
  intro pins s σ m G H x y v w u z Q Wx I S rx ry ru rz q
  unfold modD at q
  split at q
  · split at q
    · rename_i hz
      cases rx; cases ry; exact op_modN pins s σ H _ _ u z Q I ru rz ⟨_, _, rfl, rfl, hz, q.here S (.int _)⟩
    · exact q.elim
  · exact q.elim
theorem f_imod : OpF X (inplaceOp .Mod) modD := by
  intro pins s σ m G H x y v w u z Q Wx I S rx ry ru rz q
  unfold modD at q
  split at q
  · split at q
    · rename_i hz
      cases rx; cases ry
      obtain ⟨t, rfl⟩ := ru
      obtain ⟨t', rfl⟩ := rz
      exact imod_int hz ⟨.int _, H, I.tok _, ⟨_, rfl⟩, q.here S (.int _)⟩
    · exact q.elim
  · exact q.elim
theorem f_pow : OpF X (binaryOp .Pow) powD := by
  intro pins s σ m G H x y v w u z Q Wx I S rx ry ru rz q
  unfold powD at q
  split at q
  · split at q
    · rename_i hz
      cases rx; cases ry; exact op_pow pins s σ H _ _ u z Q I ru rz ⟨_, _, rfl, rfl, hz, q.here S (.int _)⟩
    · exact q.elim
  · exact q.elim
theorem f_neg : UnF X (unaryOp .USub) negD := by
  intro pins s σ m G H x v u Q Wx I S rx ru q
  unfold negD at q
  split at q
  · cases rx; exact un_neg pins s σ H _ u Q I ru ⟨_, rfl, q.here S (.int _)⟩
  · exact q.elim
/-! ### comparisons -/
def cmpD (p : Int → Int → Bool) (x y : D) (G : Hq) : Rs D := match x, y with
  | .int i, .int j => .ok (.bl (p i j)) G
  | _, _ => .bad
theorem f_cmp {op : CmpOp} {p : Int → Int → Bool} (h : OpR X (compareOp op) (rI0 fun i j => .bl (p i j))) : OpF X (compareOp op) (cmpD p) := by
  intro pins s σ m G H x y v w u z Q Wx I S rx ry ru rz q
  unfold cmpD at q
  split at q
  · cases rx; cases ry; exact h pins s σ H _ _ u z Q I ru rz ⟨_, _, rfl, rfl, q.here S (.bl _)⟩
  · exact q.elim
theorem f_lt : OpF X (compareOp .Lt) (cmpD fun i j => decide (i < j)) := f_cmp op_lt
theorem f_le : OpF X (compareOp .LtE) (cmpD fun i j => decide (i ≤ j)) := f_cmp op_le
theorem f_gt : OpF X (compareOp .Gt) (cmpD fun i j => decide (j < i)) := f_cmp op_gt
theorem f_ge : OpF X (compareOp .GtE) (cmpD fun i j => decide (j ≤ i)) := f_cmp op_ge
/-- data, read off the cells -/
def toPyL (f : D → Option PyData) : List D → Option (List PyData)
  | [] => some []
  | x :: r => match f x, toPyL f r with
    | some a, some b => some (a :: b)
    | _, _ => none
def toPy (G : Hq) : Nat → D → Option PyData
  | _, .non => some .none
  | _, .bl b => some (.bool b)
  | _, .int i => some (.int i)
  | _, .str x => some (.str x)
  | 0, _ => none
  | n + 1, .tup xs => (toPyL (toPy G n) xs).map .tuple
  | n + 1, .kt xs => (toPyL (toPy G n) xs).map .tuple
  | n + 1, .kl xs => (toPyL (toPy G n) xs).map .list
  | n + 1, .ref p => match G[p]? with
    | some (.lst xs) => (toPyL (toPy G n) xs).map .list
    | some (.ro xs) => (toPyL (toPy G n) xs).map .list
    | _ => none
theorem toPyL_dp {K : PySem.W.Frag} {m : List Addr} {H : Hp} {f : D → Option PyData} (h : ∀ d v e, VR K m H d v → f d = some e → Dp K H v e) : ∀ {xs : List D} {vs : List V} {es : List PyData}, VRs K m H xs vs → toPyL f xs = some es → DpAll K H vs es
  | [], _, _, .nil, e => by cases e; exact .nil
  | x :: r, _, _, .cons a b, e => by
    rw [toPyL] at e
    split at e
    · rename_i h1 h2
      cases e
      exact .cons (h _ _ _ a h1) (toPyL_dp h b h2)
    · cases e
theorem toPy_dp {K : PySem.W.Frag} {m : List Addr} {H : Hp} {G : Hq} (S : Sim K m G H) : ∀ (n : Nat) (d : D) (v : V) (e : PyData), VR K m H d v → toPy G n d = some e → Dp K H v e := by
  intro n
  induction n with
  | zero =>
    intro d v e r h
    cases r <;> simp only [toPy] at h <;> cases h
    · exact .non
    · exact .bl _
    · exact .int _
    · exact .str _
  | succ n ih =>
    intro d v e r h
    cases r with
    | non => simp only [toPy] at h; cases h; exact .non
    | bl b => simp only [toPy] at h; cases h; exact .bl _
    | int i => simp only [toPy] at h; cases h; exact .int _
    | str x => simp only [toPy] at h; cases h; exact .str _
    | tup h1 h2 =>
      simp only [toPy, Option.map_eq_some_iff] at h
      obtain ⟨es, he, rfl⟩ := h
      exact .tup (SqT.of h1) (toPyL_dp ih h2 he)
    | kt h1 h2 =>
      simp only [toPy, Option.map_eq_some_iff] at h
      obtain ⟨es, he, rfl⟩ := h
      exact .tup h1 (toPyL_dp ih h2 he)
    | kl h1 h2 =>
      simp only [toPy, Option.map_eq_some_iff] at h
      obtain ⟨es, he, rfl⟩ := h
      exact .lst (.inr h1) (toPyL_dp ih h2 he)
    | @ref p a hp =>
      simp only [toPy] at h
      split at h
      · rename_i xs hg
        obtain ⟨es, he, rfl⟩ := Option.map_eq_some_iff.mp h
        obtain ⟨vs, h1, h2⟩ := S.cell p a _ hp hg
        exact .lst (SqL.of h1) (toPyL_dp ih h2 he)
      · rename_i xs hg
        obtain ⟨es, he, rfl⟩ := Option.map_eq_some_iff.mp h
        obtain ⟨vs, o, h1, h2⟩ := S.cell p a _ hp hg
        exact .lst (.inl (.inr ⟨o, h1⟩)) (toPyL_dp ih h2 he)
      · cases h
def eqD0 (neg : Bool) (x y : D) (G : Hq) : Rs D := match toPy G 24 x, toPy G 24 y with
  | some a, some b => if SeqAt.shaped a ∧ SeqAt.shaped b then .ok (.bl (if neg then !PyData.eqv a b else PyData.eqv a b)) G else .bad
  | _, _ => .bad
theorem f_eq0 {W : L2.St → XW} {k : Nat} (C : Ctx X W k) : OpF X (compareOp .Eq) (eqD0 false) := by
  intro pins s σ m G H x y v w u z Q Wx I S rx ry ru rz q
  unfold eqD0 at q
  split at q
  · rename_i a b h1 h2
    split at q
    · rename_i hs
      exact op_eqD C.room.units pins s σ H v w u z Q I ru rz ⟨a, b, toPy_dp S _ _ _ _ rx h1, toPy_dp S _ _ _ _ ry h2, hs.1, hs.2, q.here S (.bl _)⟩
    · exact q.elim
  · exact q.elim
theorem f_ne0 {W : L2.St → XW} {k : Nat} (C : Ctx X W k) : OpF X (compareOp .NotEq) (eqD0 true) := by
  intro pins s σ m G H x y v w u z Q Wx I S rx ry ru rz q
  unfold eqD0 at q
  split at q
  · rename_i a b h1 h2
    split at q
    · rename_i hs
      exact op_neD C.room.units pins s σ H v w u z Q I ru rz ⟨a, b, toPy_dp S _ _ _ _ rx h1, toPy_dp S _ _ _ _ ry h2, hs.1, hs.2, q.here S (.bl _)⟩
    · exact q.elim
  · exact q.elim
def eqD (neg : Bool) (x y : D) (G : Hq) : Rs D := match x, y with
  | .str a, .str b => .ok (.bl (if neg then !decide (a = b) else decide (a = b))) G
  | x, y => eqD0 neg x y G
theorem dec_strV {a b : Str} : decide (V.str a = V.str b) = decide (a = b) := by
  rw [Bool.eq_iff_iff]
  simp
theorem f_eq {W : L2.St → XW} {k : Nat} (C : Ctx X W k) : OpF X (compareOp .Eq) (eqD false) := by
  intro pins s σ m G H x y v w u z Q Wx I S rx ry ru rz q
  unfold eqD at q
  split at q
  · cases rx
    cases ry
    exact L2.op_eq pins s σ H _ _ u z Q I ru rz ⟨rfl, by rw [dec_strV]; exact q.here S (.bl _)⟩
  · exact f_eq0 C pins s σ m G H x y v w u z Q Wx I S rx ry ru rz q
theorem f_ne {W : L2.St → XW} {k : Nat} (C : Ctx X W k) : OpF X (compareOp .NotEq) (eqD true) := by
  intro pins s σ m G H x y v w u z Q Wx I S rx ry ru rz q
  unfold eqD at q
  split at q
  · cases rx
    cases ry
    exact L2.op_ne pins s σ H _ _ u z Q I ru rz ⟨rfl, by rw [dec_strV]; exact q.here S (.bl _)⟩
  · exact f_ne0 C pins s σ m G H x y v w u z Q Wx I S rx ry ru rz q
def isNonD (neg : Bool) (x : D) (G : Hq) : Rs D := .ok (.bl (match x with | .non => !neg | _ => neg)) G
/-! ### repr -/
def reprD (xs : List D) (G : Hq) : Rs D := match xs with
  | [x] => match toPy G 24 x with
    | some a => if a.showable = true ∧ a.hasDict = false ∧ a.depth ≤ 60 ∧ a.shown.length ≤ 16777216 then .ok (.str a.shown) G else .bad
    | none => .bad
  | _ => .bad
theorem f_repr {W : L2.St → XW} {k : Nat} (C : Ctx X W k) : CallF X (.builtin "repr") reprD := by
  intro pins s σ m G H xs vs us Q Wx I S rx ru q
  unfold reprD at q
  split at q
  · rename_i x
    split at q
    · rename_i a ha
      split at q
      · rename_i hs
        obtain ⟨h1, h2, h3, h4⟩ := hs
        cases rx with
        | cons r1 rr =>
          cases rr
          cases ru with
          | cons r2 rr =>
            cases rr
            rename_i v u
            have dp := toPy_dp S _ _ _ _ r1 ha
            obtain ⟨as, rd⟩ := Dp.reads I a v u dp r2
            have fin := q.here (b := .str a.shown) S (.str _)
            cases v with
            | non =>
              cases r2
              cases dp
              exact PySem.P.repr_of_none ⟨.str _, H, I.tok _, ⟨_, rfl⟩, by simpa only [PyData.shown] using fin⟩
            | bl b =>
              cases r2
              cases dp
              exact PySem.P.repr_of_bool ⟨.str _, H, I.tok _, ⟨_, rfl⟩, by simpa only [PyData.shown] using fin⟩
            | int i =>
              obtain ⟨t, rfl⟩ := r2
              cases dp
              exact PySem.P.repr_of_int (by simpa [PyData.showable] using h1) ⟨.str _, H, I.tok _, ⟨_, rfl⟩, by simpa only [PyData.shown] using fin⟩
            | str i =>
              obtain ⟨t, rfl⟩ := r2
              cases dp
              exact PySem.P.repr_of_str ⟨.str _, H, I.tok _, ⟨_, rfl⟩, by simpa only [PyData.shown] using fin⟩ (by simp only [PyData.shown] at h4; exact h4)
            | ref p =>
              cases r2
              refine repr_of_reads' rd h1 (PyData.noDict_hsm h2) C.gd (by have := C.room.units; omega) (fun _ _ e => e) (fun h' t tk kk => ?_) h4
              exact ⟨.str a.shown, H, I.kept kk, ⟨_, rfl⟩, fin⟩
            | byt _ => cases dp
            | flt _ => cases dp
            | ty _ => cases dp
      · exact q.elim
    · exact q.elim
  · exact q.elim
end
end SX

set_option Elab.async false
set_option linter.all false
set_option maxRecDepth 100000
set_option maxHeartbeats 1000000
namespace SX
open PySem PySem.Spec PyProof.Rows L2

/-! ### dicts -/
section
variable {κ : Type} [DecidableEq κ]
def lookD (kvs : List (κ × D)) (k : κ) : Option D := (kvs.find? fun kv => decide (kv.1 = k)).map (·.2)
def putD (kvs : List (κ × D)) (k : κ) (v : D) : List (κ × D) :=
  if (kvs.any fun kv => decide (kv.1 = k)) then kvs.map fun kv => if kv.1 = k then (kv.1, v) else kv else kvs ++ [(k, v)]
variable {K : PySem.W.Frag} {m : List Addr} {H : Hp}
theorem vrk_look : ∀ {kvs : List (κ × D)} {vs : List (κ × V)} (k : κ), VRk K m H kvs vs → (lookD kvs k = none ∧ valV vs k = none) ∨ ∃ d v, lookD kvs k = some d ∧ valV vs k = some v ∧ VR K m H d v
  | _, _, k, .nil => .inl ⟨rfl, rfl⟩
  | _, _, k, .cons (k := k') (x := x) (v := v) r t => by
    by_cases e : k' = k
    · refine .inr ⟨x, v, ?_, ?_, r⟩ <;> simp [lookD, valV, List.find?_cons, e]
    · rcases vrk_look k t with ⟨h1, h2⟩ | ⟨d, w, h1, h2, h3⟩
      · exact .inl ⟨by simpa [lookD, List.find?_cons, e] using h1, by simpa [valV, List.find?_cons, e] using h2⟩
      · exact .inr ⟨d, w, by simpa [lookD, List.find?_cons, e] using h1, by simpa [valV, List.find?_cons, e] using h2, h3⟩
theorem vrk_keys : ∀ {kvs : List (κ × D)} {vs : List (κ × V)}, VRk K m H kvs vs → kvs.map (·.1) = vs.map (·.1)
  | _, _, .nil => rfl
  | _, _, .cons r t => by rw [List.map_cons, List.map_cons, vrk_keys t]
theorem vrk_len {kvs : List (κ × D)} {vs : List (κ × V)} (h : VRk K m H kvs vs) : kvs.length = vs.length := by
  have := congrArg List.length (vrk_keys h)
  simpa using this
theorem vrk_app : ∀ {kvs : List (κ × D)} {vs : List (κ × V)} {k : κ} {d : D} {v : V}, VRk K m H kvs vs → VR K m H d v → VRk K m H (kvs ++ [(k, d)]) (vs ++ [(k, v)])
  | _, _, _, _, _, .nil, r => .cons r .nil
  | _, _, _, _, _, .cons r t, q => .cons r (vrk_app t q)
theorem vrk_repl : ∀ {kvs : List (κ × D)} {vs : List (κ × V)} {k : κ} {d : D} {v : V}, VRk K m H kvs vs → VR K m H d v → VRk K m H (kvs.map fun kv => if kv.1 = k then (kv.1, d) else kv) (vs.map fun kv => if kv.1 = k then (kv.1, v) else kv)
  | _, _, _, _, _, .nil, r => .nil
  | _, _, k, _, _, .cons (k := k') r t, q => by
    rw [List.map_cons, List.map_cons]
    by_cases e : k' = k
    · rw [if_pos e, if_pos e]; exact .cons q (vrk_repl t q)
    · rw [if_neg e, if_neg e]; exact .cons r (vrk_repl t q)
theorem vrk_any : ∀ {kvs : List (κ × D)} {vs : List (κ × V)} (k : κ), VRk K m H kvs vs → (kvs.any fun kv => decide (kv.1 = k)) = vs.any fun kv => decide (kv.1 = k)
  | _, _, _, .nil => rfl
  | _, _, k, .cons r t => by rw [List.any_cons, List.any_cons, vrk_any k t]
theorem vrk_put {kvs : List (κ × D)} {vs : List (κ × V)} {k : κ} {d : D} {v : V} (h : VRk K m H kvs vs) (r : VR K m H d v) : VRk K m H (putD kvs k d) (putK vs k v) := by
  unfold putD putK
  rw [vrk_any k h]
  split
  · exact vrk_repl h r
  · exact vrk_app h r
end
def keyOf : D → Option Key
  | .int i => some (.inl i)
  | .str x => some (.inr x)
  | _ => none
def keysOf : List D → Option (List Key)
  | [] => some []
  | x :: r => match keyOf x, keysOf r with
    | some a, some b => some (a :: b)
    | _, _ => none
def tkeyOf : D → Option (List Key)
  | .tup xs => keysOf xs
  | _ => none
def ofKey : Key → D
  | .inl i => .int i
  | .inr x => .str x
section
variable {K : PySem.W.Frag} {m : List Addr} {H : Hp} {G : Hq}
theorem key_vr {d : D} {v : V} {k : Key} (r : VR K m H d v) (h : keyOf d = some k) : v = kV k := by
  cases r <;> cases h <;> rfl
theorem keys_vr : ∀ {ds : List D} {vs : List V} {ks : List Key}, VRs K m H ds vs → keysOf ds = some ks → vs = ks.map kV
  | [], _, _, .nil, h => by cases h; rfl
  | x :: r, _, _, .cons a b, h => by
    rw [keysOf] at h
    split at h
    · rename_i h1 h2
      cases h
      rw [key_vr a h1, keys_vr b h2]; rfl
    · cases h
theorem tkey_vr {d : D} {v : V} {k : List Key} (r : VR K m H d v) (h : tkeyOf d = some k) : ∃ a, v = .ref a ∧ H a = some (.tup (k.map kV)) := by
  cases r with
  | tup h1 h2 => have e := keys_vr h2 h; subst e; exact ⟨_, rfl, h1⟩
  | _ => cases h
theorem ofKey_vr (k : Key) : VR K m H (ofKey k) (kV k) := by cases k; exact .int _; exact .str _
end
/-- an entry's value -/
def dictGet (c : C) (y : D) : Option (Option D) := match c with
  | .dK kvs => (keyOf y).map (lookD kvs)
  | .dT kvs => (tkeyOf y).map (lookD kvs)
  | .lk kvs => (keyOf y).map (lookD kvs)
  | .lkT kvs => (tkeyOf y).map (lookD kvs)
  | _ => none
def isDict : C → Bool
  | .dK _ => true
  | .dT _ => true
  | _ => false
theorem dict_at {K : PySem.W.Frag} {m : List Addr} {H : Hp} {G : Hq} (S : Sim K m G H) {p : Nat} {c : C} (hg : G[p]? = some c) {y : D} {w : V} (ry : VR K m H y w) {o : Option D} (h : dictGet c y = some o) :
    ∃ a ov, m[p]? = some a ∧ DGet H a w ov ∧ ((o = none ∧ ov = none) ∨ ∃ d v, o = some d ∧ ov = some v ∧ VR K m H d v) := by
  obtain ⟨a, ha⟩ := S.idx hg
  cases c with
  | dK kvs =>
    obtain ⟨k, hk, rfl⟩ := Option.map_eq_some_iff.mp h
    obtain ⟨vs, h1, h2⟩ := S.cell p a _ ha hg
    have e := key_vr ry hk
    subst e
    refine ⟨a, _, ha, DGet.k h1, ?_⟩
    rcases vrk_look k h2 with z | ⟨d, v, z1, z2, z3⟩
    · exact .inl z
    · exact .inr ⟨d, v, z1, z2, z3⟩
  | dT kvs =>
    obtain ⟨k, hk, rfl⟩ := Option.map_eq_some_iff.mp h
    obtain ⟨vs, h1, h2⟩ := S.cell p a _ ha hg
    obtain ⟨b, rfl, hb⟩ := tkey_vr ry hk
    refine ⟨a, _, ha, DGet.t h1 hb, ?_⟩
    rcases vrk_look k h2 with z | ⟨d, v, z1, z2, z3⟩
    · exact .inl z
    · exact .inr ⟨d, v, z1, z2, z3⟩
  | lk kvs =>
    obtain ⟨k, hk, rfl⟩ := Option.map_eq_some_iff.mp h
    obtain ⟨vs, ob, h1, h2⟩ := S.cell p a _ ha hg
    have e := key_vr ry hk
    subst e
    refine ⟨a, _, ha, .inl ⟨vs, k, .inr ⟨ob, h1⟩, rfl, rfl⟩, ?_⟩
    rcases vrk_look k h2 with z | ⟨d, v, z1, z2, z3⟩
    · exact .inl z
    · exact .inr ⟨d, v, z1, z2, z3⟩
  | lkT kvs =>
    obtain ⟨k, hk, rfl⟩ := Option.map_eq_some_iff.mp h
    obtain ⟨vs, ob, h1, h2⟩ := S.cell p a _ ha hg
    obtain ⟨b, rfl, hb⟩ := tkey_vr ry hk
    refine ⟨a, _, ha, .inr ⟨vs, k, b, .inr ⟨ob, h1⟩, rfl, hb, rfl⟩, ?_⟩
    rcases vrk_look k h2 with z | ⟨d, v, z1, z2, z3⟩
    · exact .inl z
    · exact .inr ⟨d, v, z1, z2, z3⟩
  | _ => cases h

/-! ### subscripts -/
def oneD (o : Option D) (G : Hq) : Rs D := match o with
  | some d => .ok d G
  | none => .bad
def ixD (x y : D) (G : Hq) : Rs D := match x with
  | .tup xs => match y with | .int i => oneD (atI xs i) G | _ => .bad
  | .kt xs => match y with | .int i => oneD (atI xs i) G | _ => .bad
  | .kl xs => match y with | .int i => oneD (atI xs i) G | _ => .bad
  | .str z => match y with
    | .int i => if z.length ≤ 16777216 then match atI z.cps.toList i with | some c => .ok (.str ⟨#[c]⟩) G | none => .bad else .bad
    | _ => .bad
  | .ref p => match G[p]? with
    | some (.lst xs) => match y with | .int i => oneD (atI xs i) G | _ => .bad
    | some (.ro xs) => match y with | .int i => oneD (atI xs i) G | _ => .bad
    | some c => match dictGet c y with
      | some o => oneD o G
      | none => .bad
    | none => .bad
  | _ => .bad
theorem vrs_at {K : PySem.W.Frag} {m : List Addr} {H : Hp} {xs : List D} {vs : List V} (r : VRs K m H xs vs) {i : Int} {d : D} (h : atI xs i = some d) : ∃ v, atI vs i = some v ∧ VR K m H d v := by
  unfold atI at h ⊢
  rw [← r.length]
  cases e : ixN xs.length i with
  | none => rw [e] at h; cases h
  | some j => rw [e] at h; exact r.get h
def IxF (X : Cx) (g : D → D → Hq → Rs D) : Prop :=
  ∀ (value slice : Expr) (pins : List (Addr × Obj)) (s : Shared) (σ : L2.St) (m : List Addr) (G : Hq) (H : Hp) (x y : D) (v w : V) (u z : Value) (Q : VK) (Wx : XW), Inv X pins σ H s → Sim X.K m G H → VR X.K m H x v → VR X.K m H y w → RelV v u → RelV w z →
    PostR X.K X.mg (VR X.K) Wx m H (g x y G) Q → subscripted slice false u z = operate [u, z] (getItem u z) → wpAny (model X.prog X.w) X.A (subscriptTail value slice u z) (EP X pins σ Q) X.xe s
section
variable {X : Cx} {W : L2.St → XW} {k : Nat}
theorem tail_dict {prog : Program} {w : World} {A : Around} {E : Value → Shared → Prop} {s : Shared} {value slice : Expr} {o i : Value} {T id : String} {Q : Value → Shared → Prop} (hl : typeLookup (.type T) "__getitem__" = pure (some (.builtin id)))
    (hT : s.TypeIs o T) (hs : subscripted slice false o i = operate [o, i] (getItem o i)) (h : wpAny (model prog w) A (getItem o i) Q E s) : wpAny (model prog w) A (subscriptTail value slice o i) Q E s := by
  unfold subscriptTail
  refine wpAny_bind ?_
  rw [getitemInPython_of_ne hT.not_modules]
  refine wpAny_bind (wpAny_specialOf hT hl ?_)
  have go : wpAny (model prog w) A (subscripted slice false o i) (fun r s2 => wpAny (model prog w) A (letTemporaryGo value o r >>= fun _ => pure r) Q E s2) E s := by
    rw [hs]
    exact wpAny_operating (wpAny_mono h (fun r s2 z => wpAny_bind (wpAny_letTemporaryGo (wpAny_pure z))) fun _ _ z => z)
  first
    | exact wpAny_pure (wpAny_bind go)
    | exact wpAny_bind (wpAny_pure (wpAny_bind go))
    | exact wpAny_bind go
theorem f_ix (C : Ctx X W k) : IxF X ixD := by
  intro value slice pins s σ m G H x y v w u z Q Wx I S rx ry ru rz q hs
  have hu : X.A.units + 1 < cLine := by have := C.room.units; omega
  have tupGo : ∀ {xs : List D} {i : Int}, tupOf x = some xs → y = .int i → PostR X.K X.mg (VR X.K) Wx m H (oneD (atI xs i) G) Q → wpAny (model X.prog X.w) X.A (subscriptTail value slice u z) (EP X pins σ Q) X.xe s := by
    intro xs i ht e qq
    subst e
    obtain ⟨a, vs, rfl, h1, h2⟩ := tup_at rx ht
    cases ry
    cases e : atI xs i with
    | none => rw [e] at qq; exact qq.elim
    | some d =>
      rw [e] at qq
      obtain ⟨t, ht, rt⟩ := vrs_at h2 e
      exact ix_tup value slice pins s σ H _ _ u z Q I ru rz ⟨a, vs, i, t, rfl, rfl, h1, ht, qq.here S rt⟩ hs
  have lstGo : ∀ {xs : List D} {i : Int}, lstOf G x = some xs → y = .int i → PostR X.K X.mg (VR X.K) Wx m H (oneD (atI xs i) G) Q → wpAny (model X.prog X.w) X.A (subscriptTail value slice u z) (EP X pins σ Q) X.xe s := by
    intro xs i ht e qq
    subst e
    obtain ⟨a, vs, rfl, h1, h2⟩ := lst_at S rx ht
    cases ry
    cases e : atI xs i with
    | none => rw [e] at qq; exact qq.elim
    | some d =>
      rw [e] at qq
      obtain ⟨t, ht, rt⟩ := vrs_at h2 e
      exact ix_list value slice pins s σ H _ _ u z Q I ru rz ⟨a, vs, i, t, rfl, rfl, h1, ht, qq.here S rt⟩ hs
  unfold ixD at q
  split at q
  · split at q
    · exact tupGo rfl rfl q
    · exact q.elim
  · split at q
    · exact tupGo rfl rfl q
    · exact q.elim
  · split at q
    · exact lstGo rfl rfl q
    · exact q.elim
  · split at q
    · split at q
      · rename_i hz
        split at q
        · rename_i c hc
          cases rx; cases ry
          exact ix_str value slice pins s σ H _ _ u z Q I ru rz ⟨_, _, c, rfl, rfl, hz, hc, q.here S (.str _)⟩ hs
        · exact q.elim
      · exact q.elim
    · exact q.elim
  · rename_i p
    split at q
    · rename_i xs hg
      split at q
      · exact lstGo (by simp [lstOf, hg]) rfl q
      · exact q.elim
    · rename_i xs hg
      split at q
      · exact lstGo (by simp [lstOf, hg]) rfl q
      · exact q.elim
    · rename_i c _ _ hg
      split at q
      · rename_i o ho
        obtain ⟨a, ov, ha, hd, hv⟩ := dict_at S hg ry ho
        cases rx with
        | ref ha' =>
          rw [ha] at ha'; cases ha'
          cases ru
          rcases hv with ⟨rfl, _⟩ | ⟨d, t, rfl, rfl, rt⟩
          · exact q.elim
          · refine tail_dict PySem.F.slot_dict_getitem.lookup (dict_typeIs I hd) hs (d_getItem hu I hd rz fun w' s' I' rw' => ⟨t, H, I', rw', q.here S rt⟩)
      · exact q.elim
    · exact q.elim
  · exact q.elim
theorem xe_ix {e1 e2 : Expr} {fa fb : EF} {pos : Pos} {g : D → D → Hq → Rs D} (hr : IxF X g) (ha : PE X e1 (tE X W fa)) (hb : PE X e2 (tE X W fb)) (hs : ∀ o i, subscripted e2 false o i = operate [o, i] (getItem o i) := by intro _ _; rfl) : PE X (.Subscript e1 e2 pos) (tE X W (binC g fa fb)) := by
  refine ⟨fun pins s σ H Q I h => Subscript_ (binT ha hb I (tE_two h) fun u z s2 v w H2 I2 rv rw_ q => ?_)⟩
  obtain ⟨m2, G2, x, y, S2, r1, r2, q⟩ := q
  exact hr e1 e2 pins s2 σ m2 G2 H2 x y v w u z Q (W σ) I2 S2 r1 r2 rv rw_ q (hs _ _)
/-- o[i] for o[i] op= e -/
def getD' (x y : D) (G : Hq) : Rs D := match x with
  | .ref p => match G[p]? with
    | some (.lst xs) => match y with | .int i => if 0 ≤ i then oneD (atI xs i) G else .bad | _ => .bad
    | some c => match dictGet c y with
      | some o => oneD o G
      | none => .bad
    | none => .bad
  | _ => .bad
theorem f_get (C : Ctx X W k) : OpF X getItem getD' := by
  intro pins s σ m G H x y v w u z Q Wx I S rx ry ru rz q
  have hu : X.A.units + 1 < cLine := by have := C.room.units; omega
  unfold getD' at q
  split at q
  · rename_i p
    split at q
    · rename_i xs hg
      split at q
      · rename_i i
        split at q
        · rename_i h0
          obtain ⟨a, vs, ha, hv, r⟩ := cell_lst S hg
          cases rx with
          | ref ha' =>
            rw [ha] at ha'; cases ha'
            cases ry; cases ru
            obtain ⟨t, rfl⟩ := rz
            cases e : atI xs i with
            | none => rw [e] at q; exact q.elim
            | some d =>
              rw [e] at q
              obtain ⟨tv, ht, rt⟩ := vrs_at r e
              obtain ⟨its, rv, pl, hz⟩ := I.list (SqL.of hv)
              obtain ⟨j, h1, h2, h3, h4, h5⟩ := atI_get ht
              obtain ⟨w2, ew, rw2⟩ := rv.get h2
              have hl := rv.length
              have hn := line63
              have hj : i.toNat = j := by
                rw [seqIndex_of h0 h5] at h1
                exact Option.some.inj h1
              exact wpAny_getItem_list pl.isList h0 (by omega) (by rw [hj]; simpa using ew) ⟨tv, H, I, rw2, q.here S rt⟩
        · exact q.elim
      · exact q.elim
    · rename_i c _ hg
      split at q
      · rename_i o ho
        obtain ⟨a, ov, ha, hd, hv⟩ := dict_at S hg ry ho
        cases rx with
        | ref ha' =>
          rw [ha] at ha'; cases ha'
          cases ru
          rcases hv with ⟨rfl, _⟩ | ⟨d, t, rfl, rfl, rt⟩
          · exact q.elim
          · exact d_getItem hu I hd rz fun w' s' I' rw' => ⟨t, H, I', rw', q.here S rt⟩
      · exact q.elim
    · exact q.elim
  · exact q.elim
/-- o[i] = v -/
def setD (x y d : D) (G : Hq) : Rs Unit := match x with
  | .ref p => match G[p]? with
    | some (.lst xs) => match y with
      | .int i => match ixN xs.length i with
        | some j => .ok () (G.set p (.lst (xs.set j d)))
        | none => .bad
      | _ => .bad
    | some (.dK kvs) => match keyOf y with
      | some k => if kvs.length < 16777216 then .ok () (G.set p (.dK (putD kvs k d))) else .bad
      | none => match kvs with
        | [] => match tkeyOf y with
          | some k => .bad
          | none => .bad
        | _ => .bad
    | some (.dT kvs) => match tkeyOf y with
      | some k => if kvs.length < 16777216 then .ok () (G.set p (.dT (putD kvs k d))) else .bad
      | none => .bad
    | _ => .bad
  | _ => .bad
theorem f_set (C : Ctx X W k) : SetF X setD := by
  intro pins s σ m G H x y d v w t ov iv u Q I S rx ry rd ro ri ru q
  have hu : X.A.units + 1 < cLine := by have := C.room.units; omega
  unfold setD at q
  split at q
  · rename_i p
    split at q
    · rename_i xs hg
      split at q
      · rename_i i
        split at q
        · rename_i j hj
          obtain ⟨a, vs, ha, hv, r⟩ := cell_lst S hg
          cases rx with
          | ref ha' =>
            rw [ha] at ha'; cases ha'
            cases ry
            have hm : Mut (H a) := by rw [hv]; trivial
            refine set_list pins s σ H _ _ _ ov iv u Q I ro ri ru ⟨a, vs, i, j, rfl, rfl, hv, by rw [← r.length]; exact hj, ?_⟩
            exact q m _ () (xt_wr hm) (S.wr ha hm ⟨_, upd_same, (r.mono (xt_wr hm)).set j (rd.mono (xt_wr hm))⟩) trivial
        · exact q.elim
      · exact q.elim
    · rename_i kvs hg
      obtain ⟨a, ha⟩ := S.idx hg
      obtain ⟨vs, hv, r⟩ := S.cell p a _ ha hg
      split at q
      · rename_i kk hk
        split at q
        · rename_i hz
          cases rx with
          | ref ha' =>
            rw [ha] at ha'; cases ha'
            have e := key_vr ry hk
            subst e
            cases ro
            have hm : Mut (H a) := by rw [hv]; trivial
            refine d_setItem hu I (DPut.k hv (by rw [← vrk_len r]; exact hz)) ri ru fun s' I' => ⟨_, I', ?_⟩
            exact q m _ () (xt_wr hm) (S.wr ha hm ⟨_, upd_same, vrk_put (r.mono (xt_wr hm)) (rd.mono (xt_wr hm))⟩) trivial
        · exact q.elim
      · split at q
        · split at q <;> exact q.elim
        · exact q.elim
    · rename_i kvs hg
      obtain ⟨a, ha⟩ := S.idx hg
      obtain ⟨vs, hv, r⟩ := S.cell p a _ ha hg
      split at q
      · rename_i kk hk
        split at q
        · rename_i hz
          cases rx with
          | ref ha' =>
            rw [ha] at ha'; cases ha'
            obtain ⟨b, rfl, hb⟩ := tkey_vr ry hk
            cases ro
            have hm : Mut (H a) := by rw [hv]; trivial
            refine d_setItem hu I (DPut.t hv hb (by rw [← vrk_len r]; exact hz)) ri ru fun s' I' => ⟨_, I', ?_⟩
            exact q m _ () (xt_wr hm) (S.wr ha hm ⟨_, upd_same, vrk_put (r.mono (xt_wr hm)) (rd.mono (xt_wr hm))⟩) trivial
        · exact q.elim
      · exact q.elim
    · exact q.elim
  · exact q.elim
end
end SX

set_option Elab.async false
set_option linter.all false
set_option maxRecDepth 100000
set_option maxHeartbeats 1000000
namespace SX
open PySem PySem.Spec PyProof.Rows L2

/-! ### built-in functions -/
def lenD (xs : List D) (G : Hq) : Rs D := match xs with
  | [.str z] => if z.length ≤ 16777216 then .ok (.int z.length) G else .bad
  | [d] => match lstOf G d with
    | some ys => .ok (.int ys.length) G
    | none => match tupOf d with
      | some ys => .ok (.int ys.length) G
      | none => .bad
  | _ => .bad
def absD (xs : List D) (G : Hq) : Rs D := match xs with
  | [.int i] => .ok (.int (if i < 0 then -i else i)) G
  | _ => .bad
def intD (xs : List D) (G : Hq) : Rs D := match xs with
  | [.int i] => .ok (.int i) G
  | [.bl b] => .ok (.int (if b then 1 else 0)) G
  | _ => .bad
def listD (xs : List D) (G : Hq) : Rs D := match xs with
  | [d] => match lstOf G d with
    | some ys => .ok (.ref G.length) (G ++ [.lst ys])
    | none => match tupOf d with
      | some ys => .ok (.ref G.length) (G ++ [.lst ys])
      | none => .bad
  | _ => .bad
def tupleD (xs : List D) (G : Hq) : Rs D := match xs with
  | [.tup ys] => .ok (.tup ys) G
  | [d] => match lstOf G d with
    | some ys => .ok (.tup ys) G
    | none => .bad
  | _ => .bad
def sumD (xs : List D) (G : Hq) : Rs D := match xs with
  | [d] => match (lstOf G d).bind intsD with
    | some ns => .ok (.int ns.sum) G
    | none => .bad
  | _ => .bad
def allD (xs : List D) (G : Hq) : Rs D := match xs with
  | [d] => match (lstOf G d).bind blsD with
    | some ns => .ok (.bl (ns.all id)) G
    | none => .bad
  | _ => .bad
def anyD (xs : List D) (G : Hq) : Rs D := match xs with
  | [d] => match (lstOf G d).bind blsD with
    | some ns => .ok (.bl (ns.any id)) G
    | none => .bad
  | _ => .bad
def maxD (xs : List D) (G : Hq) : Rs D := match xs with
  | [.int i, .int j] => .ok (.int (if j > i then j else i)) G
  | _ => .bad
def minD (xs : List D) (G : Hq) : Rs D := match xs with
  | [.int i, .int j] => .ok (.int (if j < i then j else i)) G
  | _ => .bad
def sortI (ns : List Int) : List Int := ns.mergeSort (fun a b => decide (a ≤ b))
theorem sortI_perm (ns : List Int) : (sortI ns).Perm ns := List.mergeSort_perm _ _
theorem sortI_up (ns : List Int) : (sortI ns).Pairwise (· ≤ ·) := by
  have := List.pairwise_mergeSort (le := fun a b : Int => decide (a ≤ b)) (fun a b c h1 h2 => by simp only [decide_eq_true_eq] at *; omega) (fun a b => by simp only [Bool.or_eq_true, decide_eq_true_eq]; omega) ns
  exact this.imp fun h => by simpa using h
def sortedD (xs : List D) (G : Hq) : Rs D := match xs with
  | [d] => match (lstOf G d).bind intsD with
    | some ns => .ok (.ref G.length) (G ++ [.lst ((sortI ns).map D.int)])
    | none => .bad
  | _ => .bad
section
variable {X : Cx} {W : L2.St → XW} {k : Nat}
theorem vrs_one {K : PySem.W.Frag} {m : List Addr} {H : Hp} {d : D} {vs : List V} (h : VRs K m H [d] vs) : ∃ v, vs = [v] ∧ VR K m H d v := by
  cases h with
  | cons a b => cases b; exact ⟨_, rfl, a⟩
theorem vrs_two {K : PySem.W.Frag} {m : List Addr} {H : Hp} {d e : D} {vs : List V} (h : VRs K m H [d, e] vs) : ∃ v w, vs = [v, w] ∧ VR K m H d v ∧ VR K m H e w := by
  cases h with
  | cons a b => cases b with
    | cons c d => cases d; exact ⟨_, _, rfl, a, c⟩
theorem f_len : CallF X (.builtin "len") lenD := by
  intro pins s σ m G H xs vs us Q Wx I S rx ru q
  unfold lenD at q
  split at q
  · split at q
    · rename_i z hz
      obtain ⟨v, rfl, r⟩ := vrs_one rx
      cases r
      exact call_len_str pins s σ H _ us Q I ru ⟨z, rfl, hz, q.here S (.int _)⟩
    · exact q.elim
  · rename_i d _
    obtain ⟨v, rfl, r⟩ := vrs_one rx
    split at q
    · rename_i ys hl
      obtain ⟨a, ws, rfl, h1, h2⟩ := lst_at S r hl
      exact call_len_seq pins s σ H _ us Q I ru ⟨a, ws, rfl, .inl h1, by rw [← h2.length]; exact q.here S (.int _)⟩
    · split at q
      · rename_i ys hl
        obtain ⟨a, ws, rfl, h1, h2⟩ := tup_at r hl
        exact call_len_seq pins s σ H _ us Q I ru ⟨a, ws, rfl, .inr h1, by rw [← h2.length]; exact q.here S (.int _)⟩
      · exact q.elim
  · exact q.elim
theorem f_abs : CallF X (.builtin "abs") absD := by
  intro pins s σ m G H xs vs us Q Wx I S rx ru q
  unfold absD at q
  split at q
  · obtain ⟨v, rfl, r⟩ := vrs_one rx
    cases r
    exact call_abs pins s σ H _ us Q I ru ⟨_, rfl, q.here S (.int _)⟩
  · exact q.elim
theorem f_int : CallF X (.type "int") intD := by
  intro pins s σ m G H xs vs us Q Wx I S rx ru q
  unfold intD at q
  split at q
  · obtain ⟨v, rfl, r⟩ := vrs_one rx
    cases r
    exact call_int1 pins s σ H _ us Q I ru (.inl ⟨_, rfl, q.here S (.int _)⟩)
  · obtain ⟨v, rfl, r⟩ := vrs_one rx
    cases r
    exact call_int1 pins s σ H _ us Q I ru (.inr ⟨_, rfl, q.here S (.int _)⟩)
  · exact q.elim
theorem f_list : CallF X (.type "list") listD := by
  intro pins s σ m G H xs vs us Q Wx I S rx ru q
  unfold listD at q
  split at q
  · obtain ⟨v, rfl, r⟩ := vrs_one rx
    split at q
    · rename_i ys hl
      obtain ⟨a, ws, rfl, h1, h2⟩ := lst_at S r hl
      exact call_list_of pins s σ H _ us Q I ru ⟨a, ws, rfl, .inl h1, fun p hp => lst_new S h2 q hp⟩
    · split at q
      · rename_i ys hl
        obtain ⟨a, ws, rfl, h1, h2⟩ := tup_at r hl
        exact call_list_of pins s σ H _ us Q I ru ⟨a, ws, rfl, .inr h1, fun p hp => lst_new S h2 q hp⟩
      · exact q.elim
  · exact q.elim
theorem f_tuple : CallF X (.type "tuple") tupleD := by
  intro pins s σ m G H xs vs us Q Wx I S rx ru q
  unfold tupleD at q
  split at q
  · obtain ⟨v, rfl, r⟩ := vrs_one rx
    have r' := r
    cases r with
    | tup h1 h2 => exact call_tuple_of pins s σ H _ us Q I ru ⟨_, _, rfl, .inr ⟨SqT.of h1, q.here S r'⟩⟩
  · obtain ⟨v, rfl, r⟩ := vrs_one rx
    split at q
    · rename_i ys hl
      obtain ⟨a, ws, rfl, h1, h2⟩ := lst_at S r hl
      refine call_tuple_of pins s σ H _ us Q I ru ⟨a, ws, rfl, .inl ⟨h1, fun p hp => ?_⟩⟩
      exact q m _ (.ref p) (xt_more hp) (S.more hp) (.tup upd_same (h2.mono (xt_more hp)))
    · exact q.elim
  · exact q.elim
theorem f_sum (C : Ctx X W k) : CallF X (.builtin "sum") sumD := by
  intro pins s σ m G H xs vs us Q Wx I S rx ru q
  unfold sumD at q
  split at q
  · obtain ⟨v, rfl, r⟩ := vrs_one rx
    split at q
    · rename_i ns h
      obtain ⟨ys, hl, hi⟩ := Option.bind_eq_some_iff.mp h
      obtain ⟨a, ws, rfl, h1, h2⟩ := lst_at S r hl
      have e := intsD_eq hi
      subst e
      have e := vrs_ints h2
      subst e
      exact cr_sum C.calm pins s σ H _ us Q I ru ⟨a, ns, rfl, h1, q.here S (.int _)⟩
    · exact q.elim
  · exact q.elim
theorem f_all (C : Ctx X W k) : CallF X (.builtin "all") allD := by
  intro pins s σ m G H xs vs us Q Wx I S rx ru q
  unfold allD at q
  split at q
  · obtain ⟨v, rfl, r⟩ := vrs_one rx
    split at q
    · rename_i ns h
      obtain ⟨ys, hl, hi⟩ := Option.bind_eq_some_iff.mp h
      obtain ⟨a, ws, rfl, h1, h2⟩ := lst_at S r hl
      have e := blsD_eq hi
      subst e
      have e := vrs_bls h2
      subst e
      exact cr_all C.calm pins s σ H _ us Q I ru ⟨a, ns, rfl, h1, q.here S (.bl _)⟩
    · exact q.elim
  · exact q.elim
theorem f_any (C : Ctx X W k) : CallF X (.builtin "any") anyD := by
  intro pins s σ m G H xs vs us Q Wx I S rx ru q
  unfold anyD at q
  split at q
  · obtain ⟨v, rfl, r⟩ := vrs_one rx
    split at q
    · rename_i ns h
      obtain ⟨ys, hl, hi⟩ := Option.bind_eq_some_iff.mp h
      obtain ⟨a, ws, rfl, h1, h2⟩ := lst_at S r hl
      have e := blsD_eq hi
      subst e
      have e := vrs_bls h2
      subst e
      exact cr_any C.calm pins s σ H _ us Q I ru ⟨a, ns, rfl, h1, q.here S (.bl _)⟩
    · exact q.elim
  · exact q.elim
theorem f_max (C : Ctx X W k) : CallF X (.builtin "max") maxD := by
  intro pins s σ m G H xs vs us Q Wx I S rx ru q
  unfold maxD at q
  split at q
  · obtain ⟨v, w, rfl, r1, r2⟩ := vrs_two rx
    cases r1; cases r2
    exact call_max2 C.calm pins s σ H _ us Q I ru ⟨_, _, rfl, q.here S (.int _)⟩
  · exact q.elim
theorem f_min (C : Ctx X W k) : CallF X (.builtin "min") minD := by
  intro pins s σ m G H xs vs us Q Wx I S rx ru q
  unfold minD at q
  split at q
  · obtain ⟨v, w, rfl, r1, r2⟩ := vrs_two rx
    cases r1; cases r2
    exact call_min2 C.calm pins s σ H _ us Q I ru ⟨_, _, rfl, q.here S (.int _)⟩
  · exact q.elim
theorem f_sorted : CallF X (.builtin "sorted") sortedD := by
  intro pins s σ m G H xs vs us Q Wx I S rx ru q
  unfold sortedD at q
  split at q
  · obtain ⟨v, rfl, r⟩ := vrs_one rx
    split at q
    · rename_i ns h
      obtain ⟨ys, hl, hi⟩ := Option.bind_eq_some_iff.mp h
      obtain ⟨a, ws, rfl, h1, h2⟩ := lst_at S r hl
      have e := intsD_eq hi
      subst e
      have e := vrs_ints h2
      subst e
      refine cr_sortedI pins s σ H _ us Q I ru ⟨a, ns, rfl, h1, fun ns' p hp hu hn => ?_⟩
      have e : ns' = sortI ns := PySem.W.ksm_same (hp.trans (sortI_perm ns).symm) hu (sortI_up ns)
      subst e
      exact lst_new S (ints_vrs _) q hn
    · exact q.elim
  · exact q.elim
/-! ### methods -/
def methC (ok : Hq → D → Bool) (g : D → List D → Hq → Rs D) (o : EF) (a : AF) : EF := fun σ G => (o σ G).bind fun x G1 => if ok G1 x then (a σ G1).bind fun ys G2 => g x ys G2 else .bad
def isL (G : Hq) (d : D) : Bool := (lstOf G d).isSome
def isD (G : Hq) (d : D) : Bool := match d with
  | .ref p => match G[p]? with
    | some (.dK _) => true
    | some (.dT _) => true
    | _ => false
  | _ => false
/-- a method by values -/
def MtF (X : Cx) (id : String) (g : D → List D → Hq → Rs D) : Prop :=
  ∀ (pins : List (Addr × Obj)) (s : Shared) (σ : L2.St) (m : List Addr) (G : Hq) (H : Hp) (x : D) (xs : List D) (v : V) (vs : List V) (u : Value) (us : List Value) (Q : VK) (Wx : XW), Inv X pins σ H s → Sim X.K m G H → VR X.K m H x v → VRs X.K m H xs vs → RelV v u → Vals vs us →
    PostR X.K X.mg (VR X.K) Wx m H (g x xs G) Q → wpAny (model X.prog X.w) X.A (call (.builtin id) (u :: us)) (EP X pins σ Q) X.xe s
theorem isL_ty {m : List Addr} {G : Hq} {H : Hp} {d : D} {v : V} (S : Sim X.K m G H) (r : VR X.K m H d v) (h : isL G d = true) : tyV X.K "list" v H := by
  obtain ⟨xs, hl⟩ := Option.isSome_iff_exists.mp h
  obtain ⟨a, ws, rfl, h1, h2⟩ := lst_at S r hl
  exact .inl ⟨rfl, ws, h1⟩
theorem isD_ty {m : List Addr} {G : Hq} {H : Hp} {d : D} {v : V} (S : Sim X.K m G H) (r : VR X.K m H d v) (h : isD G d = true) : tyV X.K "dict" v H := by
  unfold isD at h
  split at h
  · rename_i p
    cases r with
    | ref ha =>
      split at h
      · rename_i kvs hg
        obtain ⟨vs, h1, _⟩ := S.cell p _ _ ha hg
        exact .inr (.inr (.inl ⟨rfl, .inl ⟨vs, h1⟩⟩))
      · rename_i kvs hg
        obtain ⟨vs, h1, _⟩ := S.cell p _ _ ha hg
        exact .inr (.inr (.inl ⟨rfl, .inr ⟨vs, h1⟩⟩))
      · cases h
  · cases h
theorem xe_bm {o e : Expr} {es : List Expr} {fo : EF} {fr : AF} {T id : String} {name : Str} {apos cpos : Pos} {ok : Hq → D → Bool} {g : D → List D → Hq → Rs D} (pa : PlainAttrs T) (slot : Slot T name id) (hm : MtF X id g)
    (hok : ∀ {m : List Addr} {G : Hq} {H : Hp} {d : D} {v : V}, Sim X.K m G H → VR X.K m H d v → ok G d = true → tyV X.K T v H) (ho : PE X o (tE X W fo)) (ha : PA X (e :: es) (tA X W fr)) (hty : typeOf (.builtin id) = pure (.type "method_descriptor"))
    (hbase : attributeBase o name X.env (eval o X.env) = eval o X.env := by rfl)
    (hfew : ((backTo cpos (starEach (e :: es) X.env)).all (fun x => !x.1) && (backToKw cpos (keywordEach [] X.env)).all (fun x => x.1.isSome)
      && decide ((e :: es).length + ([] : List Keyword).length + (if ([] : List Keyword).isEmpty then 0 else 1) < 30)) = true := by rfl)
    (hline : (apos.endLine == cpos.line) = true := by rfl) (hs : starEach (e :: es) X.env = (false, eval e X.env) :: starEach es X.env := by rfl) (hplain : (backTo cpos (starEach es X.env)).any (·.1) = false := by rfl) :
    PE X (.Call (.Attribute o name apos) (e :: es) [] cpos) (tE X W (methC ok g fo fr)) := by
  have mr : MtR X id (fun v vs H Q => ∃ m G x xs, Sim X.K m G H ∧ VR X.K m H x v ∧ VRs X.K m H xs vs ∧ ∃ Wx, PostR X.K X.mg (VR X.K) Wx m H (g x xs G) Q) := by
    intro pins s σ H v vs u us Q I r1 r2 ⟨m, G, x, xs, S, h1, h2, Wx, h3⟩
    exact hm pins s σ m G H x xs v vs u us Q Wx I S h1 h2 r1 r2 h3
  refine ⟨fun pins s σ H Q I ⟨m, σ', G, S, R, q⟩ => (pe_bm pa slot hty mr ho ha hbase hfew hline hs hplain).run pins s σ H Q I ?_⟩
  refine ⟨m, σ', G, S, R, (PostR.bnd (R := VR X.K) q).imp fun v H1 ⟨m1, G1, x, e1, S1, r1, _, h1⟩ => ?_⟩
  cases hk : ok G1 x with
  | false => simp only [hk] at h1; exact h1.elim
  | true =>
    simp only [hk, if_true] at h1
    refine ⟨hok S1 r1 hk, m1, σ', G1, S1, R.mono e1, (PostR.bnd (R := VRs X.K) h1).imp fun vs H2 ⟨m2, G2, xs, e2, S2, r2, _, h2⟩ => ?_⟩
    exact ⟨m2, G2, x, xs, S2, r1.mono e2, r2, W σ, h2⟩
def appendD (x : D) (ys : List D) (G : Hq) : Rs D := match x, ys with
  | .ref p, [y] => match G[p]? with
    | some (.lst xs) => if xs.length < 16777216 then .ok .non (G.set p (.lst (xs ++ [y]))) else .bad
    | _ => .bad
  | _, _ => .bad
theorem m_append : MtF X "list.append" appendD := by
  intro pins s σ m G H x xs v vs u us Q Wx I S rx rxs ru rus q
  unfold appendD at q
  split at q
  · rename_i p y
    split at q
    · rename_i ws hg
      split at q
      · rename_i hz
        obtain ⟨a, ts, ha, hv, r⟩ := cell_lst S hg
        obtain ⟨w, rfl, ry⟩ := vrs_one rxs
        cases rx with
        | ref ha' =>
          rw [ha] at ha'; cases ha'
          have hm : Mut (H a) := by rw [hv]; trivial
          refine mt_append pins s σ H _ _ u us Q I ru rus ⟨a, ts, w, rfl, rfl, hv, by rw [← r.length]; exact hz, ?_⟩
          exact q m _ .non (xt_wr hm) (S.wr ha hm ⟨_, upd_same, (r.mono (xt_wr hm)).append (.cons (ry.mono (xt_wr hm)) .nil)⟩) .non
      · exact q.elim
    · exact q.elim
  · exact q.elim
theorem m_append_ty : typeOf (.builtin "list.append") = pure (.type "method_descriptor") := PySem.F.type_list_append
/-! ### what is walked -/
def itL (p : Nat) : Src := fun k G => match lstOf G (.ref p) with
  | some xs => match xs[k]? with
    | some d => .item d
    | none => .stop
  | none => .bad
def itT (xs : List D) : Src := fun k _ => match xs[k]? with
  | some d => .item d
  | none => .stop
def itS (x : Str) : Src := fun k _ => match x.cps[k]? with
  | some c => .item (.str ⟨#[c]⟩)
  | none => .stop
def itR (lo step : Int) (n : Nat) : Src := fun k _ => if k < n then .item (.int (lo + k * step)) else .stop
def iterD (d : D) (G : Hq) : Rs Src := match d with
  | .ref p => if isL G (.ref p) then .ok (itL p) G else .bad
  | .tup xs => .ok (itT xs) G
  | .kt xs => .ok (itT xs) G
  | .kl xs => .ok (itT xs) G
  | .str x => .ok (itS x) G
  | _ => .bad
def iterC (e : EF) : IF := fun σ G => (e σ G).bind iterD
theorem itL_ok {K : PySem.W.Frag} {m0 : List Addr} {H0 : Hp} {p : Nat} {a : Addr} (ha : m0[p]? = some a) : ItOk K m0 H0 (itL p) (Itl K a) := by
  intro k m G H x S
  unfold itL
  cases hl : lstOf G (.ref p) with
  | none => trivial
  | some xs =>
    obtain ⟨b, vs, e, h1, h2⟩ := lst_at S (.ref (x.at ha)) hl
    cases e
    simp only
    cases hd : xs[k]? with
    | some d =>
      obtain ⟨v, hv, r⟩ := h2.get hd
      refine ⟨⟨vs, v, h1, hv⟩, fun w H' hy => ?_⟩
      obtain ⟨rfl, hy⟩ := hy
      have := hy vs h1
      rw [hv] at this
      cases this
      exact ⟨.refl, S, r⟩
    | none => exact ⟨vs, h1, by rw [← h2.length]; exact List.getElem?_eq_none_iff.mp hd⟩
theorem itT_ok {K : PySem.W.Frag} {m0 : List Addr} {H0 : Hp} {xs : List D} {vs : List V} {a : Addr} (h1 : SqT K H0 a vs) (h2 : VRs K m0 H0 xs vs) : ItOk K m0 H0 (itT xs) (Itt K a) := by
  intro k m G H x S
  have h1' := x.seq _ _ h1
  have h2' := h2.mono x
  unfold itT
  cases hd : xs[k]? with
  | some d =>
    obtain ⟨v, hv, r⟩ := h2'.get hd
    refine ⟨⟨vs, v, h1', hv⟩, fun w H' hy => ?_⟩
    obtain ⟨rfl, hy⟩ := hy
    have := hy vs h1'
    rw [hv] at this
    cases this
    exact ⟨.refl, S, r⟩
  | none => exact ⟨vs, h1', by rw [← h2'.length]; exact List.getElem?_eq_none_iff.mp hd⟩
theorem itTL_ok {K : PySem.W.Frag} {m0 : List Addr} {H0 : Hp} {xs : List D} {vs : List V} {a : Addr} (h1 : KLst K a vs) (h2 : VRs K m0 H0 xs vs) : ItOk K m0 H0 (itT xs) (Itl K a) := by
  intro k m G H x S
  have h1' : SqL K H a vs := .inr h1
  have h2' := h2.mono x
  unfold itT
  cases hd : xs[k]? with
  | some d =>
    obtain ⟨v, hv, r⟩ := h2'.get hd
    refine ⟨⟨vs, v, h1', hv⟩, fun w H' hy => ?_⟩
    obtain ⟨rfl, hy⟩ := hy
    have := hy vs h1'
    rw [hv] at this
    cases this
    exact ⟨.refl, S, r⟩
  | none => exact ⟨vs, h1', by rw [← h2'.length]; exact List.getElem?_eq_none_iff.mp hd⟩
theorem itS_ok {K : PySem.W.Frag} {m0 : List Addr} {H0 : Hp} {x : Str} : ItOk K m0 H0 (itS x) (Its x) := by
  intro k m G H xt S
  unfold itS
  cases hd : x.cps[k]? with
  | some d =>
    refine ⟨(Array.getElem?_eq_some_iff.mp hd).1, fun w H' hy => ?_⟩
    obtain ⟨rfl, c, hc, rfl⟩ := hy
    rw [hd] at hc; cases hc
    exact ⟨.refl, S, .str _⟩
  | none => exact Array.getElem?_eq_none_iff.mp hd
theorem itR_ok {K : PySem.W.Frag} {m0 : List Addr} {H0 : Hp} {lo : Int} {n : Nat} : ItOk K m0 H0 (itR lo 1 n) (Itr lo n) := by
  intro k m G H xt S
  unfold itR
  by_cases h : k < n
  · rw [if_pos h]
    refine ⟨h, fun w H' hy => ?_⟩
    obtain ⟨rfl, rfl⟩ := hy
    rw [Int.mul_one]
    exact ⟨.refl, S, .int _⟩
  · rw [if_neg h]
    exact Nat.le_of_not_lt h
theorem itC_ok {K : PySem.W.Frag} {m0 : List Addr} {H0 : Hp} {lo c : Int} {n : Nat} : ItOk K m0 H0 (itR lo c n) (Itc lo c n) := by
  intro k m G H xt S
  unfold itR
  by_cases h : k < n
  · rw [if_pos h]
    refine ⟨h, fun w H' hy => ?_⟩
    obtain ⟨rfl, rfl⟩ := hy
    exact ⟨.refl, S, .int _⟩
  · rw [if_neg h]
    exact Nat.le_of_not_lt h
theorem xi_val {e tg : Expr} {fa : EF} (he : PE X e (tE X W fa)) : PI X tg e (tI X W (iterC fa)) := by
  refine ⟨fun pins s σ H R I ⟨m, σ', G, S, Rr, q⟩ => ?_⟩
  have q' : tE X W fa σ H fun v H1 => ∃ m1 G1 d, Sim X.K m1 G1 H1 ∧ VR X.K m1 H1 d v ∧ PostR X.K X.mg (ItOk X.K) (W σ) m1 H1 (iterD d G1) R :=
    ⟨m, σ', G, S, Rr, (PostR.bnd (R := VR X.K) q).imp fun v H1 ⟨m1, G1, d, e1, S1, r1, _, h1⟩ => ⟨m1, G1, d, S1, r1, h1⟩⟩
  refine thn (he.run pins s σ H _ I q') fun u s1 ⟨v, H1, I1, rv, m1, G1, d, S1, r1, h1⟩ => ?_
  have tupGo : ∀ {xs : List D}, tupOf d = some xs → iterD d G1 = .ok (itT xs) G1 → wpAny (model X.prog X.w) X.A (pyIter u) (PIE X pins σ tg R) X.xe s1 := by
    intro xs ht e
    obtain ⟨a, vs, rfl, h2, h3⟩ := tup_at r1 ht
    cases rv
    rw [e] at h1
    obtain ⟨its, rr, pl, hz⟩ := I1.tuple h2
    refine wpAny_pyIter_tuple (show s1.heap.IsTuple a its.toArray from pl) ?_
    exact pi_one (tk := s1.toks) I1 _ (turn_tuple a _) ⟨_, Heap.get?_push_size _ rfl, rfl, rfl⟩ (PostR.here h1 S1 (itT_ok h2 h3))
  cases d with
  | tup xs => exact tupGo rfl rfl
  | kt xs => exact tupGo rfl rfl
  | ref p =>
    unfold iterD at h1
    simp only at h1
    split at h1
    · rename_i hl
      obtain ⟨xs, hl⟩ := Option.isSome_iff_exists.mp hl
      obtain ⟨a, vs, rfl, h2, h3⟩ := lst_at S1 r1 hl
      cases rv
      cases r1 with
      | ref ha =>
        obtain ⟨its, rr, pl, hz⟩ := I1.list h2
        refine wpAny_pyIter_list pl.isList ?_
        exact pi_one (tk := s1.toks) I1 _ (turn_list a _) ⟨_, Heap.get?_push_size _ rfl, rfl, rfl⟩ (PostR.here h1 S1 (itL_ok ha))
    · exact h1.elim
  | str x =>
    cases r1
    obtain ⟨t, rfl⟩ := rv
    have fin : R (Its x) H1 := PostR.here (x := itS x) h1 S1 itS_ok
    cases ha : x.cps.all (· < 128)
    · exact wpAny_pyIter_wide ha (pi_one (tk := s1.toks) I1 _ (turn_str _ x t "str_iterator" (.inr rfl)) ⟨_, Heap.get?_push_size _ rfl, rfl, rfl⟩ fin)
    · exact wpAny_pyIter_ascii ha (pi_one (tk := s1.toks) I1 _ (turn_str _ x t "str_ascii_iterator" (.inl rfl)) ⟨_, Heap.get?_push_size _ rfl, rfl, rfl⟩ fin)
  | kl xs =>
    cases r1 with
    | kl h2 h3 =>
      cases rv
      obtain ⟨its, rr, pl, hz⟩ := I1.list (.inr h2)
      refine wpAny_pyIter_list pl.isList ?_
      exact pi_one (tk := s1.toks) I1 _ (turn_list _ _) ⟨_, Heap.get?_push_size _ rfl, rfl, rfl⟩ (PostR.here (x := itT xs) h1 S1 (itTL_ok h2 h3))
  | non => exact h1.elim
  | bl _ => exact h1.elim
  | int _ => exact h1.elim
def small62 (i : Int) : Bool := decide (-(2 ^ 62) ≤ i) && decide (i < 2 ^ 62)
theorem small62_spec {i : Int} (h : small62 i = true) : -(2 ^ 62) ≤ i ∧ i < 2 ^ 62 := by
  unfold small62 at h
  rw [Bool.and_eq_true] at h
  exact ⟨of_decide_eq_true h.1, of_decide_eq_true h.2⟩
def rangeD (xs : List D) (G : Hq) : Rs Src := match xs with
  | [.int j] => if small62 j then .ok (itR 0 1 j.toNat) G else .bad
  | [.int i, .int j] => if small62 i && small62 j then .ok (itR i 1 (j - i).toNat) G else .bad
  | [.int i, .int j, .int c] => if c ≠ 0 ∧ c.natAbs < 1073741824 ∧ Builtin.Range.small i j c = true ∧ 0 ≤ Builtin.Range.rangeSize i j c then .ok (itR i c (Builtin.Range.rangeSize i j c).toNat) G else .bad
  | _ => .bad
def srcC (g : List D → Hq → Rs Src) (a : AF) : IF := fun σ G => (a σ G).bind g
variable {tg a b c : Expr} {fr : AF} {pos p : Pos}
theorem src_read {g : List D → Hq → Rs Src} {σ : L2.St} {H : Hp} {R : It → Hp → Prop} (h : tI X W (srcC g fr) σ H R) : tA X W fr σ H fun vs H1 => ∃ m1 G1 xs, Sim X.K m1 G1 H1 ∧ VRs X.K m1 H1 xs vs ∧ PostR X.K X.mg (ItOk X.K) (W σ) m1 H1 (g xs G1) R := by
  obtain ⟨m, σ', G, S, Rr, q⟩ := h
  exact ⟨m, σ', G, S, Rr, (PostR.bnd (R := VRs X.K) q).imp fun v H1 ⟨m1, G1, d, e1, S1, r1, _, h1⟩ => ⟨m1, G1, d, S1, r1, h1⟩⟩
theorem tA_imp {σ : L2.St} {H : Hp} {Q Q' : List V → Hp → Prop} (h : tA X W fr σ H Q) (i : ∀ vs H1, Q vs H1 → Q' vs H1) : tA X W fr σ H Q' := by
  obtain ⟨m, σ', G, S, Rr, q⟩ := h
  exact ⟨m, σ', G, S, Rr, q.imp i⟩
theorem vrs_len1 {K : PySem.W.Frag} {m : List Addr} {H : Hp} {xs : List D} {j : Int} (h : VRs K m H xs [.int j]) : xs = [.int j] := by
  cases h with
  | cons a b => cases b; cases a; rfl
theorem xi_range1 (hm : X.mg "range" = none) (ha : PA X [a] (tA X W fr)) (hl : ALen fr 1) (hg : Gl X "range" := by rfl) (hs : starEach [a] X.env = [(false, eval a X.env)] := by rfl) : PI X tg (.Call (.Name "range" p) [a] [] pos) (tI X W (srcC rangeD fr)) := by
  refine ⟨fun pins s σ H R I h => (pi_range1 hg hm ha hs).run pins s σ H R I ?_⟩
  obtain ⟨m, σ', G, S, Rr, q⟩ := h
  refine ⟨m, σ', G, S, Rr, (PostR.bnd (R := VRs X.K) q).imp fun vs H1 ⟨m1, G1, xs, e1, S1, r1, er, h1⟩ => ?_⟩
  have len := hl _ _ _ _ er
  unfold rangeD at h1
  split at h1
  · split at h1
    · rename_i j hj
      obtain ⟨v, rfl, r⟩ := vrs_one r1
      cases r
      exact ⟨j, rfl, (small62_spec hj).1, (small62_spec hj).2, h1.here S1 itR_ok⟩
    · exact h1.elim
  · cases len
  · cases len
  · exact h1.elim
theorem xi_range2 (hm : X.mg "range" = none) (ha : PA X [a, b] (tA X W fr)) (hl : ALen fr 2) (hg : Gl X "range" := by rfl) (hs : starEach [a, b] X.env = [(false, eval a X.env), (false, eval b X.env)] := by rfl) (hs2 : starEach [b] X.env = [(false, eval b X.env)] := by rfl) : PI X tg (.Call (.Name "range" p) [a, b] [] pos) (tI X W (srcC rangeD fr)) := by
  refine ⟨fun pins s σ H R I h => (pi_range2 hg hm ha hs hs2).run pins s σ H R I ?_⟩
  obtain ⟨m, σ', G, S, Rr, q⟩ := h
  refine ⟨m, σ', G, S, Rr, (PostR.bnd (R := VRs X.K) q).imp fun vs H1 ⟨m1, G1, xs, e1, S1, r1, er, h1⟩ => ?_⟩
  have len := hl _ _ _ _ er
  unfold rangeD at h1
  split at h1
  · cases len
  · split at h1
    · rename_i i j hj
      rw [Bool.and_eq_true] at hj
      obtain ⟨v, w, rfl, r, r'⟩ := vrs_two r1
      cases r; cases r'
      exact ⟨i, j, rfl, ⟨(small62_spec hj.1).1, (small62_spec hj.1).2, (small62_spec hj.2).1, (small62_spec hj.2).2⟩, h1.here S1 itR_ok⟩
    · exact h1.elim
  · cases len
  · exact h1.elim
theorem xi_range3 (hm : X.mg "range" = none) (ha : PA X [a, b, c] (tA X W fr)) (hl : ALen fr 3) (hg : Gl X "range" := by rfl) (hs : starEach [a, b, c] X.env = (false, eval a X.env) :: starEach [b, c] X.env := by rfl) (hpl : (backTo pos (starEach [b, c] X.env)).any (·.1) = false := by rfl) : PI X tg (.Call (.Name "range" p) [a, b, c] [] pos) (tI X W (srcC rangeD fr)) := by
  refine ⟨fun pins s σ H R I h => (pi_range3 hg hm ha hs hpl).run pins s σ H R I ?_⟩
  obtain ⟨m, σ', G, S, Rr, q⟩ := h
  refine ⟨m, σ', G, S, Rr, (PostR.bnd (R := VRs X.K) q).imp fun vs H1 ⟨m1, G1, xs, e1, S1, r1, er, h1⟩ => ?_⟩
  have len := hl _ _ _ _ er
  unfold rangeD at h1
  split at h1
  · cases len
  · cases len
  · split at h1
    · rename_i i j k hj
      cases r1 with
      | cons r r1 =>
        obtain ⟨v, w, rfl, r', r2⟩ := vrs_two r1
        cases r; cases r'; cases r2
        exact ⟨i, j, k, _, rfl, ⟨hj.1, hj.2.1, hj.2.2.1, (Int.toNat_of_nonneg hj.2.2.2).symm⟩, h1.here S1 itC_ok⟩
    · exact h1.elim
  · exact h1.elim
end
end SX

set_option Elab.async false
set_option linter.all false
set_option maxRecDepth 100000
set_option maxHeartbeats 1000000
namespace SX
open PySem PySem.Spec PyProof.Rows L2

def truthD (d : D) (G : Hq) : Rs Bool := match d with
  | .non => .ok false G
  | .bl b => .ok b G
  | .int i => .ok (i != 0) G
  | .str y => if y.length ≤ 16777216 then .ok ((y.length : Int) != 0) G else .bad
  | .tup xs => .ok (!xs.isEmpty) G
  | .kt xs => .ok (!xs.isEmpty) G
  | .kl xs => .ok (!xs.isEmpty) G
  | .ref p => match G[p]? with
    | some (.lst xs) => .ok (!xs.isEmpty) G
    | some (.ro xs) => .ok (!xs.isEmpty) G
    | some (.dK kvs) => .ok (!kvs.isEmpty) G
    | _ => .bad
def truthT (a : EF) : TF := fun σ G => (a σ G).bind truthD
def notC (a : EF) : EF := fun σ G => (a σ G).bind fun x G1 => (truthD x G1).bind fun b G2 => .ok (.bl (!b)) G2
/-- x and y, x or y as values: the left one a bool -/
def andC (a b : EF) : EF := fun σ G => (a σ G).bind fun x G1 => match x with
  | .bl true => b σ G1
  | .bl false => .ok (.bl false) G1
  | _ => .bad
def orC (a b : EF) : EF := fun σ G => (a σ G).bind fun x G1 => match x with
  | .bl true => .ok (.bl true) G1
  | .bl false => b σ G1
  | _ => .bad
def isNonC (neg : Bool) (a : EF) : EF := fun σ G => (a σ G).bind (isNonD neg)
def parC (i j : Nat) (a : AF) : SF := fun σ G => onE (a σ G) σ fun ds G1 => match ds with
  | [x, y] => .nx ((σ.set i (some x)).set j (some y)) G1
  | _ => .bad
def par3C (i j l : Nat) (a : AF) : SF := fun σ G => onE (a σ G) σ fun ds G1 => match ds with
  | [x, y, z] => .nx (((σ.set i (some x)).set j (some y)).set l (some z)) G1
  | _ => .bad
section
variable {X : Cx} {W : L2.St → XW} {k : Nat} {e a b c : Expr} {es : List Expr} {fa fb : EF} {ta tb : TF} {fr : AF} {pos p : Pos}
theorem vrs_empty {K : PySem.W.Frag} {m : List Addr} {H : Hp} {xs : List D} {vs : List V} (h : VRs K m H xs vs) : xs.isEmpty = vs.isEmpty := by cases h <;> rfl
theorem vrk_empty {κ : Type} {K : PySem.W.Frag} {m : List Addr} {H : Hp} {xs : List (κ × D)} {vs : List (κ × V)} (h : VRk K m H xs vs) : xs.isEmpty = vs.isEmpty := by cases h <;> rfl
theorem tru_at {m : List Addr} {G G' : Hq} {H : Hp} {d : D} {v : V} {t : Bool} (S : Sim X.K m G H) (r : VR X.K m H d v) (h : truthD d G = .ok t G') : G' = G ∧ TruV X.K v H t := by
  cases r with
  | non => cases h; exact ⟨rfl, rfl⟩
  | bl b => cases h; exact ⟨rfl, rfl⟩
  | int i => cases h; exact ⟨rfl, rfl⟩
  | str x =>
    unfold truthD at h
    simp only at h
    split at h
    · rename_i hz; cases h; exact ⟨rfl, hz, rfl⟩
    · cases h
  | tup h1 h2 => cases h; exact ⟨rfl, .inr (.inl ⟨_, SqT.of h1, by rw [vrs_empty h2]⟩)⟩
  | kt h1 h2 => cases h; exact ⟨rfl, .inr (.inl ⟨_, h1, by rw [vrs_empty h2]⟩)⟩
  | kl h1 h2 => cases h; exact ⟨rfl, .inl ⟨_, .inr h1, by rw [vrs_empty h2]⟩⟩
  | ref ha =>
    unfold truthD at h
    simp only at h
    split at h
    · rename_i xs hg
      cases h
      obtain ⟨vs, h1, h2⟩ := S.cell _ _ _ ha hg
      exact ⟨rfl, .inl ⟨vs, SqL.of h1, by rw [vrs_empty h2]⟩⟩
    · rename_i xs hg
      cases h
      obtain ⟨vs, o, h1, h2⟩ := S.cell _ _ _ ha hg
      exact ⟨rfl, .inl ⟨vs, .inl (.inr ⟨o, h1⟩), by rw [vrs_empty h2]⟩⟩
    · rename_i xs hg
      cases h
      obtain ⟨vs, h1, h2⟩ := S.cell _ _ _ ha hg
      exact ⟨rfl, .inr (.inr ⟨vs, h1, by rw [vrk_empty h2]⟩)⟩
    · cases h
theorem truthD_ok {d : D} {G : Hq} {c : Str} {i : Nat} {G' : Hq} : truthD d G ≠ .ex c i G' := by
  intro h
  unfold truthD at h
  split at h <;> first
    | (cases h; done)
    | (split at h <;> cases h)
theorem xt_truth (ha : PE X a (tE X W fa)) (he : ∀ whole, isTrue a X.env whole = (do let v ← whole; standAt a.pos; holding [v] (truthy v)) := by intro _; rfl) : PT X a (tT X W (truthT fa)) := by
  refine ⟨fun pins s σ H Q I ⟨m, σ', G, S, R, q⟩ => (pt_truth ha he).run pins s σ H Q I ?_⟩
  refine ⟨m, σ', G, S, R, (PostR.bnd (R := VR X.K) q).imp fun v H1 ⟨m1, G1, x, e1, S1, r1, er, h1⟩ => ?_⟩
  cases et : truthD x G1 with
  | ok t G2 =>
    rw [et] at h1
    obtain ⟨rfl, tr⟩ := tru_at S1 r1 et
    exact ⟨t, tr, h1.here S1 rfl⟩
  | ex c i G2 => exact absurd et truthD_ok
  | bad => rw [et] at h1; exact h1.elim
theorem xe_not (ha : PE X a (tE X W fa)) : PE X (.UnaryOp .Not a pos) (tE X W (notC fa)) := by
  refine ⟨fun pins s σ H Q I ⟨m, σ', G, S, R, q⟩ => (pe_notT ha).run pins s σ H Q I ?_⟩
  refine ⟨m, σ', G, S, R, (PostR.bnd (R := VR X.K) q).imp fun v H1 ⟨m1, G1, x, e1, S1, r1, er, h1⟩ => ?_⟩
  cases et : truthD x G1 with
  | ok t G2 =>
    rw [et] at h1
    obtain ⟨rfl, tr⟩ := tru_at S1 r1 et
    exact ⟨t, tr, PostR.here h1 S1 (.bl (!t))⟩
  | ex c i G2 => exact absurd et truthD_ok
  | bad => rw [et] at h1; exact h1.elim
theorem xe_one {op} (h : PE X a (tE X W fa)) : PE X (.BoolOp op [a] pos) (tE X W fa) := pe_one h
theorem xe_and (ha : PE X a (tE X W fa)) (hb : PE X (.BoolOp .And (b :: es) pos) (tE X W fb)) : PE X (.BoolOp .And (a :: b :: es) pos) (tE X W (andC fa fb)) := by
  refine ⟨fun pins s σ H Q I ⟨m, σ', G, S, R, q⟩ => (pe_and ha hb).run pins s σ H Q I ?_⟩
  refine ⟨m, σ', G, S, R, (PostR.bnd (R := VR X.K) q).imp fun v H1 ⟨m1, G1, x, e1, S1, r1, er, h1⟩ => ?_⟩
  cases x with
  | bl t =>
    cases r1
    cases t with
    | true => exact ⟨true, rfl, iteT ⟨m1, σ', G1, S1, R.mono e1, h1⟩⟩
    | false => exact ⟨false, rfl, iteF (PostR.here h1 S1 (.bl false))⟩
  | _ => exact h1.elim
theorem xe_or (ha : PE X a (tE X W fa)) (hb : PE X (.BoolOp .Or (b :: es) pos) (tE X W fb)) : PE X (.BoolOp .Or (a :: b :: es) pos) (tE X W (orC fa fb)) := by
  refine ⟨fun pins s σ H Q I ⟨m, σ', G, S, R, q⟩ => (pe_or ha hb).run pins s σ H Q I ?_⟩
  refine ⟨m, σ', G, S, R, (PostR.bnd (R := VR X.K) q).imp fun v H1 ⟨m1, G1, x, e1, S1, r1, er, h1⟩ => ?_⟩
  cases x with
  | bl t =>
    cases r1
    cases t with
    | true => exact ⟨true, rfl, iteT (PostR.here h1 S1 (.bl true))⟩
    | false => exact ⟨false, rfl, iteF ⟨m1, σ', G1, S1, R.mono e1, h1⟩⟩
  | _ => exact h1.elim
theorem non_vr {m : List Addr} {H : Hp} {d : D} {v : V} (r : VR X.K m H d v) : decide (v = V.non) = (match d with | .non => true | _ => false) := by
  cases r <;> simp
theorem xe_isN {j pos'} (ha : PE X a (tE X W fa)) : PE X (.Compare a [.Is] [.Constant .none j pos'] pos) (tE X W (isNonC false fa)) := by
  refine ⟨fun pins s σ H Q I ⟨m, σ', G, S, R, q⟩ => (pe_cmp (pc_isN ha)).run pins s σ H Q I ?_⟩
  refine ⟨m, σ', G, S, R, (PostR.bnd (R := VR X.K) q).imp fun v H1 ⟨m1, G1, x, e1, S1, r1, er, h1⟩ => ?_⟩
  rw [non_vr r1]
  refine PostR.here h1 S1 ?_
  cases x <;> exact .bl _
theorem xe_notN {j pos'} (ha : PE X a (tE X W fa)) : PE X (.Compare a [.IsNot] [.Constant .none j pos'] pos) (tE X W (isNonC true fa)) := by
  refine ⟨fun pins s σ H Q I ⟨m, σ', G, S, R, q⟩ => (pe_cmp (pc_notN ha)).run pins s σ H Q I ?_⟩
  refine ⟨m, σ', G, S, R, (PostR.bnd (R := VR X.K) q).imp fun v H1 ⟨m1, G1, x, e1, S1, r1, er, h1⟩ => ?_⟩
  rw [non_vr r1]
  refine PostR.here h1 S1 ?_
  cases x <;> exact .bl _
theorem xt_isN {j pos'} (ha : PE X a (tE X W fa)) : PT X (.Compare a [.Is] [.Constant .none j pos'] pos) (tT X W (valT (isNonC false fa))) := by
  refine xt_cmp (xe_isN ha) ⟨fun pins s σ H Q I ⟨m, σ', G, S, R, q⟩ => (pc_isN ha).run pins s σ H Q I ?_⟩ (nobehind _ (by decide) (by decide))
  refine ⟨m, σ', G, S, R, (PostR.bnd (R := VR X.K) q).imp fun v H1 ⟨m1, G1, x, e1, S1, r1, er, h1⟩ => ?_⟩
  rw [non_vr r1]
  refine PostR.here h1 S1 ?_
  cases x <;> exact .bl _
theorem xt_notN {j pos'} (ha : PE X a (tE X W fa)) : PT X (.Compare a [.IsNot] [.Constant .none j pos'] pos) (tT X W (valT (isNonC true fa))) := by
  refine xt_cmp (xe_notN ha) ⟨fun pins s σ H Q I ⟨m, σ', G, S, R, q⟩ => (pc_notN ha).run pins s σ H Q I ?_⟩ (nobehind _ (by decide) (by decide))
  refine ⟨m, σ', G, S, R, (PostR.bnd (R := VR X.K) q).imp fun v H1 ⟨m1, G1, x, e1, S1, r1, er, h1⟩ => ?_⟩
  rw [non_vr r1]
  refine PostR.here h1 S1 ?_
  cases x <;> exact .bl _
theorem xs_par (i j : Nat) {x y : Str} {px py pt : Pos} {kt k2 : Nat} {pt2 : Pos} (hc : X.calm = true) (hN : X.N.Nodup) (ha : PA X [a, b] (tA X W fr)) (hi : X.N[i]? = some x := by rfl) (hj : X.N[j]? = some y := by rfl) (hij : i ≠ j := by decide)
    (hx : X.env.scope.names.lookup x = some .local := by rfl) (hy : X.env.scope.names.lookup y = some .local := by rfl)
    (hw : swappedStores [.Tuple [.Name x px, .Name y py] kt pt] (.Tuple [a, b] k2 pt2) X.env = pure (some [x, y]) := by rfl)
    (hs : swapsWithSole [.Tuple [.Name x px, .Name y py] kt pt] (.Tuple [a, b] k2 pt2) pos.line X.env = pure false := by rfl) :
    PS X (.Assign [.Tuple [.Name x px, .Name y py] kt pt] (.Tuple [a, b] k2 pt2) pos) (tS X W (parC i j fr)) := by
  refine ⟨fun pins s σ H Dd I ⟨m, σ', G, S, R, q⟩ => (ps_par (i := i) (j := j) hc hN hi hj hij hx hy ha hw hs).run pins s σ H Dd I ?_⟩
  refine ⟨m, σ', G, S, R, (PostS.bnd (R := VRs X.K) R q).imp fun vs H1 ⟨m1, G1, ds, e1, S1, r1, er, h1⟩ => ?_⟩
  split at h1
  · obtain ⟨v, w, rfl, rv, rw_⟩ := vrs_two r1
    exact ⟨v, w, rfl, h1 m1 H1 _ .refl S1 (((R.mono e1).put i rv).put j rw_)⟩
  · exact h1.elim
theorem xs_par3 (i j l : Nat) {x y z : Str} {px py pz pt : Pos} {kt k2 : Nat} {pt2 : Pos} (hc : X.calm = true) (hN : X.N.Nodup) (ha : PA X [a, b, c] (tA X W fr)) (hi : X.N[i]? = some x := by rfl) (hj : X.N[j]? = some y := by rfl) (hl : X.N[l]? = some z := by rfl) (hij : i ≠ j := by decide) (hil : i ≠ l := by decide) (hjl : j ≠ l := by decide)
    (hx : X.env.scope.names.lookup x = some .local := by rfl) (hy : X.env.scope.names.lookup y = some .local := by rfl) (hz : X.env.scope.names.lookup z = some .local := by rfl)
    (hw : swappedStores [.Tuple [.Name x px, .Name y py, .Name z pz] kt pt] (.Tuple [a, b, c] k2 pt2) X.env = pure (some [x, y, z]) := by rfl)
    (hs : swapsWithSole [.Tuple [.Name x px, .Name y py, .Name z pz] kt pt] (.Tuple [a, b, c] k2 pt2) pos.line X.env = pure false := by rfl) :
    PS X (.Assign [.Tuple [.Name x px, .Name y py, .Name z pz] kt pt] (.Tuple [a, b, c] k2 pt2) pos) (tS X W (par3C i j l fr)) := by
  refine ⟨fun pins s σ H Dd I ⟨m, σ', G, S, R, q⟩ => (ps_par3 (i := i) (j := j) (l := l) hc hN hi hj hl hij hil hjl hx hy hz ha hw hs).run pins s σ H Dd I ?_⟩
  refine ⟨m, σ', G, S, R, (PostS.bnd (R := VRs X.K) R q).imp fun vs H1 ⟨m1, G1, ds, e1, S1, r1, er, h1⟩ => ?_⟩
  split at h1
  · cases r1 with
    | cons ru r1 =>
      obtain ⟨v, w, rfl, rv, rw_⟩ := vrs_two r1
      exact ⟨_, v, w, rfl, h1 m1 H1 _ .refl S1 ((((R.mono e1).put i ru).put j rv).put l rw_)⟩
  · exact h1.elim
/-! ### dicts -/
def newDK : EF := fun _ G => .ok (.ref G.length) (G ++ [.dK []])
def newDT : EF := fun _ G => .ok (.ref G.length) (G ++ [.dT []])
theorem xe_newDK : PE X (.Dict [] [] pos) (tE X W newDK) := ⟨fun pins s σ H Q I ⟨m, σ', G, S, R, q⟩ => pe_dnewK.run pins s σ H Q I fun pp hp =>
  q (m ++ [pp]) _ (.ref pp) (xt_push hp) (S.push hp ⟨[], upd_same, .nil⟩) (.ref (by rw [← S.len]; simp))⟩
theorem xe_newDT : PE X (.Dict [] [] pos) (tE X W newDT) := ⟨fun pins s σ H Q I ⟨m, σ', G, S, R, q⟩ => pe_dnewT.run pins s σ H Q I fun pp hp =>
  q (m ++ [pp]) _ (.ref pp) (xt_push hp) (S.push hp ⟨[], upd_same, .nil⟩) (.ref (by rw [← S.len]; simp))⟩
/-- d.get(k, x) -/
def get2C (o y x : EF) : EF := fun σ G => (o σ G).bind fun d G1 => if isD G1 d then (y σ G1).bind fun ky G2 => (x σ G2).bind fun z G3 => match d with
  | .ref p => match (G3[p]?).bind fun c => dictGet c ky with
    | some ov => .ok (ov.getD z) G3
    | none => .bad
  | _ => .bad else .bad
theorem isD_at' {m : List Addr} {G : Hq} {H : Hp} {d : D} {v : V} (S : Sim X.K m G H) (r : VR X.K m H d v) (h : isD G d = true) : ∃ a, v = .ref a ∧ IsD H a := by
  unfold isD at h
  split at h
  · rename_i p
    cases r with
    | ref ha =>
      split at h
      · rename_i kvs hg
        obtain ⟨vs, h1, _⟩ := S.cell p _ _ ha hg
        exact ⟨_, rfl, .inl ⟨vs, .inl h1⟩⟩
      · rename_i kvs hg
        obtain ⟨vs, h1, _⟩ := S.cell p _ _ ha hg
        exact ⟨_, rfl, .inr ⟨vs, .inl h1⟩⟩
      · cases h
  · cases h
theorem xe_get2 {o y x : Expr} {fo fy fx : EF} {apos cpos : Pos} (C : Ctx X W k) (ho : PE X o (tE X W fo)) (hy : PE X y (tE X W fy)) (hx : PE X x (tE X W fx)) (M : M2 X o "get" apos y x cpos) : PE X (.Call (.Attribute o "get" apos) [y, x] [] cpos) (tE X W (get2C fo fy fx)) := by
  have hu : X.A.units + 1 < cLine := by have := C.room.units; omega
  refine ⟨fun pins s σ H Q I ⟨m, σ', G, S, R, q⟩ => (pe_dget2 hu ho hy hx M).run pins s σ H Q I ?_⟩
  refine ⟨m, σ', G, S, R, (PostR.bnd (R := VR X.K) q).imp fun v H1 ⟨m1, G1, d, e1, S1, r1, _, h1⟩ => ?_⟩
  cases hk : isD G1 d with
  | false => simp only [hk] at h1; exact h1.elim
  | true =>
    simp only [hk, if_true] at h1
    obtain ⟨a, rfl, hd⟩ := isD_at' S1 r1 hk
    refine ⟨a, rfl, hd, m1, σ', G1, S1, R.mono e1, (PostR.bnd (R := VR X.K) h1).imp fun w H2 ⟨m2, G2, ky, e2, S2, r2, _, h2⟩ => ?_⟩
    refine ⟨m2, σ', G2, S2, (R.mono e1).mono e2, (PostR.bnd (R := VR X.K) h2).imp fun z H3 ⟨m3, G3, dz, e3, S3, r3, _, h3⟩ => ?_⟩
    split at h3
    · rename_i p
      split at h3
      · rename_i ov ho
        obtain ⟨c, hc, hg⟩ := Option.bind_eq_some_iff.mp ho
        obtain ⟨a', o', ha', hget, hv⟩ := dict_at S3 hc (r2.mono e3) hg
        cases r1 with
        | ref ha =>
          have := (e2.trans e3).at ha
          rw [ha'] at this
          cases this
          refine ⟨o', hget, ?_⟩
          rcases hv with ⟨rfl, rfl⟩ | ⟨d, v, rfl, rfl, rv⟩
          · exact h3.here S3 r3
          · exact h3.here S3 rv
      · exact h3.elim
    · exact h3.elim
/-! ### a walk over a dict's keys -/
def itK (kvs : List (Key × D)) : Src := fun k _ => match kvs[k]? with
  | some (y, _) => .item (ofKey y)
  | none => .stop
/-- the dict at p is locked while f runs -/
def unlockC (p : Nat) (c : C) (r : Sr) : Sr := match r with
  | .nx σ G => .nx σ (G.set p c)
  | .rt d G => .rt d (G.set p c)
  | .bk σ G => .bk σ (G.set p c)
  | .ct σ G => .ct σ (G.set p c)
  | _ => .bad
noncomputable def forKeysC (i : Nat) (g : GF) (b : SF) : SF := fun σ G => match σ[i]? with
  | some (some (.ref p)) => match G[p]? with
    | some (.dK kvs) => unlockC p (.dK kvs) (forL (itK kvs) g b 0 σ (G.set p (.lk kvs)))
    | _ => .bad
  | _ => .bad
theorem vrk_get {κ : Type} {K : PySem.W.Frag} {m : List Addr} {H : Hp} : ∀ {d : List (κ × D)} {v : List (κ × V)} {i : Nat} {x : κ × D}, VRk K m H d v → d[i]? = some x → ∃ w, v[i]? = some (x.1, w) ∧ VR K m H x.2 w
  | _, _, _, _, .nil, h => by simp at h
  | _, _, 0, _, .cons r _, h => by simp at h; subst h; exact ⟨_, rfl, r⟩
  | _, _, i + 1, _, .cons _ t, h => by
    obtain ⟨w, a, b⟩ := vrk_get (i := i) t (by simpa using h)
    exact ⟨w, by simpa using a, b⟩
theorem itK_ok {K : PySem.W.Frag} {m0 : List Addr} {H0 : Hp} {kvs : List (Key × D)} {vs : List (Key × V)} {a : Addr} {o : Obj} (hk : kvs.map (·.1) = vs.map (·.1)) (hfz : H0 a = some (.frz o (.dK vs))) : ItOk K m0 H0 (itK kvs) (Itk a o vs) := by
  intro k m G H x S
  have h1 := x.frz _ _ _ hfz
  unfold itK
  have hl : kvs.length = vs.length := by simpa using congrArg List.length hk
  cases hd : kvs[k]? with
  | some e =>
    obtain ⟨y, d⟩ := e
    have hi : k < kvs.length := (List.getElem?_eq_some_iff.mp hd).1
    refine ⟨⟨h1, by omega⟩, fun w H' hy => ?_⟩
    obtain ⟨rfl, ky, v, hv, rfl⟩ := hy
    have e1 : (kvs.map (·.1))[k]? = some y := by rw [List.getElem?_map, hd]; rfl
    rw [hk, List.getElem?_map, hv] at e1
    cases e1
    exact ⟨.refl, S, ofKey_vr _⟩
  | none => exact ⟨h1, by have := List.getElem?_eq_none_iff.mp hd; omega⟩
/-- a cell's object is exchanged for one that holds the same (locking, unlocking) -/
theorem xw_swap {K : PySem.W.Frag} {m : List Addr} {H : Hp} {a : Addr} {u : HO} (nt : ∀ xs, ¬ Rd H a (.tup xs)) : Xw K m H m (upd H a u) := by
  refine ⟨⟨[], by simp⟩, fun b xs q => ?_, fun b xs q => ?_⟩
  · rw [upd_ne (fun e => nt xs (by rw [← e]; exact .inl q))]; exact q
  · rcases q with q | q
    · have ne : b ≠ a := fun e => nt xs (by rw [← e]; exact q)
      rcases q with q | ⟨ob, q⟩
      · exact .inl (.inl (by rw [upd_ne ne]; exact q))
      · exact .inl (.inr ⟨ob, by rw [upd_ne ne]; exact q⟩)
    · exact .inr q
theorem Sim.swap {K : PySem.W.Frag} {m : List Addr} {G : Hq} {H : Hp} {i : Nat} {a : Addr} {u : HO} {c : C} (S : Sim K m G H) (hi : m[i]? = some a) (nt : ∀ xs, ¬ Rd H a (.tup xs)) (hc : CR K m (upd H a u) a c) : Sim K m (G.set i c) (upd H a u) := by
  have x : Xw K m H m (upd H a u) := xw_swap nt
  refine ⟨by rw [List.length_set]; exact S.len, S.inj, fun j b c' h1 h2 => ?_, fun j b h => ?_⟩
  · by_cases hb : j = i
    · subst hb
      rw [hi] at h1; cases h1
      have hl : j < G.length := by
        obtain ⟨q, _⟩ := List.getElem?_eq_some_iff.mp h2
        rw [List.length_set] at q; exact q
      rw [List.getElem?_set_self hl] at h2
      cases h2
      exact hc
    · rw [List.getElem?_set_ne (Ne.symm hb)] at h2
      exact (S.cell j b c' h1 h2).stayW x (upd_ne fun e => hb (S.inj j i a (e ▸ h1) hi))
  · by_cases hb : b = a
    · subst hb; rw [upd_same]; rfl
    · rw [upd_ne hb]; exact S.trk j b h
/-- what a locked loop's end means behind the unlocking -/
theorem xs_forKeys {tg : Expr} {x : Str} {ip : Pos} {body : List Stmt} {gf : GF} {fbd : SF} (i : Nat) (C : Ctx X W k) (hg : PG X tg (tG X gf)) (hb : PSs X body (tS X (fun _ => W0) fbd)) (hN : X.N[i]? = some x := by rfl) (hv : Vis X.env.scope x := by first | exact Or.inl rfl | exact Or.inr (Or.inl rfl) | exact Or.inr (Or.inr rfl))
    (hd : (x == ("__debug__" : Str)) = false := by decide) (hcd : (x == ("__classdict__" : Str)) = false := by decide) (hs : ∀ y, foldedSetIterable (.Name x ip) X.env y = pure y := by intro _; rfl) : PS X (.For tg (.Name x ip) body [] pos) (tS X W (forKeysC i gf fbd)) := by
  have pvar : PE X (.Name x ip) (tVar i) := pe_var hN hv hd hcd
  have pf := ps_for (pos := pos) C.hp C.calm (pi_keys (tg := tg) pvar) hg hb hs
  refine ⟨fun pins s σ H Dd I ⟨m, σ', G, S, R, q⟩ => (ps_lock pf).run pins s σ H Dd I ?_⟩
  unfold forKeysC at q
  split at q
  · rename_i p hp
    split at q
    · rename_i kvs hg'
      obtain ⟨v, ev, rv⟩ := R.get hp
      cases rv with
      | @ref _ a ha =>
        obtain ⟨vs, h1, h2⟩ := S.cell p a _ ha hg'
        have mu : Mut (H a) := by rw [h1]; trivial
        refine ⟨a, .dK vs, h1, trivial, fun od => ?_⟩
        have x0 : Xt X.K m H m (upd H a (.frz od (.dK vs))) := xt_wr mu
        have S0 : Sim X.K m (G.set p (.lk kvs)) (upd H a (.frz od (.dK vs))) := S.wr ha mu ⟨vs, od, upd_same, h2.mono x0⟩
        refine ⟨.ref a, ev, a, od, rfl, .inl ⟨vs, upd_same, ?_⟩⟩
        -- the loop
        have nb : forL (itK kvs) gf fbd 0 σ' (G.set p (.lk kvs)) ≠ .bad := fun z => by rw [z] at q; exact q
        obtain ⟨n, hn⟩ := lim_ex nb
        have hn' : forN (itK kvs) gf fbd n 0 σ' (G.set p (.lk kvs)) = forL (itK kvs) gf fbd 0 σ' (G.set p (.lk kvs)) := hn
        rw [← hn'] at q
        generalize hD : (Ends.mk _ _ _ _ : Ends) = D2
        -- what is wanted of the loop's end, locked
        have post : ∀ r : Sr, PostS X.K X.mg W m H (unlockC p (.dK kvs) r) Dd → PostS X.K X.mg (fun _ => W0) m (upd H a (.frz od (.dK vs))) r D2 := by
          intro r h
          have back : ∀ {m' : List Addr} {H' : Hp} {G' : Hq}, Xt X.K m (upd H a (.frz od (.dK vs))) m' H' → Sim X.K m' G' H' → H' a = some (.frz od (.dK vs)) ∧ Xt X.K m H m' (upd H' a (.dK vs)) ∧ (∀ d v, VR X.K m' H' d v → VR X.K m' (upd H' a (.dK vs)) d v) ∧ Sim X.K m' (G'.set p (.dK kvs)) (upd H' a (.dK vs)) := by
            intro m' H' G' xx S'
            have hf := xx.frz _ _ _ (upd_same (H := H) (a := a) (o := .frz od (.dK vs)))
            have nt : ∀ xs, ¬ Rd H' a (.tup xs) := fun xs z => by
              rcases z with z | ⟨o, z⟩ <;> · rw [hf] at z; cases z
            have xw : Xw X.K m' H' m' (upd H' a (.dK vs)) := xw_swap nt
            refine ⟨hf, ⟨⟨(x0.trans xx).pre, fun b xs z => xw.tup b xs ((x0.trans xx).tup b xs z), fun b xs z => xw.seq b xs ((x0.trans xx).seq b xs z)⟩, fun b o u z => ?_⟩, fun d v r => r.monoW xw, S'.swap (xx.at ha) nt ⟨vs, upd_same, ?_⟩⟩
            · have ne : b ≠ a := fun e => by rw [e, h1] at z; cases z
              rw [upd_ne ne]
              exact (x0.trans xx).frz b o u z
            · exact ((h2.mono x0).mono xx).monoW xw
          have srm : ∀ {m' : List Addr} {H' H2 : Hp} {σ1 : Eq'} {s1 : L2.St}, (∀ d v, VR X.K m' H' d v → VR X.K m' H2 d v) → SR X.K m' H' σ1 s1 → SR X.K m' H2 σ1 s1 := fun f r => ⟨r.1, fun i d z => let ⟨v, a, b⟩ := r.2 i d z; ⟨v, a, f _ _ b⟩⟩
          subst hD
          cases r with
          | nx σ1 G1 => intro m' H' s1 xx S' R'; obtain ⟨b1, b2, b3, b4⟩ := back xx S'; exact ⟨b1, h m' _ s1 b2 b4 (srm b3 R')⟩
          | rt d G1 => intro m' H' v1 xx S' R'; obtain ⟨b1, b2, b3, b4⟩ := back xx S'; exact ⟨b1, h m' _ v1 b2 b4 (b3 _ _ R')⟩
          | bk σ1 G1 => intro m' H' s1 xx S' R'; obtain ⟨b1, b2, b3, b4⟩ := back xx S'; exact ⟨b1, h m' _ s1 b2 b4 (srm b3 R')⟩
          | ct σ1 G1 => intro m' H' s1 xx S' R'; obtain ⟨b1, b2, b3, b4⟩ := back xx S'; exact ⟨b1, h m' _ s1 b2 b4 (srm b3 R')⟩
          | ex c j σ1 G1 => exact h.elim
          | bad => exact h.elim
        have q1 := post _ q
        have it0 : ItOk X.K m (upd H a (.frz od (.dK vs))) (itK kvs) (Itk a od vs) := itK_ok (vrk_keys h2) upd_same
        refine ⟨fun j n σ H1 => ∃ m1 σ1 G1, Xt X.K m (upd H a (.frz od (.dK vs))) m1 H1 ∧ Sim X.K m1 G1 H1 ∧ SR X.K m1 H1 σ1 σ ∧ PostS X.K X.mg (fun _ => W0) m1 H1 (forN (itK kvs) gf fbd n j σ1 G1) D2, ⟨n, m, σ', _, .refl, S0, R.mono x0, q1⟩, ?_⟩
        rintro j n σ2 H2 ⟨m2, σ2', G2, x2, S2, R2, q2⟩
        cases n with
        | zero => exact q2.elim
        | succ n =>
          have it := it0 j m2 G2 H2 x2 S2
          rw [forN_s] at q2
          cases es : itK kvs j G2 with
          | bad => rw [es] at q2; exact q2.elim
          | stop => rw [es] at q2 it; exact .inl ⟨it, q2 m2 H2 σ2 .refl S2 R2⟩
          | item d =>
            rw [es] at q2 it
            obtain ⟨go, yl⟩ := it
            refine .inr ⟨go, fun σ3 H3 => ∃ m1 σ1 G1, Xt X.K m (upd H a (.frz od (.dK vs))) m1 H3 ∧ Sim X.K m1 G1 H3 ∧ SR X.K m1 H3 σ1 σ3 ∧ PostS X.K X.mg (fun _ => W0) m1 H3 (forN (itK kvs) gf fbd n (j + 1) σ1 G1) D2, fun σ3 H3 z => ⟨n, by omega, z⟩, fun v H3 hy => ?_⟩
            obtain ⟨x3, S3, r3⟩ := yl v H3 hy
            refine ⟨m2, σ2', G2, d, S3, R2.mono x3, r3, ?_⟩
            simp only at q2
            cases eg : gf d σ2' G2 with
            | ok σ4 G4 =>
              rw [eg] at q2
              simp only [onG_ok] at q2
              intro m4 H4 s4 x4 S4 R4
              refine ⟨m4, σ4, G4, S4, R4, ?_⟩
              have xx := (x2.trans x3).trans x4
              have q4 := PostS.shift (r := (fbd σ4 G4).turn (forN (itK kvs) gf fbd n (j + 1))) q2 (x3.trans x4)
              cases eb : fbd σ4 G4 with
              | nx σ5 G5 => rw [eb] at q4; exact fun m5 H5 s5 x5 S5 R5 => ⟨m5, σ5, G5, xx.trans x5, S5, R5, PostS.shift (r := forN (itK kvs) gf fbd n (j + 1) σ5 G5) q4 x5⟩
              | ct σ5 G5 => rw [eb] at q4; exact fun m5 H5 s5 x5 S5 R5 => ⟨m5, σ5, G5, xx.trans x5, S5, R5, PostS.shift (r := forN (itK kvs) gf fbd n (j + 1) σ5 G5) q4 x5⟩
              | bk σ5 G5 => rw [eb] at q4; exact q4
              | rt d5 G5 => rw [eb] at q4; exact q4
              | ex c i σ5 G5 => rw [eb] at q4; exact q4
              | bad => rw [eb] at q4; exact q4.elim
            | ex c i G4 => rw [eg] at q2; exact q2.elim
            | bad => rw [eg] at q2; exact q2.elim
    · exact q.elim
  · exact q.elim
/-! ### sorted(d) of a dict whose keys are ints -/
def intKeys : List (Key × D) → Option (List Int)
  | [] => some []
  | (.inl i, _) :: r => (intKeys r).map (i :: ·)
  | _ => none
theorem intKeys_eq : ∀ {kvs : List (Key × D)} {ns : List Int}, intKeys kvs = some ns → kvs.map (·.1) = ns.map Sum.inl
  | [], ns, h => by cases h; rfl
  | (.inl i, d) :: r, ns, h => by
    simp only [intKeys, Option.map_eq_some_iff] at h
    obtain ⟨ms, hm, rfl⟩ := h
    rw [List.map_cons, List.map_cons, intKeys_eq hm]
  | (.inr _, _) :: _, _, h => by cases h
def sortedKD (xs : List D) (G : Hq) : Rs D := match xs with
  | [.ref p] => match G[p]? with
    | some (.dK kvs) => match intKeys kvs with
      | some ns => if ns.length < 64 then .ok (.ref G.length) (G ++ [.lst ((sortI ns).map D.int)]) else .bad
      | none => .bad
    | _ => sortedD xs G
  | _ => sortedD xs G
theorem f_sortedK (C : Ctx X W k) : CallF X (.builtin "sorted") sortedKD := by
  intro pins s σ m G H xs vs us Q Wx I S rx ru q
  unfold sortedKD at q
  split at q
  · split at q
    · rename_i p kvs hg
      split at q
      · rename_i ns hi
        split at q
        · rename_i h64
          obtain ⟨v, rfl, r⟩ := vrs_one rx
          cases r with
          | ref ha =>
            obtain ⟨ws, h1, h2⟩ := S.cell _ _ _ ha hg
            refine call_sortedDI C.calm pins s σ H _ us Q I ru ⟨_, ws, ns, rfl, .inl h1, by rw [← vrk_keys h2, intKeys_eq hi], h64, fun ys p hp hu hn => ?_⟩
            have e : ys = sortI ns := PySem.W.ksm_same (hp.trans (sortI_perm ns).symm) hu (sortI_up ns)
            subst e
            exact lst_new S (ints_vrs _) q hn
        · exact q.elim
      · exact q.elim
    · exact f_sorted pins s σ m G H _ vs us Q Wx I S rx ru q
  · exact f_sorted pins s σ m G H _ vs us Q Wx I S rx ru q
end
end SX

set_option Elab.async false
set_option linter.all false
set_option maxRecDepth 100000
set_option maxHeartbeats 1000000
namespace SX
open PySem PySem.Spec PyProof.Rows L2

noncomputable def lc2Turn (g : GF) (t : TF) (i1 : IF) (g1 : GF) (t1 : TF) (e : EF) (σ0 : Eq') (vs1 : List Nat) (p : Nat) (d : D) (G : Hq) : Cr := match g d σ0 G with
  | .ok σ1 G1 => match t σ1 G1 with
    | .ok true G2 => match i1 σ1 G2 with
      | .ok s1 G3 => lcL s1 (lcTurn g1 t1 e (wipeD σ1 vs1) p) 0 G3
      | _ => none
    | .ok false G2 => some G2
    | _ => none
  | _ => none
noncomputable def lc2C (i : IF) (g : GF) (t : TF) (i1 : IF) (g1 : GF) (t1 : TF) (e : EF) (vs vs1 : List Nat) : EF := fun σ G => (i σ G).bind fun s G1 =>
  ofCr (lcL s (lc2Turn g t i1 g1 t1 e (wipeD σ vs) vs1 G1.length) 0 (G1 ++ [.lst []])) (.ref G1.length)
section
variable {X : Cx} {W : L2.St → XW} {elt tg iter tg1 iter1 : Expr} {ifs ifs1 : List Expr} {fi fi1 : IF} {gf gf1 : GF} {tf tf1 : TF} {ef : EF} {scope : Scope} {own : List (Str × Nat)} {vs1 : List Nat} {pos : Pos}
/-- one turn of the innermost clause, over HandS' reading -/
theorem turn_read {m5 : List Addr} {G3 Gt : Hq} {H4 : Hp} {σ0 : Eq'} {s0 : L2.St} {vs : List Nat} {p : Nat} {a : Addr} {d : D} {v : V} {Nx : Hp → Prop} {w0 : L2.St} (S4 : Sim X.K m5 G3 H4) (R4 : SR X.K m5 H4 σ0 s0) (r4 : VR X.K m5 H4 d v) (ha : m5[p]? = some a) (et : lcTurn gf tf ef σ0 p d G3 = some Gt) (hw : wipe s0 vs = wipe w0 vs)
    (hN : ∀ m G H, Xt X.K m5 H4 m H → Sim X.K m G H → G = Gt → Nx H) :
    tGw X vs gf v s0 H4 fun σ2 H2 => wipe σ2 vs = wipe w0 vs ∧ tT X (fun _ => W0) tf σ2 H2 fun b H3 => if b = true then tE X (fun _ => W0) ef σ2 H3 fun y H7 => ∃ acc, H7 a = some (.lst acc) ∧ acc.length < sizeLine ∧ Nx (upd H7 a (.lst (acc ++ [y]))) else Nx H3 := by
  unfold lcTurn at et
  refine ⟨m5, σ0, G3, d, S4, R4, r4, ?_⟩
  cases eg : gf d σ0 G3 with
  | ok σ5 G5 =>
    rw [eg] at et
    simp only at et
    intro m6 H5 s5 x5 S5 ⟨R5, w5⟩
    refine ⟨w5.trans hw, m6, σ5, G5, S5, R5, ?_⟩
    cases eb : tf σ5 G5 with
    | ok b G6 =>
      rw [eb] at et
      intro m7 H6 b6 x6 S6 r6
      cases r6
      cases b with
      | false => cases et; exact iteF (hN _ _ _ (x5.trans x6) S6 rfl)
      | true =>
        simp only at et
        refine iteT ⟨m7, σ5, G6, S6, R5.mono x6, ?_⟩
        cases ee : ef σ5 G6 with
        | ok y G7 =>
          rw [ee] at et
          intro m8 H7 y7 x7 S7 r7
          have xx := (x5.trans x6).trans x7
          obtain ⟨acc, h71, h72, S8, x8⟩ := app_sim S7 (xx.at ha) r7 et
          exact ⟨acc, h71, h72, hN _ _ _ (xx.trans x8) S8 rfl⟩
        | ex _ _ _ => rw [ee] at et; cases et
        | bad => rw [ee] at et; cases et
    | ex _ _ _ => rw [eb] at et; cases et
    | bad => rw [eb] at et; cases et
  | ex _ _ _ => rw [eg] at et; cases et
  | bad => rw [eg] at et; cases et
theorem lc2_read {σ : L2.St} {H : Hp} {Q : VK} {vs : List Nat} (h : tE X W (lc2C fi gf tf fi1 gf1 tf1 ef vs vs1) σ H Q) :
    tLc2 (tI X W fi) (tGw X vs gf) (tT X (fun _ => W0) tf) (tI X (fun _ => W0) fi1) (tGw X vs1 gf1) (tT X (fun _ => W0) tf1) (tE X (fun _ => W0) ef) vs vs1 σ H Q := by
  obtain ⟨m, σ', G, S, R, q⟩ := h
  refine ⟨m, σ', G, S, R, (PostR.bnd (R := ItOk X.K) q).imp fun J H1 ⟨m1, G1, src, x1, S1, it, _, q1⟩ => fun a hD => ?_⟩
  cases el : lcL src (lc2Turn gf tf fi1 gf1 tf1 ef (wipeD σ' vs) vs1 G1.length) 0 (G1 ++ [.lst []]) with
  | none => rw [el] at q1; exact q1.elim
  | some Gz =>
    rw [el] at q1
    obtain ⟨n, hn⟩ := lcL_pos el
    have x2 : Xt X.K m1 H1 (m1 ++ [a]) (upd H1 a (.lst [])) := xt_push hD
    have S2 : Sim X.K (m1 ++ [a]) (G1 ++ [.lst []]) (upd H1 a (.lst [])) := S1.push hD ⟨[], upd_same, .nil⟩
    have ha : (m1 ++ [a])[G1.length]? = some a := by rw [← S1.len]; simp
    refine ⟨fun k n H => ∃ m G, Xt X.K (m1 ++ [a]) (upd H1 a (.lst [])) m H ∧ Sim X.K m G H ∧ lcN src (lc2Turn gf tf fi1 gf1 tf1 ef (wipeD σ' vs) vs1 G1.length) n k G = some Gz, ⟨n, _, _, .refl, S2, hn⟩, ?_⟩
    rintro k n H3 ⟨m3, G3, x3, S3, h3⟩
    have ha3 := x3.at ha
    cases n with
    | zero => cases h3
    | succ n =>
      rw [lcN_s] at h3
      have itk := it k m3 G3 H3 (x2.trans x3) S3
      cases es : src k G3 with
      | bad => rw [es] at h3; cases h3
      | stop =>
        rw [es] at h3 itk
        cases h3
        exact .inl ⟨itk, q1 m3 H3 _ (x2.trans x3) S3 (.ref ha3)⟩
      | item d =>
        rw [es] at h3 itk
        simp only at h3
        obtain ⟨go, yl⟩ := itk
        refine .inr ⟨go, fun H4 => ∃ m G, Xt X.K (m1 ++ [a]) (upd H1 a (.lst [])) m H4 ∧ Sim X.K m G H4 ∧ lcN src (lc2Turn gf tf fi1 gf1 tf1 ef (wipeD σ' vs) vs1 G1.length) n (k + 1) G = some Gz, fun H4 z => ⟨n, by omega, z⟩, fun v H4 hy => ?_⟩
        obtain ⟨x4, S4, r4⟩ := yl v H4 hy
        have R4 : SR X.K m3 H4 (wipeD σ' vs) (wipe σ vs) := wipe_sr ((((R.mono x1).mono x2).mono x3).mono x4) vs
        cases et : lc2Turn gf tf fi1 gf1 tf1 ef (wipeD σ' vs) vs1 G1.length d G3 with
        | none => rw [et] at h3; cases h3
        | some Gt =>
          rw [et] at h3
          have h3' : lcN src (lc2Turn gf tf fi1 gf1 tf1 ef (wipeD σ' vs) vs1 G1.length) n (k + 1) Gt = some Gz := h3
          unfold lc2Turn at et
          refine ⟨m3, wipeD σ' vs, G3, d, S4, R4, r4, ?_⟩
          cases eg : gf d (wipeD σ' vs) G3 with
          | ok σ5 G5 =>
            rw [eg] at et
            simp only at et
            intro m5 H5 s5 x5 S5 ⟨R5, w5⟩
            refine ⟨by rw [w5, wipe_wipe], m5, σ5, G5, S5, R5, ?_⟩
            cases eb : tf σ5 G5 with
            | ok b G6 =>
              rw [eb] at et
              intro m6 H6 b6 x6 S6 r6
              cases r6
              have xx := ((x3.trans x4).trans x5).trans x6
              cases b with
              | false =>
                cases et
                exact iteF ⟨m6, _, xx, S6, h3'⟩
              | true =>
                simp only at et
                refine iteT ⟨m6, σ5, G6, S6, R5.mono x6, ?_⟩
                cases ei : fi1 σ5 G6 with
                | ok s1 G7 =>
                  rw [ei] at et
                  simp only at et
                  intro m7 H7 J1 x7 S7 it1
                  obtain ⟨n1, hn1⟩ := lcL_pos et
                  refine ⟨fun j n H => ∃ m G, Xt X.K m7 H7 m H ∧ Sim X.K m G H ∧ lcN s1 (lcTurn gf1 tf1 ef (wipeD σ5 vs1) G1.length) n j G = some Gt, ⟨n1, m7, G7, .refl, S7, hn1⟩, ?_⟩
                  rintro j n1 H8 ⟨m8, G8, x8, S8, h8⟩
                  have xa := (xx.trans x7).trans x8
                  cases n1 with
                  | zero => cases h8
                  | succ n1 =>
                    rw [lcN_s] at h8
                    have itj := it1 j m8 G8 H8 x8 S8
                    cases es1 : s1 j G8 with
                    | bad => rw [es1] at h8; cases h8
                    | stop =>
                      rw [es1] at h8 itj
                      cases h8
                      exact .inl ⟨itj, m8, _, xa, S8, h3'⟩
                    | item d1 =>
                      rw [es1] at h8 itj
                      simp only at h8
                      obtain ⟨go1, yl1⟩ := itj
                      refine .inr ⟨go1, fun H9 => ∃ m G, Xt X.K m7 H7 m H9 ∧ Sim X.K m G H9 ∧ lcN s1 (lcTurn gf1 tf1 ef (wipeD σ5 vs1) G1.length) n1 (j + 1) G = some Gt, fun H9 z => ⟨n1, by omega, z⟩, fun v1 H9 hy1 => ?_⟩
                      obtain ⟨x9, S9, r9⟩ := yl1 v1 H9 hy1
                      cases et1 : lcTurn gf1 tf1 ef (wipeD σ5 vs1) G1.length d1 G8 with
                      | none => rw [et1] at h8; cases h8
                      | some Gu =>
                        rw [et1] at h8
                        have h8' : lcN s1 (lcTurn gf1 tf1 ef (wipeD σ5 vs1) G1.length) n1 (j + 1) Gu = some Gt := h8
                        have R9 : SR X.K m8 H9 (wipeD σ5 vs1) (wipe s5 vs1) := wipe_sr ((((R5.mono x6).mono x7).mono x8).mono x9) vs1
                        exact turn_read S9 R9 r9 ((xa.trans x9).at ha) et1 (wipe_wipe s5 vs1) fun m G H y Sg e => ⟨m, G, (x8.trans x9).trans y, Sg, by rw [e]; exact h8'⟩
                | ex _ _ _ => rw [ei] at et; cases et
                | bad => rw [ei] at et; cases et
            | ex _ _ _ => rw [eb] at et; cases et
            | bad => rw [eb] at et; cases et
          | ex _ _ _ => rw [eg] at et; cases et
          | bad => rw [eg] at et; cases et
theorem xe_lc2 {k : Nat} (C : Ctx X W k) (hi : PI X tg iter (tI X W fi)) (hown : blkC X.N X.env.scope scope own = true) (hv : ∀ i ∈ vs1, i ∈ own.map (·.2))
    (hg : ∀ (s : Shared) (H : Hp) (c : Addr) (cl : List (Str × Addr)) (fp : List Addr), PG (X.blk s H scope (compEnvC scope cl c X.env) fp) tg (tGw (X.blk s H scope (compEnvC scope cl c X.env) fp) (own.map (·.2)) gf))
    (ht : ∀ (s : Shared) (H : Hp) (c : Addr) (cl : List (Str × Addr)) (fp : List Addr), Ctx (X.blk s H scope (compEnvC scope cl c X.env) fp) (fun _ => W0) k → PTs (X.blk s H scope (compEnvC scope cl c X.env) fp) ifs (tT (X.blk s H scope (compEnvC scope cl c X.env) fp) (fun _ => W0) tf))
    (hi1 : ∀ (s : Shared) (H : Hp) (c : Addr) (cl : List (Str × Addr)) (fp : List Addr), Ctx (X.blk s H scope (compEnvC scope cl c X.env) fp) (fun _ => W0) k → PI (X.blk s H scope (compEnvC scope cl c X.env) fp) tg1 iter1 (tI (X.blk s H scope (compEnvC scope cl c X.env) fp) (fun _ => W0) fi1))
    (hg1 : ∀ (s : Shared) (H : Hp) (c : Addr) (cl : List (Str × Addr)) (fp : List Addr), PG (X.blk s H scope (compEnvC scope cl c X.env) fp) tg1 (tGw (X.blk s H scope (compEnvC scope cl c X.env) fp) vs1 gf1))
    (ht1 : ∀ (s : Shared) (H : Hp) (c : Addr) (cl : List (Str × Addr)) (fp : List Addr), Ctx (X.blk s H scope (compEnvC scope cl c X.env) fp) (fun _ => W0) k → PTs (X.blk s H scope (compEnvC scope cl c X.env) fp) ifs1 (tT (X.blk s H scope (compEnvC scope cl c X.env) fp) (fun _ => W0) tf1))
    (he : ∀ (s : Shared) (H : Hp) (c : Addr) (cl : List (Str × Addr)) (fp : List Addr), Ctx (X.blk s H scope (compEnvC scope cl c X.env) fp) (fun _ => W0) k → PE (X.blk s H scope (compEnvC scope cl c X.env) fp) elt (tE (X.blk s H scope (compEnvC scope cl c X.env) fp) (fun _ => W0) ef))
    (hs : ∀ x, foldedSetIterable iter X.env x = pure x := by intro _; rfl) (hs1 : ∀ env x, foldedSetIterable iter1 env x = pure x := by intro _ _; rfl) :
    PE X (.ListComp elt [⟨tg, iter, ifs, 0⟩, ⟨tg1, iter1, ifs1, 0⟩] scope pos) (tE X W (lc2C fi gf tf fi1 gf1 tf1 ef (own.map (·.2)) vs1)) := by
  refine ⟨fun pins s σ H Q I h => ?_⟩
  exact (pe_lc2 (g := tGw X (own.map fun q : Str × Nat => q.2) gf) (tt := tT X (fun _ => W0) tf) (wi1 := tI X (fun _ => W0) fi1) (g1 := tGw X vs1 gf1) (tt1 := tT X (fun _ => W0) tf1) (te := tE X (fun _ => W0) ef) C.calm C.nd hi (blkOk_by hown) hv hg (fun s H c cl fp => ht s H c cl fp C.blk)
    (fun s H c cl fp => hi1 s H c cl fp C.blk) hg1 (fun s H c cl fp => ht1 s H c cl fp C.blk) (fun s H c cl fp => he s H c cl fp C.blk) hs hs1).run pins s σ H Q I (lc2_read h)
theorem xs_setLc2 {k : Nat} (i : Nat) {y : Str} {py spos : Pos} (C : Ctx X W k) (hi : PI X tg iter (tI X W fi)) (hown : blkC X.N X.env.scope scope own = true) (hv : ∀ i ∈ vs1, i ∈ own.map (·.2))
    (hg : ∀ (s : Shared) (H : Hp) (c : Addr) (cl : List (Str × Addr)) (fp : List Addr), PG (X.blk s H scope (compEnvC scope cl c X.env) fp) tg (tGw (X.blk s H scope (compEnvC scope cl c X.env) fp) (own.map (·.2)) gf))
    (ht : ∀ (s : Shared) (H : Hp) (c : Addr) (cl : List (Str × Addr)) (fp : List Addr), Ctx (X.blk s H scope (compEnvC scope cl c X.env) fp) (fun _ => W0) k → PTs (X.blk s H scope (compEnvC scope cl c X.env) fp) ifs (tT (X.blk s H scope (compEnvC scope cl c X.env) fp) (fun _ => W0) tf))
    (hi1 : ∀ (s : Shared) (H : Hp) (c : Addr) (cl : List (Str × Addr)) (fp : List Addr), Ctx (X.blk s H scope (compEnvC scope cl c X.env) fp) (fun _ => W0) k → PI (X.blk s H scope (compEnvC scope cl c X.env) fp) tg1 iter1 (tI (X.blk s H scope (compEnvC scope cl c X.env) fp) (fun _ => W0) fi1))
    (hg1 : ∀ (s : Shared) (H : Hp) (c : Addr) (cl : List (Str × Addr)) (fp : List Addr), PG (X.blk s H scope (compEnvC scope cl c X.env) fp) tg1 (tGw (X.blk s H scope (compEnvC scope cl c X.env) fp) vs1 gf1))
    (ht1 : ∀ (s : Shared) (H : Hp) (c : Addr) (cl : List (Str × Addr)) (fp : List Addr), Ctx (X.blk s H scope (compEnvC scope cl c X.env) fp) (fun _ => W0) k → PTs (X.blk s H scope (compEnvC scope cl c X.env) fp) ifs1 (tT (X.blk s H scope (compEnvC scope cl c X.env) fp) (fun _ => W0) tf1))
    (he : ∀ (s : Shared) (H : Hp) (c : Addr) (cl : List (Str × Addr)) (fp : List Addr), Ctx (X.blk s H scope (compEnvC scope cl c X.env) fp) (fun _ => W0) k → PE (X.blk s H scope (compEnvC scope cl c X.env) fp) elt (tE (X.blk s H scope (compEnvC scope cl c X.env) fp) (fun _ => W0) ef))
    (hsw : swapsWith (.ListComp elt [⟨tg, iter, ifs, 0⟩, ⟨tg1, iter1, ifs1, 0⟩] scope pos) (some (.Name y py)) spos.line X.env = pure true) (hy : X.N[i]? = some y := by rfl) (hyl : X.env.scope.names.lookup y = some .local := by rfl)
    (hs : ∀ x, foldedSetIterable iter X.env x = pure x := by intro _; rfl) (hs1 : ∀ env x, foldedSetIterable iter1 env x = pure x := by intro _ _; rfl) :
    PS X (.Assign [.Name y py] (.ListComp elt [⟨tg, iter, ifs, 0⟩, ⟨tg1, iter1, ifs1, 0⟩] scope pos) spos) (tS X W (setC i (lc2C fi gf tf fi1 gf1 tf1 ef (own.map (·.2)) vs1))) := by
  refine ⟨fun pins s σ H Dd I ⟨m, σ', G, S, R, q⟩ => ?_⟩
  refine (ps_setLc2 (i := i) (g := tGw X (own.map fun q : Str × Nat => q.2) gf) (tt := tT X (fun _ => W0) tf) (wi1 := tI X (fun _ => W0) fi1) (g1 := tGw X vs1 gf1) (tt1 := tT X (fun _ => W0) tf1) (te := tE X (fun _ => W0) ef) C.calm C.nd hy hyl hsw hi (blkOk_by hown) hv hg (fun s H c cl fp => ht s H c cl fp C.blk)
    (fun s H c cl fp => hi1 s H c cl fp C.blk) hg1 (fun s H c cl fp => ht1 s H c cl fp C.blk) (fun s H c cl fp => he s H c cl fp C.blk) hs hs1).run pins s σ H Dd I ?_
  refine lc2_read ⟨m, σ', G, S, R, (PostS.bnd (R := VR X.K) R q).imp fun v H1 ⟨m1, G1, x, e1, S1, r1, _, h1⟩ => ?_⟩
  exact h1 m1 H1 _ .refl S1 ((R.mono e1).put i r1)
end
end SX

set_option Elab.async false
set_option linter.all false
set_option maxRecDepth 100000
set_option maxHeartbeats 1000000
namespace SX
open PySem PySem.Spec PyProof.Rows L2
section
variable {P : Program} {w : World} {K : PySem.W.Frag} {mg : Str → Option Value}
theorem vrs_intl {m : List Addr} {H : Hp} : ∀ ns : List Int, VRs K m H (ns.map D.int) (ns.map V.int)
  | [] => .nil
  | n :: r => .cons (.int n) (vrs_intl r)
/-- the law's answer on a script of ns: the script is a list of the caller's, or one that the program itself wrote -/
structure Told (f : FF) (ns : List Int) : Prop where
  own : ∃ G, f [.ref 0] [.ro (ns.map .int)] = .ok (.bl true) G
  lit : ∃ G, f [.kl (ns.map .int)] [] = .ok (.bl true) G
/-- the heap seen with the script alone -/
def hScript (a : Addr) (o : Obj) (ns : List Int) : Hp := fun b => if b = a then some (.frz o (.lst (ns.map V.int))) else none
theorem hScript_at {a : Addr} {o : Obj} {ns : List Int} : hScript a o ns a = some (.frz o (.lst (ns.map V.int))) := if_pos rfl
theorem hScript_ne {a b : Addr} {o : Obj} {ns : List Int} (h : b ≠ a) : hScript a o ns b = none := if_neg h
theorem hScript_eq {a b : Addr} {o : Obj} {ns : List Int} {u : HO} (h : hScript a o ns b = some u) : b = a ∧ u = .frz o (.lst (ns.map V.int)) := by
  by_cases e : b = a
  · subst e
    rw [hScript_at] at h
    cases h
    exact ⟨rfl, rfl⟩
  · rw [hScript_ne e] at h
    cases h
theorem room_zero {k : Nat} (h : Room k callerA) : Room k callerA := h
/-- a law's call, from what its body computes -/
theorem lawG {mb : Str → Option Value} {k : Nat} {fa a : Addr} {fd : FuncData} {x : Str} {f : FF} {s : Shared} {vs : List Value} {ns : List Int}
    (kin : K.In s.heap) (glob : s.heap.Ns mainGlobals mg) (bns : s.heap.Ns builtinsNs mb) (bx : ∀ y : Str, y ≠ "__name__" → mb y = bootBuiltins y) (lim : s.heap.NoLimit) (noGen : s.gens = #[])
    (at_ : s.heap.get? a = some { cls := .type "list", data := .seq vs.toArray }) (hints : IntsAre vs ns) (short : ns.length ≤ sizeLine) (room : Room k callerA)
    (F : ∀ base : Heap, K.In base → base.Ns mainGlobals mg → FnG P w K mg base k fa fd [x] (spF K mg 1 f)) (binds : ∀ (s : Shared) (u : Value), BindsTo s fd ⟨[u], []⟩ [(x, u)])
    (told : Told f ns) :
    codeAny (model P w) callerA (.call (.ref fa) ⟨[.ref a], []⟩) (fun r s' => r = .ok (.ret (.bool true)) ∧ OldK s.heap s'.heap ∧ s'.os = s.os ∧ AllBare s'.gens) s := by
  have rel := vals_ints hints
  have len := hints.length
  -- H: what is tracked ahead of the call
  have main : ∀ (H : Hp) (m : List Addr) (d : D) (G : Hq), (∀ b u, H b = some u → b = a ∧ u = .frz { cls := .type "list", data := .seq vs.toArray } (.lst (ns.map V.int)) ∧ K.lookup a = none) → HOk P w H s.heap →
      Sim K m G H → VR K m H d (.ref a) → (∃ G', f [d] G = .ok (.bl true) G') →
      codeAny (model P w) callerA (.call (.ref fa) ⟨[.ref a], []⟩) (fun r s' => r = .ok (.ret (.bool true)) ∧ OldK s.heap s'.heap ∧ s'.os = s.os ∧ AllBare s'.gens) s := by
    intro H m d G hH hok sim vr ⟨G', eG⟩
    have keep : ∀ {b : Addr} {o : Obj}, s.heap.get? b = some o → b ≠ a → (hidT s.heap H).get? b = some o := fun {b o} e n => hidT_get e (by
      cases q : H b with
      | none => rfl
      | some u => exact absurd (hH b u q).1 n)
    have dict : ∀ {b : Addr} {o : Obj} {es : Array DictEntry} {ep : Nat}, s.heap.get? b = some o → o.data = .dict es ep → b ≠ a := fun e d q => by
      subst q
      rw [at_] at e
      cases e
      exact nomatch (show Data.seq vs.toArray _ = Data.dict _ _ from d)
    have ns' : ∀ {b : Addr} {n : Str → Option Value}, s.heap.Ns b n → (hidT s.heap H).Ns b n := fun ⟨o, es, ep, e, d, r⟩ => ⟨o, es, ep, keep e (dict e d), d, r⟩
    have kin' : K.In (hidT s.heap H) := fun b o e => hidT_get (kin b o e) (by
      cases q : H b with
      | none => rfl
      | some u =>
        obtain ⟨rfl, _, z⟩ := hH b u q
        rw [z] at e
        cases e)
    have md : Mod K mg (hidT s.heap H) := ⟨kin', ns' glob, ⟨mb, ns' bns, bx⟩, let ⟨mc, h1, h2⟩ := lim; ⟨mc, ns' h1, h2⟩⟩
    have env : Env0 P w K mg (hidT s.heap H) callerA [] s H :=
      ⟨rfl, md, fun b o e => of_hidT e, Nat.le_of_eq (hidT_size _ _), trivial, fun b hb => absurd (show b ∈ ([] : List Addr) from hb) (by simp), hok, .of_eq noGen⟩
    have want : spF K mg 1 f [.ref a] H (fun v H' => v = .bl true) W0 := by
      refine ⟨rfl, m, [d], G, sim, .cons vr .nil, ?_⟩
      rw [eG]
      intro m' H' b _ _ r
      cases r
      rfl
    refine codeAny_mono ((F _ kin' (ns' glob)).go callerA [] s H ⟨[.ref a], []⟩ [.ref a] [.ref a] _ _ rfl room env (binds s (.ref a)) (.cons rfl .nil) want) fun r s' h => ?_
    cases r with
    | error e =>
      obtain ⟨_, _, _, _, _, _, _, _, _, _, _, _, z⟩ := (show L2.CX P w [] H s W0 e s' from h)
      exact z.elim
    | ok fl =>
      cases fl with
      | ret u =>
        obtain ⟨v, H', os, bare, un, hok', r', q⟩ := (show CE [] P w H s (fun v H' => v = .bl true) u s' from h)
        subst q
        obtain rfl : u = Value.bool true := r'
        refine ⟨rfl, OldK.of_keep fun b o e => ?_, os, bare⟩
        cases q : H b with
        | none => exact un.keep b o e q (by intro z; exact absurd (show b ∈ ([] : List Addr) from z) (by simp)) (by simp)
        | some u =>
          obtain ⟨rfl, rfl, _⟩ := hH b u q
          obtain ⟨e2, _⟩ := hok' b _ (un.frzs b _ _ q)
          rw [at_] at e
          cases e
          exact e2
      | next => exact (show False from h).elim
      | brk => exact (show False from h).elim
      | cont => exact (show False from h).elim
  cases hk : K.lookup a with
  | some o =>
    have e := kin a o hk
    rw [at_] at e
    cases e
    exact main (fun _ => none) [] (.kl (ns.map .int)) [] (fun b u z => nomatch (show (none : Option HO) = some u from z)) (fun b u z => nomatch (show (none : Option HO) = some u from z))
      ⟨rfl, fun i j c h => by simp at h, fun i c x h => by simp at h, fun i c h => by simp at h⟩ (.kl ⟨_, vs.toArray, _, hk, rfl, rfl, rfl, by rw [List.size_toArray, len]; exact short, by simpa using rel⟩ (vrs_intl ns)) told.lit
  | none =>
    refine main (hScript a { cls := .type "list", data := .seq vs.toArray } ns) [a] (.ref 0) [.ro (ns.map .int)] (fun b u z => ⟨(hScript_eq z).1, (hScript_eq z).2, hk⟩) (fun b u z => ?_) ⟨rfl, fun i j c h1 h2 => ?_, fun i c x h1 h2 => ?_, fun i c h1 => ?_⟩ (.ref rfl) told.own
    · obtain ⟨rfl, rfl⟩ := hScript_eq z
      exact ⟨at_, by rw [List.length_map]; exact short, vs, _, rel, at_⟩
    · match i, j with
      | 0, 0 => rfl
      | i + 1, _ => simp at h1
      | 0, j + 1 => simp at h2
    · match i with
      | 0 =>
        cases h1
        cases h2
        exact ⟨_, _, hScript_at, vrs_intl ns⟩
      | i + 1 => simp at h1
    · match i with
      | 0 =>
        cases h1
        rw [hScript_at] <;> rfl
      | i + 1 => simp at h1
end
/-- the end of a law row: its head tells a written part K and that the law's def computes f there -/
theorem walkG {l : PySem.W.OpenLaw} {n k : Nat} {q : Program} {loose : List Str} {XP : (Str → Option Value) → Heap → Prop} {YP : World → Heap → Prop} {d : DefRec} {x : Str} {f : FF}
    (most : l.most = some n) (few : n ≤ sizeLine) (noDfl : d.params.defaults = []) (room : Room k callerA)
    (F : ∀ (w : World) (mg : Str → Option Value) (fa : Addr) (h : Heap), YP w h → h.Ns mainGlobals mg → mg d.name = some (.ref fa) →
      ∃ (K : PySem.W.Frag) (fd : FuncData), K.In h ∧ (∀ (s : Shared) (u : Value), BindsTo s fd ⟨[u], []⟩ [(x, u)]) ∧
        ∀ base : Heap, K.In base → base.Ns mainGlobals mg → FnG l.prog w K mg base k fa fd [x] (spF K mg 1 f))
    (told : ∀ ns : List Int, ns.length ≤ n → (∀ z ∈ ns, Builtin.Int.intBits z ≤ 1048576) → Told f ns) :
    PySem.W.WalkO q loose XP YP l.row.toRowW d [] (fun f vs => PySem.call f vs) := by
  refine Att.attach_callB most noDfl fun w s₀ s mg mb fa o pm cd doc a vs ns G Y ho hd hcd hmg at_ hints len bits noGen => ?_
  obtain ⟨K, fd, kin, binds, ok⟩ := F w mg fa _ Y G.T.g hmg
  exact lawG kin G.T.g G.T.b G.T.builtins G.T.nolimit noGen at_ hints (Nat.le_trans len few) room ok binds (told ns len bits)
end SX

set_option Elab.async false
set_option linter.all false
set_option maxRecDepth 100000
set_option maxHeartbeats 1000000
namespace SX
open PySem PySem.Spec PyProof.Rows L2
/-- (a proof that simp takes for no definitional one) -/
theorem nd {α : Type} {a b : α} (h : a = b) : a = b := h
theorem ndP {a b : Prop} (h : a = b) : a = b := h
/-- what a computation gives, where it gives something -/
def wE {α : Type} (r : Rs α) (Q : α → Hq → Prop) : Prop := match r with
  | .ok a G => Q a G
  | _ => False
def wS (r : Sr) (N : Eq' → Hq → Prop) (R : D → Hq → Prop) (B C : Eq' → Hq → Prop) : Prop := match r with
  | .nx σ G => N σ G
  | .rt d G => R d G
  | .bk σ G => B σ G
  | .ct σ G => C σ G
  | _ => False
def wC (r : Cr) (Q : Hq → Prop) : Prop := match r with
  | some G => Q G
  | none => False
section
variable {α β : Type} {G G1 : Hq} {σ σ1 : Eq'} {N N' B B' C C' : Eq' → Hq → Prop} {R R' : D → Hq → Prop}
@[simp] theorem wE_ok {a : α} {Q : α → Hq → Prop} : wE (.ok a G) Q = Q a G := ndP rfl
@[simp] theorem wE_badF {Q : α → Hq → Prop} : wE (.bad : Rs α) Q = False := ndP rfl
@[simp] theorem wE_exF {c : Str} {i : Nat} {Q : α → Hq → Prop} : wE (.ex c i G : Rs α) Q = False := ndP rfl
@[simp] theorem wE_bind {r : Rs α} {k : α → Hq → Rs β} {Q : β → Hq → Prop} : wE (r.bind k) Q = wE r (fun a G => wE (k a G) Q) := by
  cases r <;> rfl
@[simp] theorem wE_ite {p : Prop} [Decidable p] {a b : Rs α} {Q : α → Hq → Prop} : wE (if p then a else b) Q = if p then wE a Q else wE b Q := by
  split <;> rfl
theorem wE_imp {r : Rs α} {Q Q' : α → Hq → Prop} (h : wE r Q) (f : ∀ a G, Q a G → Q' a G) : wE r Q' := by
  cases r with
  | ok a G => exact f a G h
  | ex _ _ _ => exact h.elim
  | bad => exact h.elim
theorem wE_get {r : Rs α} {Q : α → Hq → Prop} (h : wE r Q) : ∃ a G, r = .ok a G ∧ Q a G := by
  cases r with
  | ok a G => exact ⟨a, G, rfl, h⟩
  | ex _ _ _ => exact h.elim
  | bad => exact h.elim
theorem wE_of {r : Rs α} {a : α} {Q : α → Hq → Prop} (h : r = .ok a G) (q : Q a G) : wE r Q := by rw [h]; exact q
@[simp] theorem wS_nx : wS (.nx σ G) N R B C = N σ G := ndP rfl
@[simp] theorem wS_rt {d : D} : wS (.rt d G) N R B C = R d G := ndP rfl
@[simp] theorem wS_bk : wS (.bk σ G) N R B C = B σ G := ndP rfl
@[simp] theorem wS_ct : wS (.ct σ G) N R B C = C σ G := ndP rfl
@[simp] theorem wS_badF : wS .bad N R B C = False := ndP rfl
@[simp] theorem wS_onE {r : Rs α} {k : α → Hq → Sr} : wS (onE r σ k) N R B C = wE r (fun a G => wS (k a G) N R B C) := by
  cases r <;> rfl
@[simp] theorem wS_onG {r : Rs Eq'} {k : SF} : wS (onG r k) N R B C = wE r (fun a G => wS (k a G) N R B C) := by
  cases r <;> rfl
@[simp] theorem wS_onU {r : Rs Unit} {k : Hq → Sr} : wS (onU r k) N R B C = wE r (fun _ G => wS (k G) N R B C) := by
  cases r <;> rfl
@[simp] theorem wS_then {r : Sr} {k : SF} : wS (r.then k) N R B C = wS r (fun σ G => wS (k σ G) N R B C) R B C := by
  cases r <;> rfl
@[simp] theorem wS_ite {p : Prop} [Decidable p] {a b : Sr} : wS (if p then a else b) N R B C = if p then wS a N R B C else wS b N R B C := by
  split <;> rfl
@[simp] theorem wS_seq {a b : SF} : wS (seqC a b σ G) N R B C = wS (a σ G) (fun σ G => wS (b σ G) N R B C) R B C := wS_then
@[simp] theorem wS_set {i : Nat} {e : EF} : wS (setC i e σ G) N R B C = wE (e σ G) (fun d G1 => N (σ.set i (some d)) G1) := wS_onE
@[simp] theorem wS_expr {e : EF} : wS (exprC e σ G) N R B C = wE (e σ G) (fun _ G1 => N σ G1) := wS_onE
@[simp] theorem wS_ret {e : EF} : wS (retC e σ G) N R B C = wE (e σ G) R := wS_onE
@[simp] theorem wS_asg {e : EF} {g : GF} : wS (asgC e g σ G) N R B C = wE (e σ G) (fun d G1 => wE (g d σ G1) N) := by
  show wS (onE _ _ _) N R B C = _
  rw [wS_onE]
  congr 1
  funext d G1
  exact wS_onG
@[simp] theorem wS_if {c : TF} {a b : SF} : wS (ifS c a b σ G) N R B C = wE (c σ G) (fun x G1 => if x = true then wS (a σ G1) N R B C else wS (b σ G1) N R B C) := by
  show wS (onE _ _ _) N R B C = _
  rw [wS_onE]
  congr 1
  funext d G1
  exact wS_ite
theorem wS_imp {r : Sr} (h : wS r N R B C) (fN : ∀ σ G, N σ G → N' σ G) (fR : ∀ d G, R d G → R' d G) (fB : ∀ σ G, B σ G → B' σ G) (fC : ∀ σ G, C σ G → C' σ G) : wS r N' R' B' C' := by
  cases r with
  | nx σ G => exact fN σ G h
  | rt d G => exact fR d G h
  | bk σ G => exact fB σ G h
  | ct σ G => exact fC σ G h
  | ex _ _ _ _ => exact h.elim
  | bad => exact h.elim
theorem wS_turn {r : Sr} {k : SF} : wS (r.turn k) N R B C = wS r (fun σ G => wS (k σ G) N R B C) R N (fun σ G => wS (k σ G) N R B C) := by
  cases r <;> rfl
@[simp] theorem wE_body {n : Nat} {b : SF} {ds : List D} {Q : D → Hq → Prop} : wE (bodyC n b ds G) Q = wS (b (ds.map some ++ List.replicate (n - ds.length) none) G) (fun _ G => Q .non G) Q (fun _ _ => False) (fun _ _ => False) := by
  unfold bodyC
  cases b (ds.map some ++ List.replicate (n - ds.length) none) G <;> rfl
@[simp] theorem wE_fn {f : FF} {dvs : List D} {a : AF} {Q : D → Hq → Prop} : wE (fnC f dvs a σ G) Q = wE (a σ G) (fun xs G1 => wE (f (xs ++ dvs) G1) Q) := wE_bind
@[simp] theorem wE_call {g : List D → Hq → Rs D} {a : AF} {Q : D → Hq → Prop} : wE (callC g a σ G) Q = wE (a σ G) (fun xs G1 => wE (g xs G1) Q) := wE_bind
@[simp] theorem wE_bin {g : D → D → Hq → Rs D} {a b : EF} {Q : D → Hq → Prop} : wE (binC g a b σ G) Q = wE (a σ G) (fun x G1 => wE (b σ G1) (fun y G2 => wE (g x y G2) Q)) := by
  show wE (Rs.bind _ _) Q = _
  rw [wE_bind]
  congr 1
  funext x G1
  exact wE_bind
@[simp] theorem wE_un {g : D → Hq → Rs D} {a : EF} {Q : D → Hq → Prop} : wE (unC g a σ G) Q = wE (a σ G) (fun x G1 => wE (g x G1) Q) := wE_bind
@[simp] theorem wE_nilA {Q : List D → Hq → Prop} : wE (nilA σ G) Q = Q [] G := ndP rfl
@[simp] theorem wE_consA {a : EF} {r : AF} {Q : List D → Hq → Prop} : wE (consA a r σ G) Q = wE (a σ G) (fun x G1 => wE (r σ G1) (fun xs G2 => Q (x :: xs) G2)) := by
  show wE (Rs.bind _ _) Q = _
  rw [wE_bind]
  congr 1
  funext x G1
  exact wE_bind
@[simp] theorem wE_tup {a : AF} {Q : D → Hq → Prop} : wE (tupC a σ G) Q = wE (a σ G) (fun xs G1 => Q (.tup xs) G1) := wE_bind
@[simp] theorem wE_lst {a : AF} {Q : D → Hq → Prop} : wE (lstC a σ G) Q = wE (a σ G) (fun xs G1 => Q (.ref G1.length) (G1 ++ [.lst xs])) := wE_bind
@[simp] theorem wE_c {d : D} {Q : D → Hq → Prop} : wE (cC d σ G) Q = Q d G := ndP rfl
@[simp] theorem wE_var {i : Nat} {d : D} {Q : D → Hq → Prop} (h : σ[i]? = some (some d)) : wE (varC i σ G) Q = Q d G := by
  unfold varC
  rw [h] <;> rfl
@[simp] theorem wE_val {a : EF} {Q : Bool → Hq → Prop} : wE (valT a σ G) Q = wE (a σ G) (fun x G1 => wE (toB x G1) Q) := wE_bind
@[simp] theorem wE_truth {a : EF} {Q : Bool → Hq → Prop} : wE (truthT a σ G) Q = wE (a σ G) (fun x G1 => wE (truthD x G1) Q) := wE_bind
@[simp] theorem wE_toB {b : Bool} {Q : Bool → Hq → Prop} : wE (toB (.bl b) G) Q = Q b G := ndP rfl
@[simp] theorem wE_andT {a b : TF} {Q : Bool → Hq → Prop} : wE (andT a b σ G) Q = wE (a σ G) (fun x G1 => if x = true then wE (b σ G1) Q else Q false G1) := by
  show wE (Rs.bind _ _) Q = _
  rw [wE_bind]
  congr 1
  funext x G1
  exact wE_ite
@[simp] theorem wE_orT {a b : TF} {Q : Bool → Hq → Prop} : wE (orT a b σ G) Q = wE (a σ G) (fun x G1 => if x = true then Q true G1 else wE (b σ G1) Q) := by
  show wE (Rs.bind _ _) Q = _
  rw [wE_bind]
  congr 1
  funext x G1
  exact wE_ite
@[simp] theorem wE_notT {a : TF} {Q : Bool → Hq → Prop} : wE (notT a σ G) Q = wE (a σ G) (fun x G1 => Q (!x) G1) := wE_bind
@[simp] theorem wE_ifC {c : TF} {a b : EF} {Q : D → Hq → Prop} : wE (ifC c a b σ G) Q = wE (c σ G) (fun x G1 => if x = true then wE (a σ G1) Q else wE (b σ G1) Q) := by
  show wE (Rs.bind _ _) Q = _
  rw [wE_bind]
  congr 1
  funext x G1
  exact wE_ite
@[simp] theorem wE_notC {a : EF} {Q : D → Hq → Prop} : wE (notC a σ G) Q = wE (a σ G) (fun x G1 => wE (truthD x G1) (fun b G2 => Q (.bl (!b)) G2)) := by
  show wE (Rs.bind _ _) Q = _
  rw [wE_bind]
  congr 1
  funext x G1
  exact wE_bind
@[simp] theorem wE_andC {a b : EF} {Q : D → Hq → Prop} : wE (andC a b σ G) Q = wE (a σ G) (fun x G1 => match x with | .bl true => wE (b σ G1) Q | .bl false => Q (.bl false) G1 | _ => False) := by
  show wE (Rs.bind _ _) Q = _
  rw [wE_bind]
  congr 1
  funext x G1
  cases x with
  | bl b => cases b <;> rfl
  | _ => rfl
@[simp] theorem wE_orC {a b : EF} {Q : D → Hq → Prop} : wE (orC a b σ G) Q = wE (a σ G) (fun x G1 => match x with | .bl true => Q (.bl true) G1 | .bl false => wE (b σ G1) Q | _ => False) := by
  show wE (Rs.bind _ _) Q = _
  rw [wE_bind]
  congr 1
  funext x G1
  cases x with
  | bl b => cases b <;> rfl
  | _ => rfl
@[simp] theorem wE_src {g : List D → Hq → Rs Src} {a : AF} {Q : Src → Hq → Prop} : wE (srcC g a σ G) Q = wE (a σ G) (fun xs G1 => wE (g xs G1) Q) := wE_bind
@[simp] theorem wE_iter {e : EF} {Q : Src → Hq → Prop} : wE (iterC e σ G) Q = wE (e σ G) (fun x G1 => wE (iterD x G1) Q) := wE_bind
@[simp] theorem wE_meth {ok : Hq → D → Bool} {g : D → List D → Hq → Rs D} {o : EF} {a : AF} {Q : D → Hq → Prop} : wE (methC ok g o a σ G) Q = wE (o σ G) (fun x G1 => if ok G1 x = true then wE (a σ G1) (fun ys G2 => wE (g x ys G2) Q) else False) := by
  show wE (Rs.bind _ _) Q = _
  rw [wE_bind]
  congr 1
  funext x G1
  rw [wE_ite, wE_bind] <;> rfl
@[simp] theorem wE_gN {i : Nat} {d : D} : wE (gN i d σ G) N = N (σ.set i (some d)) G := ndP rfl
@[simp] theorem wE_gTp {n : Nat} {g : List D → Eq' → Hq → Rs Eq'} {xs : List D} (h : xs.length = n) : wE (gTp n g (.tup xs) σ G) N = wE (g xs σ G) N := by
  show wE (if _ then _ else _) N = _
  rw [if_pos h]
@[simp] theorem wE_gCs {g : GF} {r : List D → Eq' → Hq → Rs Eq'} {d : D} {ds : List D} : wE (gCs g r (d :: ds) σ G) N = wE (g d σ G) (fun σ1 G1 => wE (r ds σ1 G1) N) := wE_bind
@[simp] theorem wE_gNl : wE (gNl [] σ G) N = N σ G := ndP rfl
@[simp] theorem wE_gSub {g : D → D → D → Hq → Rs Unit} {o i : EF} {d : D} : wE (gSubC g o i d σ G) N = wE (o σ G) (fun x G1 => wE (i σ G1) (fun y G2 => wE (g x y d G2) (fun _ G3 => N σ G3))) := by
  unfold gSubC
  cases o σ G with
  | ok x G1 =>
    show wE (match i σ G1 with | .ok y G2 => _ | _ => _) N = wE (i σ G1) _
    cases i σ G1 with
    | ok y G2 =>
      show wE (match g x y d G2 with | .ok _ G3 => _ | _ => _) N = wE (g x y d G2) _
      cases g x y d G2 <;> rfl
    | ex _ _ _ => rfl
    | bad => rfl
  | ex _ _ _ => rfl
  | bad => rfl
@[simp] theorem wS_aug {i : Nat} {g : D → D → Hq → Rs D} {e : EF} {x : D} (h : σ[i]? = some (some x)) : wS (augC i g e σ G) N R B C = wE (e σ G) (fun y G1 => wE (g x y G1) (fun z G2 => N (σ.set i (some z)) G2)) := by
  unfold augC
  rw [h]
  show wS (onE _ _ _) N R B C = _
  rw [wS_onE]
  congr 1
  funext y G1
  exact wS_onE
@[simp] theorem wS_par {i j : Nat} {a : AF} : wS (parC i j a σ G) N R B C = wE (a σ G) (fun ds G1 => match ds with | [x, y] => N ((σ.set i (some x)).set j (some y)) G1 | _ => False) := by
  show wS (onE _ _ _) N R B C = _
  rw [wS_onE]
  congr 1
  funext ds G1
  match ds with
  | [] => rfl
  | [_] => rfl
  | [_, _] => rfl
  | _ :: _ :: _ :: _ => rfl
@[simp] theorem wS_par3 {i j l : Nat} {a : AF} : wS (par3C i j l a σ G) N R B C = wE (a σ G) (fun ds G1 => match ds with | [x, y, z] => N (((σ.set i (some x)).set j (some y)).set l (some z)) G1 | _ => False) := by
  show wS (onE _ _ _) N R B C = _
  rw [wS_onE]
  congr 1
  funext ds G1
  match ds with
  | [] => rfl
  | [_] => rfl
  | [_, _] => rfl
  | [_, _, _] => rfl
  | _ :: _ :: _ :: _ :: _ => rfl
@[simp] theorem wS_pass : wS (passC σ G) N R B C = N σ G := ndP rfl
@[simp] theorem wS_break : wS (breakC σ G) N R B C = B σ G := ndP rfl
@[simp] theorem wS_cont : wS (contC σ G) N R B C = C σ G := ndP rfl
@[simp] theorem wS_retN : wS (retN σ G) N R B C = R .non G := ndP rfl
/-! ### loops -/
theorem wS_while {c : TF} {b : SF} (I : Nat → Eq' → Hq → Prop)
    (step : ∀ n σ G, I n σ G → wE (c σ G) fun x G1 => if x = true then wS (b σ G1) (fun σ' G' => ∃ m, m < n ∧ I m σ' G') R N (fun σ' G' => ∃ m, m < n ∧ I m σ' G') else N σ G1) :
    ∀ n σ G, I n σ G → wS (whileC c b σ G) N R B C := by
  intro n
  induction n using Nat.strongRecOn with
  | ind n ih =>
    intro σ G h
    rw [whileC_eq, wS_onE]
    refine wE_imp (step n σ G h) fun x G1 q => ?_
    rw [wS_ite]
    split
    · rename_i hx
      rw [if_pos hx] at q
      rw [wS_turn]
      exact wS_imp q (fun σ' G' ⟨m, hm, hI⟩ => ih m hm σ' G' hI) (fun _ _ q => q) (fun _ _ q => q) fun σ' G' ⟨m, hm, hI⟩ => ih m hm σ' G' hI
    · rename_i hx
      rw [if_neg hx] at q
      exact q
/-- what a source gives that goes over xs -/
def gives (xs : List D) (k : Nat) : Nx := match xs[k]? with
  | some d => .item d
  | none => .stop
theorem wS_forL {g : GF} {b : SF} {s : Src} (xs : List D) (I : Nat → Eq' → Hq → Prop) (src : ∀ k σ G, I k σ G → s k G = gives xs k)
    (step : ∀ k d σ G, xs[k]? = some d → I k σ G → wE (g d σ G) fun σ1 G1 => wS (b σ1 G1) (I (k + 1)) R N (I (k + 1)))
    (out : ∀ σ G, I xs.length σ G → N σ G) : ∀ m k σ G, k + m = xs.length → I k σ G → wS (forL s g b k σ G) N R B C := by
  intro m
  induction m with
  | zero =>
    intro k σ G hk h
    obtain rfl : k = xs.length := by omega
    rw [forL_eq, src _ σ G h]
    have e : gives xs xs.length = .stop := by
      unfold gives
      rw [List.getElem?_eq_none (Nat.le_refl _)]
    rw [e]
    exact out σ G h
  | succ m ih =>
    intro k σ G hk h
    rw [forL_eq, src k σ G h]
    have hl : k < xs.length := by omega
    have e : gives xs k = .item xs[k] := by
      unfold gives
      rw [List.getElem?_eq_getElem hl]
    rw [e]
    show wS (onG _ _) N R B C
    rw [wS_onG]
    refine wE_imp (step k xs[k] σ G (List.getElem?_eq_getElem hl) h) fun σ1 G1 q => ?_
    rw [wS_turn]
    exact wS_imp q (fun σ' G' hI => ih (k + 1) σ' G' (by omega) hI) (fun _ _ q => q) (fun _ _ q => q) fun σ' G' hI => ih (k + 1) σ' G' (by omega) hI
@[simp] theorem wS_for {i : IF} {g : GF} {b : SF} : wS (forC i g b σ G) N R B C = wE (i σ G) (fun s G1 => wS (forL s g b 0 σ G1) N R B C) := wS_onE
/-- for x in range(..) -/
theorem wS_forR {g : GF} {b : SF} {lo st : Int} {n : Nat} (I : Nat → Eq' → Hq → Prop) (h0 : I 0 σ G)
    (step : ∀ k, k < n → ∀ σ G, I k σ G → wE (g (.int (lo + k * st)) σ G) fun σ1 G1 => wS (b σ1 G1) (I (k + 1)) R N (I (k + 1))) (out : ∀ σ G, I n σ G → N σ G) :
    wS (forL (itR lo st n) g b 0 σ G) N R B C := by
  have hn : ((List.range n).map fun k : Nat => D.int (lo + k * st)).length = n := by simp
  refine wS_forL ((List.range n).map fun k : Nat => D.int (lo + k * st)) I (fun k σ G _ => ?_) (fun k d σ G hd hI => ?_) (fun σ G h => out σ G (by rw [hn] at h; exact h)) n 0 σ G (by rw [hn]; omega) h0
  · unfold gives itR
    by_cases hk : k < n
    · simp [hk]
    · simp [hk]
  · rw [List.getElem?_map] at hd
    have hk : k < n := by
      rcases Nat.lt_or_ge k n with q | q
      · exact q
      · rw [List.getElem?_eq_none (by simpa using q)] at hd
        cases hd
    rw [List.getElem?_range hk] at hd
    cases hd
    exact step _ hk σ G hI
theorem src_itL {p : Nat} {G : Hq} {xs : List D} {k : Nat} (h : lstOf G (.ref p) = some xs) : itL p k G = gives xs k := by
  unfold itL gives
  rw [h] <;> rfl
theorem src_itT {G : Hq} {xs : List D} {k : Nat} : itT xs k G = gives xs k := rfl
/-- for x in a list that stands meanwhile -/
theorem wS_forLs {g : GF} {b : SF} {p : Nat} (xs : List D) (I : Nat → Eq' → Hq → Prop) (h0 : I 0 σ G) (still : ∀ k σ G, I k σ G → lstOf G (.ref p) = some xs)
    (step : ∀ k d σ G, xs[k]? = some d → I k σ G → wE (g d σ G) fun σ1 G1 => wS (b σ1 G1) (I (k + 1)) R N (I (k + 1))) (out : ∀ σ G, I xs.length σ G → N σ G) :
    wS (forL (itL p) g b 0 σ G) N R B C :=
  wS_forL xs I (fun k σ G h => src_itL (still k σ G h)) step out xs.length 0 σ G (by omega) h0
theorem wS_forT {g : GF} {b : SF} (xs : List D) (I : Nat → Eq' → Hq → Prop) (h0 : I 0 σ G)
    (step : ∀ k d σ G, xs[k]? = some d → I k σ G → wE (g d σ G) fun σ1 G1 => wS (b σ1 G1) (I (k + 1)) R N (I (k + 1))) (out : ∀ σ G, I xs.length σ G → N σ G) :
    wS (forL (itT xs) g b 0 σ G) N R B C :=
  wS_forL xs I (fun k σ G h => src_itT) step out xs.length 0 σ G (by omega) h0
/-! ### comprehensions -/
theorem lcL_run {s : Src} {turn : D → Hq → Cr} (xs : List D) (I : Nat → Hq → Prop) (src : ∀ k G, I k G → s k G = gives xs k)
    (step : ∀ k d G, xs[k]? = some d → I k G → wC (turn d G) (I (k + 1))) : ∀ m k G, k + m = xs.length → I k G → wC (lcL s turn k G) (I xs.length) := by
  intro m
  induction m with
  | zero =>
    intro k G hk h
    obtain rfl : k = xs.length := by omega
    rw [lcL_eq, src _ G h]
    have e : gives xs xs.length = .stop := by
      unfold gives
      rw [List.getElem?_eq_none (Nat.le_refl _)]
    rw [e]
    exact h
  | succ m ih =>
    intro k G hk h
    rw [lcL_eq, src k G h]
    have hl : k < xs.length := by omega
    have e : gives xs k = .item xs[k] := by
      unfold gives
      rw [List.getElem?_eq_getElem hl]
    rw [e]
    have q := step k xs[k] G (List.getElem?_eq_getElem hl) h
    show wC ((turn xs[k] G).bind (lcL s turn (k + 1))) _
    cases et : turn xs[k] G with
    | none =>
      rw [et] at q
      exact q.elim
    | some G1 =>
      rw [et] at q
      exact ih (k + 1) G1 (by omega) q
@[simp] theorem wE_ofCr {r : Cr} {d : D} {Q : D → Hq → Prop} : wE (ofCr r d) Q = wC r (fun G => Q d G) := by
  cases r <;> rfl
theorem wC_imp {r : Cr} {Q Q' : Hq → Prop} (h : wC r Q) (f : ∀ G, Q G → Q' G) : wC r Q' := by
  cases r with
  | some G => exact f G h
  | none => exact h.elim
theorem wC_turn {g : GF} {t : TF} {e : EF} {p : Nat} {d : D} {Q : Hq → Prop} : wC (lcTurn g t e σ p d G) Q = wE (g d σ G) (fun σ1 G1 => wE (t σ1 G1) (fun x G2 => if x = true then wE (e σ1 G2) (fun y G3 => wC (appAt p y G3) Q) else Q G2)) := by
  unfold lcTurn
  cases g d σ G with
  | ok σ1 G1 =>
    show wC (match t σ1 G1 with | .ok true G2 => _ | .ok false G2 => _ | _ => _) Q = wE (t σ1 G1) _
    cases t σ1 G1 with
    | ok x G2 =>
      cases x with
      | true =>
        show wC (match e σ1 G2 with | .ok y G3 => _ | _ => _) Q = wE (e σ1 G2) _
        cases e σ1 G2 <;> rfl
      | false => rfl
    | ex _ _ _ => rfl
    | bad => rfl
  | ex _ _ _ => rfl
  | bad => rfl
theorem wC_app {p : Nat} {acc : List D} {y : D} {Q : Hq → Prop} (h : G[p]? = some (.lst acc)) (hl : acc.length < 16777216) : wC (appAt p y G) Q = Q (G.set p (.lst (acc ++ [y]))) := by
  unfold appAt
  rw [h]
  show wC (if _ then _ else _) Q = _
  rw [if_pos hl] <;> rfl
@[simp] theorem wE_yes {Q : Bool → Hq → Prop} : wE (yesT σ G) Q = Q true G := ndP rfl
@[simp] theorem wE_lc {i : IF} {g : GF} {t : TF} {e : EF} {vs : List Nat} {Q : D → Hq → Prop} :
    wE (lcC i g t e vs σ G) Q = wE (i σ G) (fun s G1 => wC (lcL s (lcTurn g t e (wipeD σ vs) G1.length) 0 (G1 ++ [.lst []])) (fun G2 => Q (.ref G1.length) G2)) := by
  show wE (Rs.bind _ _) Q = _
  rw [wE_bind]
  congr 1
  funext s G1
  exact wE_ofCr
theorem app_last {c c' : SX.C} : (G ++ [c]).set G.length c' = G ++ [c'] := by
  rw [List.set_append_right _ _ (Nat.le_refl _)]
  simp
/-- a comprehension whose elements leave the heap alone: F gives what each item adds -/
theorem lc_pure {s : Src} {g : GF} {t : TF} {e : EF} {σ0 : Eq'} {Q : Hq → Prop} (xs : List D) (F : D → List D) (hlen : (xs.flatMap F).length ≤ 16777216) (src : ∀ (k : Nat) (acc : List D), s k (G ++ [.lst acc]) = gives xs k)
    (turn : ∀ (k : Nat) (d : D) (acc : List D), xs[k]? = some d → wE (g d σ0 (G ++ [.lst acc])) fun σ1 G1 => wE (t σ1 G1) fun x G2 => if x = true then wE (e σ1 G2) fun y G3 => G3 = G ++ [.lst acc] ∧ F d = [y] else G2 = G ++ [.lst acc] ∧ F d = [])
    (out : Q (G ++ [.lst (xs.flatMap F)])) : wC (lcL s (lcTurn g t e σ0 G.length) 0 (G ++ [.lst []])) Q := by
  refine wC_imp (lcL_run xs (fun k G' => G' = G ++ [.lst ((xs.take k).flatMap F)]) (fun k G' hI => by rw [hI]; exact src k _) (fun k d G' hd hI => ?_) xs.length 0 (G ++ [.lst []]) (by omega) (by simp)) fun G' hI => by rw [hI, List.take_length]; exact out
  subst hI
  rw [wC_turn]
  have tk : xs.take (k + 1) = xs.take k ++ [d] := by
    rw [List.take_succ, hd] <;> rfl
  refine wE_imp (turn k d _ hd) fun σ1 G1 q => wE_imp q fun x G2 q => ?_
  split
  · rename_i hx
    rw [if_pos hx] at q
    refine wE_imp q fun y G3 ⟨e3, ey⟩ => ?_
    subst e3
    have hk : k < xs.length := (List.getElem?_eq_some_iff.mp hd).1
    have lt : ((xs.take k).flatMap F).length < 16777216 := by
      have e0 : xs.flatMap F = (xs.take k).flatMap F ++ (F d ++ (xs.drop (k + 1)).flatMap F) := by
        conv => lhs; rw [← List.take_append_drop (k + 1) xs, List.flatMap_append, tk, List.flatMap_append]
        simp
      rw [e0, ey] at hlen
      simp only [List.length_append, List.length_cons, List.length_nil] at hlen
      omega
    rw [wC_app (by simp) lt, app_last, tk, List.flatMap_append]
    simp [ey]
  · rename_i hx
    rw [if_neg hx] at q
    rw [q.1, tk, List.flatMap_append]
    simp [q.2]
end
end SX

set_option Elab.async false
set_option linter.all false
set_option maxRecDepth 100000
set_option maxHeartbeats 1000000
namespace SX
open PySem PySem.Spec PyProof.Rows L2
/-! ### operations at integers and at lists -/
section
variable {G : Hq} {Q : D → Hq → Prop}
theorem shaped_int (i : Int) : SeqAt.shaped (.int i) = true := by
  unfold SeqAt.shaped
  simp [PyData.canLay0, PyData.depth]
@[simp] theorem eqD_int {neg : Bool} {i j : Int} : eqD neg (.int i) (.int j) G = .ok (.bl (if neg then !decide (i = j) else decide (i = j))) G := by
  show eqD0 neg (.int i) (.int j) G = _
  unfold eqD0
  have e : PyData.eqv (.int i) (.int j) = decide (i = j) := by
    unfold PyData.eqv
    rw [Bool.eq_iff_iff]
    simp
  simp [toPy, shaped_int, e]
@[simp] theorem cmpD_int {p : Int → Int → Bool} {i j : Int} : cmpD p (.int i) (.int j) G = .ok (.bl (p i j)) G := nd rfl
@[simp] theorem addD_int {i j : Int} : addD (.int i) (.int j) G = .ok (.int (i + j)) G := nd rfl
@[simp] theorem subD_int {i j : Int} : subD (.int i) (.int j) G = .ok (.int (i - j)) G := nd rfl
@[simp] theorem iaddD_int {i j : Int} : iaddD (.int i) (.int j) G = .ok (.int (i + j)) G := nd rfl
@[simp] theorem negD_int {i : Int} : negD (.int i) G = .ok (.int (-i)) G := nd rfl
@[simp] theorem intD_int {i : Int} : intD [.int i] G = .ok (.int i) G := nd rfl
@[simp] theorem absD_int {i : Int} : absD [.int i] G = .ok (.int (if i < 0 then -i else i)) G := nd rfl
theorem mulOk_of {i j : Int} (hi : i.natAbs < 2 ^ 400) (hj : j.natAbs < 2 ^ 400) : mulOk i j = true := by
  unfold mulOk
  have h : ∀ n : Nat, n < 2 ^ 400 → n.log2 < 400 := fun n hn => by
    by_cases z : n = 0
    · subst z
      decide
    · exact (Nat.log2_lt z).mpr hn
  have h1 := h _ hi
  have h2 := h _ hj
  exact decide_eq_true (by omega)
theorem mulD_int {i j : Int} (hi : i.natAbs < 2 ^ 400) (hj : j.natAbs < 2 ^ 400) : mulD (.int i) (.int j) G = .ok (.int (i * j)) G := by
  show (if mulOk i j = true then _ else _) = _
  rw [if_pos (mulOk_of hi hj)]
theorem imulD_int {i j : Int} (hi : i.natAbs < 2 ^ 400) (hj : j.natAbs < 2 ^ 400) : imulD (.int i) (.int j) G = .ok (.int (i * j)) G := by
  show (if mulOk i j = true then _ else _) = _
  rw [if_pos (mulOk_of hi hj)]
theorem modD_int {i j : Int} (hj : 0 < j) : modD (.int i) (.int j) G = .ok (.int (i % j)) G := by
  show (if j ≠ 0 then _ else _) = _
  rw [if_pos (by omega), Int.fmod_eq_emod_of_nonneg _ (by omega)]
theorem divOk_of {j : Int} (hj : 0 < j) (hb : j.natAbs < 2 ^ 400) : divOk j = true := by
  unfold divOk
  have h : j.natAbs.log2 < 400 := (Nat.log2_lt (by omega)).mpr hb
  rw [Bool.and_eq_true_iff]
  exact ⟨decide_eq_true (by omega), decide_eq_true (by omega)⟩
theorem fdivD_int {i j : Int} (hj : 0 < j) (hb : j.natAbs < 2 ^ 400) : fdivD (.int i) (.int j) G = .ok (.int (i / j)) G := by
  show (if divOk j = true then _ else _) = _
  rw [if_pos (divOk_of hj hb), Int.fdiv_eq_ediv_of_nonneg _ (by omega)]
theorem ixD_lst {p : Nat} {xs : List D} {i : Int} (h : G[p]? = some (.lst xs)) : ixD (.ref p) (.int i) G = oneD (atI xs i) G := by
  unfold ixD
  simp [h]
theorem ixD_ro {p : Nat} {xs : List D} {i : Int} (h : G[p]? = some (.ro xs)) : ixD (.ref p) (.int i) G = oneD (atI xs i) G := by
  unfold ixD
  simp [h]
@[simp] theorem ixD_tup {xs : List D} {i : Int} : ixD (.tup xs) (.int i) G = oneD (atI xs i) G := nd rfl
@[simp] theorem oneD_some {d : D} : oneD (some d) G = .ok d G := nd rfl
theorem atI_at {xs : List D} {k : Nat} (h : k < xs.length) : atI xs (k : Int) = some xs[k] := atI_nat (List.getElem?_eq_getElem h)
theorem atI_of {xs : List D} {i : Int} {d : D} (h0 : 0 ≤ i) (h : xs[i.toNat]? = some d) : atI xs i = some d := by
  have e : i = ((i.toNat : Nat) : Int) := by omega
  rw [e]
  exact atI_nat h
theorem setD_lst {p : Nat} {xs : List D} {d : D} {i : Int} {j : Nat} (h : G[p]? = some (.lst xs)) (hj : ixN xs.length i = some j) : setD (.ref p) (.int i) d G = .ok () (G.set p (.lst (xs.set j d))) := by
  unfold setD
  simp [h, hj]
theorem lstOf_lst {p : Nat} {xs : List D} (h : G[p]? = some (.lst xs)) : lstOf G (.ref p) = some xs := by
  unfold lstOf
  simp [h]
theorem lstOf_ro {p : Nat} {xs : List D} (h : G[p]? = some (.ro xs)) : lstOf G (.ref p) = some xs := by
  unfold lstOf
  simp [h]
@[simp] theorem lstOf_kl {xs : List D} : lstOf G (.kl xs) = some xs := nd rfl
theorem lenD_of {d : D} {xs : List D} (h : lstOf G d = some xs) : lenD [d] G = .ok (.int xs.length) G := by
  cases d with
  | str z => cases h
  | _ => simp only [lenD, h]
theorem listD_of {d : D} {xs : List D} (h : lstOf G d = some xs) : listD [d] G = .ok (.ref G.length) (G ++ [.lst xs]) := by
  simp only [listD, h]
theorem iterD_ref {p : Nat} {xs : List D} (h : lstOf G (.ref p) = some xs) : iterD (.ref p) G = .ok (itL p) G := by
  show (if isL G (.ref p) = true then _ else _) = _
  have e : isL G (.ref p) = true := by
    unfold isL
    rw [h] <;> rfl
  rw [if_pos e]
theorem appendD_lst {p : Nat} {xs : List D} {y : D} (h : G[p]? = some (.lst xs)) (hl : xs.length < 16777216) : appendD (.ref p) [y] G = .ok .non (G.set p (.lst (xs ++ [y]))) := by
  unfold appendD
  simp [h, hl]
theorem isL_lst {p : Nat} {xs : List D} (h : G[p]? = some (.lst xs)) : isL G (.ref p) = true := by
  unfold isL
  rw [lstOf_lst h] <;> rfl
end
/-! ### what stays -/
/-- nothing changes but the cells in S, and new ones -/
structure Fr (S : List Nat) (G G' : Hq) : Prop where
  le : G.length ≤ G'.length
  at_ : ∀ i, i < G.length → i ∉ S → G'[i]? = G[i]?
section
variable {S T : List Nat} {G G1 G2 : Hq}
theorem Fr.refl : Fr S G G := ⟨Nat.le_refl _, fun _ _ _ => rfl⟩
theorem Fr.trans (a : Fr S G G1) (b : Fr S G1 G2) : Fr S G G2 :=
  ⟨Nat.le_trans a.le b.le, fun i h n => (b.at_ i (Nat.lt_of_lt_of_le h a.le) n).trans (a.at_ i h n)⟩
theorem Fr.mono (a : Fr S G G1) (h : ∀ i, i ∈ S → i ∈ T) : Fr T G G1 := ⟨a.le, fun i hi n => a.at_ i hi fun z => n (h i z)⟩
theorem Fr.new {c : SX.C} : Fr S G (G ++ [c]) := ⟨by simp, fun i h _ => List.getElem?_append_left h⟩
theorem Fr.news {cs : Hq} : Fr S G (G ++ cs) := ⟨by simp, fun i h _ => List.getElem?_append_left h⟩
theorem Fr.set {p : Nat} {c : SX.C} (h : p ∈ S) : Fr S G (G.set p c) := ⟨by simp, fun i _ n => List.getElem?_set_ne (fun e : p = i => n (by rw [← e]; exact h))⟩
theorem Fr.setNew {p : Nat} {c : SX.C} (a : Fr S G G1) (h : G.length ≤ p) : Fr S G (G1.set p c) := ⟨by simpa using a.le, fun i hi n => by
  rw [List.getElem?_set_ne (by omega)]
  exact a.at_ i hi n⟩
theorem Fr.get (a : Fr S G G1) {i : Nat} {c : SX.C} (h : G[i]? = some c) (n : i ∉ S) : G1[i]? = some c :=
  (a.at_ i (List.getElem?_eq_some_iff.mp h).1 n).trans h
theorem lt_of_at {i : Nat} {c : SX.C} (h : G[i]? = some c) : i < G.length := (List.getElem?_eq_some_iff.mp h).1
theorem set_self {p : Nat} {c c' : SX.C} (h : G[p]? = some c) : (G.set p c')[p]? = some c' := by
  rw [List.getElem?_set_self (lt_of_at h)]
end
/-! ### the deck -/
structure Dk (n : Nat) (G : Hq) (d : Nat) : Prop where
  ex : ∃ (a pos seed cnt : Int) (s : Nat) (ns : List Int), d = s + 1 ∧ G[d]? = some (.lst [.int a, .int pos, .int seed, .ref s, .int cnt]) ∧ G[s]? = some (.lst (ns.map .int)) ∧
    0 ≤ a ∧ 0 ≤ pos ∧ 0 ≤ seed ∧ seed < 2147483647 ∧ 0 ≤ cnt ∧ cnt ≤ n
theorem Dk.mono {m n : Nat} {G : Hq} {d : Nat} (h : Dk n G d) (hm : n ≤ m) : Dk m G d := by
  obtain ⟨a, pos, seed, cnt, s, ns, h1, h2, h3, h4, h5, h6, h7, h8, h9⟩ := h.ex
  exact ⟨a, pos, seed, cnt, s, ns, h1, h2, h3, h4, h5, h6, h7, h8, by omega⟩
theorem Dk.lt {n : Nat} {G : Hq} {d : Nat} (h : Dk n G d) : d < G.length := by
  obtain ⟨a, pos, seed, cnt, s, ns, h1, h2, h3, h4, h5, h6, h7, h8, h9⟩ := h.ex
  exact lt_of_at h2
theorem Dk.keep {n : Nat} {S : List Nat} {G G' : Hq} {d : Nat} (h : Dk n G d) (f : Fr S G G') (h1 : d ∉ S) (h2 : d - 1 ∉ S) : Dk n G' d := by
  obtain ⟨a, pos, seed, cnt, s, ns, rfl, e2, e3, r⟩ := h.ex
  exact ⟨a, pos, seed, cnt, s, ns, rfl, f.get e2 h1, f.get e3 (by simpa using h2), r⟩
theorem Dk.fr {n : Nat} {G G' : Hq} {d : Nat} (h : Dk n G d) (f : Fr [] G G') : Dk n G' d := h.keep f (by simp) (by simp)
noncomputable def deckB : SF :=
  (seqC (setC 1 (cC (.int 7)))
    (seqC (forC (iterC (varC 0)) (gN 2) (setC 1 (binC modD (callC intD (consA (binC addD (binC mulD (varC 1) (cC (.int 48271))) (varC 2)) nilA)) (cC (.int 2147483647)))))
    (retC (lstC (consA (cC (.int 0)) (consA (cC (.int 0)) (consA (varC 1) (consA (callC listD (consA (varC 0) nilA)) (consA (cC (.int 0)) nilA)))))))))
noncomputable def deckF : FF := bodyC 3 deckB
theorem deck_loop {d0 : D} {ns : List Int} {G : Hq} {s : Src} (src : ∀ k, s k G = gives (ns.map .int) k) {N : Eq' → Hq → Prop} {R : D → Hq → Prop} {B C : Eq' → Hq → Prop}
    (out : ∀ (seed : Int) (x : Option D), 0 ≤ seed → seed < 2147483647 → N [some d0, some (.int seed), x] G) :
    wS (forL s (gN 2) (setC 1 (binC modD (callC intD (consA (binC addD (binC mulD (varC 1) (cC (.int 48271))) (varC 2)) nilA)) (cC (.int 2147483647)))) 0 [some d0, some (.int 7), none] G) N R B C := by
  refine wS_forL (ns.map .int) (fun k σ G' => G' = G ∧ ∃ (seed : Int) (x : Option D), 0 ≤ seed ∧ seed < 2147483647 ∧ σ = [some d0, some (.int seed), x]) (fun k σ G' h => by rw [h.1]; exact src k)
    (fun k d σ G' hd h => ?_) (fun σ G' h => ?_) (ns.map D.int).length 0 _ G (by omega) ⟨rfl, 7, none, by omega, by omega, rfl⟩
  · obtain ⟨rfl, seed, x, h1, h2, rfl⟩ := h
    rw [List.getElem?_map] at hd
    obtain ⟨z, _, rfl⟩ := Option.map_eq_some_iff.mp hd
    simp only [wE_gN, wS_set, wE_bin, wE_call, wE_consA, wE_nilA, List.set_cons_succ, List.set_cons_zero]
    rw [wE_var (d := .int seed) (by rfl)]
    simp only [wE_c]
    rw [mulD_int (by omega) (by omega)]
    simp only [wE_ok]
    rw [wE_var (d := .int z) (by rfl)]
    simp only [addD_int, intD_int, wE_ok]
    rw [modD_int (by omega)]
    exact ⟨rfl, _, _, Int.emod_nonneg _ (by omega), Int.emod_lt_of_pos _ (by omega), rfl⟩
  · obtain ⟨rfl, seed, x, h1, h2, rfl⟩ := h
    exact out seed x h1 h2
/-- the deck of a script -/
theorem deck_ok {u : D} {G : Hq} {ns : List Int} (h : lstOf G u = some (ns.map .int)) : wE (deckF [u] G) fun v G' => ∃ d, v = .ref d ∧ Fr [] G G' ∧ Dk 0 G' d ∧ G'.length = G.length + 2 ∧ d = G.length + 1 := by
  have it : ∃ s, iterD u G = .ok s G ∧ ∀ k, s k G = gives (ns.map .int) k := by
    cases u with
    | ref p => exact ⟨_, iterD_ref h, fun k => src_itL h⟩
    | kl xs =>
      obtain rfl : xs = ns.map .int := Option.some.inj h
      exact ⟨_, rfl, fun k => rfl⟩
    | _ => cases h
  obtain ⟨s, e, src⟩ := it
  unfold deckF
  rw [wE_body]
  show wS (deckB [some u, none, none] G) _ _ _ _
  unfold deckB
  rw [wS_seq, wS_set, wE_c]
  show wS (seqC _ _ [some u, some (.int 7), none] G) _ _ _ _
  rw [wS_seq, wS_for, wE_iter, wE_var (d := u) (by rfl), e, wE_ok]
  refine deck_loop src fun seed x h1 h2 => ?_
  rw [wS_ret, wE_lst]
  simp only [wE_consA, wE_c, wE_nilA, wE_call]
  rw [wE_var (d := .int seed) (by rfl), wE_var (d := u) (by rfl), listD_of h]
  simp only [wE_ok]
  refine ⟨_, rfl, Fr.new.trans Fr.new, ⟨0, 0, seed, 0, G.length, ns, by simp, by simp, ?_, by omega, by omega, h1, h2, by omega, by simp⟩, by simp, by simp⟩
  rw [List.getElem?_append_left (by simp), List.getElem?_append_right (Nat.le_refl _)]
  simp
noncomputable def drawT : SF := (seqC (setC 2 (binC modD (callC intD (consA (binC ixD (varC 0) (cC (.int 0))) nilA)) (varC 1)))
    (seqC (asgC (binC fdivD (binC ixD (varC 0) (cC (.int 0))) (varC 1)) (gSubC setD (varC 0) (cC (.int 0))))
    (retC (varC 2))))
noncomputable def drawB : SF :=
  (seqC (ifS (andT (valT (binC (eqD false) (binC ixD (varC 0) (cC (.int 0))) (cC (.int 0)))) (valT (binC (cmpD fun i j => decide (i < j)) (binC ixD (varC 0) (cC (.int 1))) (callC lenD (consA (binC ixD (varC 0) (cC (.int 3))) nilA))))) (seqC (asgC (callC absD (consA (binC ixD (binC ixD (varC 0) (cC (.int 3))) (binC ixD (varC 0) (cC (.int 1)))) nilA)) (gSubC setD (varC 0) (cC (.int 0))))
    (asgC (binC addD (binC ixD (varC 0) (cC (.int 1))) (cC (.int 1))) (gSubC setD (varC 0) (cC (.int 1))))) (ifS (valT (binC (eqD false) (binC ixD (varC 0) (cC (.int 0))) (cC (.int 0)))) (seqC (asgC (binC addD (binC ixD (varC 0) (cC (.int 4))) (cC (.int 1))) (gSubC setD (varC 0) (cC (.int 4))))
    (seqC (setC 3 (binC modD (callC intD (consA (binC addD (binC addD (binC mulD (binC ixD (varC 0) (cC (.int 2))) (cC (.int 48271))) (binC mulD (binC ixD (varC 0) (cC (.int 4))) (cC (.int 69621)))) (cC (.int 12345))) nilA)) (cC (.int 2147483647))))
    (seqC (setC 3 (binC modD (callC intD (consA (binC addD (binC addD (binC mulD (varC 3) (varC 3)) (binC mulD (cC (.int 16807)) (binC ixD (varC 0) (cC (.int 4))))) (cC (.int 7))) nilA)) (cC (.int 998244353))))
    (seqC (setC 3 (binC modD (callC intD (consA (binC addD (binC addD (binC mulD (varC 3) (varC 3)) (binC mulD (cC (.int 48271)) (binC ixD (varC 0) (cC (.int 4))))) (binC ixD (varC 0) (cC (.int 2)))) nilA)) (cC (.int 2147483629))))
    (asgC (binC fdivD (varC 3) (cC (.int 13))) (gSubC setD (varC 0) (cC (.int 0)))))))) passC))
    drawT)
noncomputable def drawF : FF := bodyC 4 drawB
abbrev dkL (a pos seed : Int) (s : Nat) (cnt : Int) : List D := [.int a, .int pos, .int seed, .ref s, .int cnt]
/-- the end of a draw -/
theorem draw_end {d s : Nat} {a pos seed cnt b : Int} {o : Option D} {G : Hq} (h : G[d]? = some (.lst (dkL a pos seed s cnt))) (h1 : 0 < b) (h2 : b.natAbs < 2 ^ 400) {Q : D → Hq → Prop}
    (q : Q (.int (a % b)) (G.set d (.lst (dkL (a / b) pos seed s cnt)))) :
    wS (drawT [some (.ref d), some (.int b), none, o] G) (fun _ G => Q .non G) Q (fun _ _ => False) (fun _ _ => False) := by
  have e0 : atI (dkL a pos seed s cnt) 0 = some (.int a) := by rfl
  unfold drawT
  simp only [wS_seq, wS_set, wE_bin, wE_call, wE_consA, wE_nilA]
  rw [wE_var (d := .ref d) (by rfl)]
  simp only [wE_c, ixD_lst h, e0, oneD_some, wE_ok, intD_int]
  rw [wE_var (d := .int b) (by rfl), modD_int h1, wE_ok]
  simp only [List.set_cons_succ, List.set_cons_zero, wS_asg, wE_bin]
  rw [wE_var (d := .ref d) (by rfl)]
  simp only [wE_c, ixD_lst h, e0, oneD_some, wE_ok]
  rw [wE_var (d := .int b) (by rfl), fdivD_int h1 h2, wE_ok]
  rw [wE_gSub, wE_var (d := .ref d) (by rfl)]
  simp only [wE_c]
  rw [setD_lst h (j := 0) (by rfl)]
  simp only [wE_ok, wS_ret]
  rw [wE_var (d := .int (a % b)) (by rfl)]
  exact q
/-- a draw -/
theorem draw_ok {n d : Nat} {b : Int} {G : Hq} (h : Dk n G d) (hn : n < 2 ^ 200) (h1 : 0 < b) (h2 : b.natAbs < 2 ^ 400) :
    wE (drawF [.ref d, .int b] G) fun v G' => ∃ r, v = .int r ∧ 0 ≤ r ∧ r < b ∧ Dk (n + 1) G' d ∧ Fr [d] G G' ∧ G'.length = G.length := by
  obtain ⟨a, pos, seed, cnt, s, ns, rfl, e1, e2, ha, hp, hs0, hs1, hc0, hc1⟩ := h.ex
  have fin : ∀ (a' pos' cnt' : Int) (o : Option D) (G1 : Hq), G1[s + 1]? = some (.lst (dkL a' pos' seed s cnt')) → G1[s]? = some (.lst (ns.map .int)) → Fr [s + 1] G G1 → G1.length = G.length → 0 ≤ a' → 0 ≤ pos' → 0 ≤ cnt' → cnt' ≤ n + 1 →
      wS (drawT [some (.ref (s + 1)), some (.int b), none, o] G1) (fun _ G' => ∃ r, D.non = .int r ∧ 0 ≤ r ∧ r < b ∧ Dk (n + 1) G' (s + 1) ∧ Fr [s + 1] G G' ∧ G'.length = G.length) (fun v G' => ∃ r, v = .int r ∧ 0 ≤ r ∧ r < b ∧ Dk (n + 1) G' (s + 1) ∧ Fr [s + 1] G G' ∧ G'.length = G.length) (fun _ _ => False) (fun _ _ => False) :=
    fun a' pos' cnt' o G1 f1 f2 fr fl q1 q2 q3 q4 => draw_end (Q := fun v G' => ∃ r, v = .int r ∧ 0 ≤ r ∧ r < b ∧ Dk (n + 1) G' (s + 1) ∧ Fr [s + 1] G G' ∧ G'.length = G.length) f1 h1 h2
      ⟨_, rfl, Int.emod_nonneg _ (by omega), Int.emod_lt_of_pos _ h1, ⟨_, _, _, _, _, _, rfl, set_self f1, by rw [List.getElem?_set_ne (by omega)]; exact f2, Int.ediv_nonneg q1 (by omega), q2, hs0, hs1, q3, by omega⟩, fr.trans (Fr.set (by simp)), by simpa using fl⟩
  have t0 : atI (dkL a pos seed s cnt) 0 = some (.int a) := by rfl
  have t1 : atI (dkL a pos seed s cnt) 1 = some (.int pos) := by rfl
  have t3 : atI (dkL a pos seed s cnt) 3 = some (.ref s) := by rfl
  have t4 : atI (dkL a pos seed s cnt) 4 = some (.int cnt) := by rfl
  have ls := lstOf_lst e2
  unfold drawF
  rw [wE_body]
  show wS (drawB [some (.ref (s + 1)), some (.int b), none, none] G) _ _ _ _
  have v0 : ∀ {o : Option D} {G : Hq} {Q : D → Hq → Prop}, wE (varC 0 [some (.ref (s + 1)), some (.int b), none, o] G) Q = Q (.ref (s + 1)) G := fun {o G Q} => wE_var (by rfl)
  have v3 : ∀ {i : Int} {G : Hq} {Q : D → Hq → Prop}, wE (varC 3 [some (.ref (s + 1)), some (.int b), none, some (.int i)] G) Q = Q (.int i) G := fun {i G Q} => wE_var (by rfl)
  unfold drawB
  rw [wS_seq, wS_if, wE_andT]
  simp only [wE_val, wE_bin, v0, wE_c, ixD_lst e1, t0, oneD_some, wE_ok, eqD_int, wE_toB, wE_call, wE_consA, wE_nilA, t1, t3, lenD_of ls, cmpD_int, Bool.false_eq_true, if_false, decide_eq_true_eq]
  by_cases ha0 : a = 0
  · rw [if_pos ha0]
    by_cases hl : pos < ((ns.map D.int).length : Int)
    · -- a card of the script
      rw [if_pos hl]
      have hk : pos.toNat < ns.length := by
        rw [List.length_map] at hl
        omega
      have g1 : atI (ns.map D.int) pos = some (.int (ns[pos.toNat]'hk)) := atI_of hp (by rw [List.getElem?_map, List.getElem?_eq_getElem hk] <;> rfl)
      obtain ⟨z, ez, hz⟩ : ∃ z : Int, (∀ G : Hq, absD [.int (ns[pos.toNat]'hk)] G = .ok (.int z) G) ∧ 0 ≤ z := by
        refine ⟨_, fun G => absD_int, ?_⟩
        split <;> omega
      have e1' : (G.set (s + 1) (.lst ((dkL a pos seed s cnt).set 0 (.int z))))[s + 1]? = some (.lst (dkL z pos seed s cnt)) := set_self e1
      have t1' : ∀ a, atI (dkL a pos seed s cnt) 1 = some (.int pos) := fun _ => rfl
      simp only [wS_seq, wS_asg, wE_call, wE_consA, wE_nilA, wE_bin, v0, wE_c, ixD_lst e1, t3, t1, oneD_some, wE_ok, ixD_lst e2, g1, ez, wE_gSub, setD_lst e1 (i := 0) (j := 0) (by rfl), ixD_lst e1', t1', addD_int, setD_lst e1' (i := 1) (j := 1) (by rfl)]
      refine fin z (pos + 1) cnt none _ (set_self e1') ?_ ((Fr.set (by simp)).trans (Fr.set (by simp))) (by simp) hz (by omega) hc0 (by omega)
      rw [List.getElem?_set_ne (by omega), List.getElem?_set_ne (by omega)]
      exact e2
    · -- a card of the hash
      rw [if_neg hl]
      have c1 : ∀ c : Int, (G.set (s + 1) (.lst (dkL a pos seed s c)))[s + 1]? = some (.lst (dkL a pos seed s c)) := fun c => set_self e1
      have t2' : ∀ c, atI (dkL a pos seed s c) 2 = some (.int seed) := fun _ => rfl
      have t4' : ∀ c, atI (dkL a pos seed s c) 4 = some (.int c) := fun _ => rfl
      simp only [wS_if, wE_val, wE_bin, v0, wE_c, ixD_lst e1, t0, oneD_some, wE_ok, eqD_int, wE_toB, Bool.false_eq_true, if_false, decide_eq_true_eq]
      rw [if_pos ha0]
      have sm : cnt.natAbs < 2 ^ 300 := by omega
      have sm1 : (cnt + 1).natAbs < 2 ^ 300 := by omega
      simp only [wS_seq, wS_asg, wE_bin, v0, wE_c, ixD_lst e1, t4, oneD_some, wE_ok, addD_int, wE_gSub, setD_lst e1 (i := 4) (j := 4) (by rfl), wS_set, wE_call, wE_consA, wE_nilA, ixD_lst (c1 _), t2', t4', mulD_int (i := seed) (j := 48271) (by omega) (by omega), mulD_int (i := cnt + 1) (j := 69621) (by omega) (by omega), intD_int,
        modD_int (j := 2147483647) (by omega), List.set_cons_succ, List.set_cons_zero, v3]
      have b1 := Int.emod_lt_of_pos (seed * 48271 + (cnt + 1) * 69621 + 12345) (b := 2147483647) (by omega)
      have b0 := Int.emod_nonneg (seed * 48271 + (cnt + 1) * 69621 + 12345) (b := 2147483647) (by omega)
      generalize (seed * 48271 + (cnt + 1) * 69621 + 12345) % 2147483647 = x at b0 b1 ⊢
      simp only [mulD_int (i := x) (j := x) (by omega) (by omega), mulD_int (i := 16807) (j := cnt + 1) (by omega) (by omega), wE_ok, ixD_lst (c1 _), t2', t4', oneD_some, addD_int, intD_int, modD_int (j := 998244353) (by omega), v3, List.set_cons_succ, List.set_cons_zero]
      have b2 := Int.emod_lt_of_pos (x * x + 16807 * (cnt + 1) + 7) (b := 998244353) (by omega)
      have b3 := Int.emod_nonneg (x * x + 16807 * (cnt + 1) + 7) (b := 998244353) (by omega)
      generalize (x * x + 16807 * (cnt + 1) + 7) % 998244353 = y at b2 b3 ⊢
      simp only [mulD_int (i := y) (j := y) (by omega) (by omega), mulD_int (i := 48271) (j := cnt + 1) (by omega) (by omega), wE_ok, ixD_lst (c1 _), t2', t4', oneD_some, addD_int, intD_int, modD_int (j := 2147483629) (by omega), v3, List.set_cons_succ, List.set_cons_zero]
      have b5 := Int.emod_nonneg (y * y + 48271 * (cnt + 1) + seed) (b := 2147483629) (by omega)
      generalize (y * y + 48271 * (cnt + 1) + seed) % 2147483629 = z at b5 ⊢
      simp only [fdivD_int (i := z) (j := 13) (by omega) (by omega), wE_ok, v0, setD_lst (c1 _) (i := 0) (j := 0) (by rfl)]
      refine fin (z / 13) pos (cnt + 1) (some (.int z)) _ (set_self (c1 _)) ?_ ((Fr.set (by simp)).trans (Fr.set (by simp))) (by simp) (by omega) hp (by omega) (by omega)
      rw [List.getElem?_set_ne (by omega), List.getElem?_set_ne (by omega)]
      exact e2
  · rw [if_neg ha0]
    simp only [wS_if, wE_val, wE_bin, v0, wE_c, ixD_lst e1, t0, oneD_some, wE_ok, eqD_int, wE_toB, Bool.false_eq_true, if_false, decide_eq_true_eq]
    rw [if_neg ha0, wS_pass]
    exact fin a pos cnt none G e1 e2 Fr.refl rfl ha hp hc0 (by omega)
end SX

set_option linter.all false
namespace NT
/-! number theory over Nat -/
def IsP (p : Nat) : Prop := 2 ≤ p ∧ ∀ d, d ∣ p → d = 1 ∨ d = p
theorem IsP.pos {p : Nat} (h : IsP p) : 0 < p := by have := h.1; omega
theorem IsP.cop {p n : Nat} (h : IsP p) (hn : ¬ p ∣ n) : Nat.Coprime p n := by
  rcases h.2 _ (Nat.gcd_dvd_left p n) with e | e
  · exact e
  · exact absurd (by rw [← e]; exact Nat.gcd_dvd_right p n) hn
theorem IsP.dvd_mul {p a b : Nat} (h : IsP p) (hd : p ∣ a * b) : p ∣ a ∨ p ∣ b := by
  by_cases ha : p ∣ a
  · exact .inl ha
  · exact .inr ((h.cop ha).dvd_of_dvd_mul_left hd)
theorem IsP.dvd_pow {p a : Nat} (h : IsP p) : ∀ {k : Nat}, p ∣ a ^ k → p ∣ a
  | 0, hd => by
    have := Nat.le_of_dvd (by simp) hd
    have := h.1
    simp at *
    omega
  | k + 1, hd => by
    rw [Nat.pow_succ] at hd
    rcases h.dvd_mul hd with q | q
    · exact h.dvd_pow q
    · exact q
theorem IsP.eq_of_dvd {p q : Nat} (hp : IsP p) (hq : IsP q) (h : p ∣ q) : p = q := by
  rcases hq.2 p h with e | e
  · have := hp.1
    omega
  · exact e
/-- the least divisor from 2 on is prime -/
theorem least_prime {p n : Nat} (h2 : 2 ≤ p) (hd : p ∣ n) (no : ∀ d, 2 ≤ d → d < p → ¬ d ∣ n) : IsP p := by
  refine ⟨h2, fun d hdp => ?_⟩
  have hd0 : d ≠ 0 := by
    intro e
    subst e
    rw [Nat.zero_dvd] at hdp
    omega
  rcases Nat.lt_or_ge d 2 with q | q
  · left
    omega
  · right
    have le := Nat.le_of_dvd (by omega) hdp
    rcases Nat.lt_or_ge d p with z | z
    · exact absurd (Nat.dvd_trans hdp hd) (no d q z)
    · omega
theorem rest_prime {p n : Nat} (h1 : 1 < n) (hs : n < p * p) (no : ∀ d, 2 ≤ d → d < p → ¬ d ∣ n) : IsP n := by
  refine ⟨by omega, fun d hd => ?_⟩
  obtain ⟨e, he⟩ := hd
  have hd0 : d ≠ 0 := by
    intro z
    subst z
    omega
  have he0 : e ≠ 0 := by
    intro z
    subst z
    omega
  by_cases hd1 : d = 1
  · exact .inl hd1
  by_cases he1 : e = 1
  · right
    rw [he, he1, Nat.mul_one]
  · exfalso
    rcases Nat.lt_or_ge d p with q | q
    · exact no d (by omega) q ⟨e, he⟩
    · rcases Nat.lt_or_ge e p with z | z
      · exact no e (by omega) z ⟨d, by rw [he, Nat.mul_comm]⟩
      · have := Nat.mul_le_mul q z
        omega
/-! ### factor lists -/
def prodL (fs : List (Nat × Nat)) : Nat := (fs.map fun f => f.1 ^ f.2).foldr (· * ·) 1
@[simp] theorem prodL_nil : prodL [] = 1 := rfl
@[simp] theorem prodL_cons {f : Nat × Nat} {fs : List (Nat × Nat)} : prodL (f :: fs) = f.1 ^ f.2 * prodL fs := rfl
theorem prodL_append {fs gs : List (Nat × Nat)} : prodL (fs ++ gs) = prodL fs * prodL gs := by
  induction fs with
  | nil => simp
  | cons f fs ih => rw [List.cons_append, prodL_cons, prodL_cons, ih, Nat.mul_assoc]
structure Good (fs : List (Nat × Nat)) : Prop where
  up : fs.Pairwise fun f g => f.1 < g.1
  pr : ∀ f ∈ fs, IsP f.1 ∧ 1 ≤ f.2
theorem Good.nil : Good [] := ⟨.nil, fun _ h => by cases h⟩
theorem Good.tail {f : Nat × Nat} {fs : List (Nat × Nat)} (h : Good (f :: fs)) : Good fs := ⟨(List.pairwise_cons.mp h.up).2, fun g hg => h.pr g (List.mem_cons_of_mem _ hg)⟩
theorem Good.append {fs gs : List (Nat × Nat)} (h : Good (fs ++ gs)) : Good fs ∧ Good gs :=
  ⟨⟨(List.pairwise_append.mp h.up).1, fun g hg => h.pr g (List.mem_append_left _ hg)⟩, ⟨(List.pairwise_append.mp h.up).2.1, fun g hg => h.pr g (List.mem_append_right _ hg)⟩⟩
theorem Good.snoc {fs : List (Nat × Nat)} {p c : Nat} (h : Good fs) (hp : IsP p) (hc : 1 ≤ c) (hl : ∀ f ∈ fs, f.1 < p) : Good (fs ++ [(p, c)]) := by
  refine ⟨List.pairwise_append.mpr ⟨h.up, List.pairwise_singleton _ _, fun a ha b hb => ?_⟩, fun f hf => ?_⟩
  · rw [List.mem_singleton] at hb
    subst hb
    exact hl a ha
  · rcases List.mem_append.mp hf with q | q
    · exact h.pr f q
    · rw [List.mem_singleton] at q
      subst q
      exact ⟨hp, hc⟩
theorem prodL_pos {fs : List (Nat × Nat)} (h : Good fs) : 0 < prodL fs := by
  induction fs with
  | nil => simp
  | cons f fs ih =>
    rw [prodL_cons]
    exact Nat.mul_pos (Nat.pow_pos (h.pr f (List.mem_cons_self ..)).1.pos) (ih h.tail)
/-- a prime that divides the product is in the list -/
theorem Good.prime_mem {fs : List (Nat × Nat)} (h : Good fs) {p : Nat} (hp : IsP p) (hd : p ∣ prodL fs) : ∃ f ∈ fs, f.1 = p := by
  induction fs with
  | nil =>
    have := Nat.le_of_dvd (by simp) hd
    have := hp.1
    simp at *
    omega
  | cons f fs ih =>
    rw [prodL_cons] at hd
    rcases hp.dvd_mul hd with q | q
    · exact ⟨f, List.mem_cons_self .., (hp.eq_of_dvd (h.pr f (List.mem_cons_self ..)).1 (hp.dvd_pow q)).symm⟩
    · obtain ⟨g, hg, e⟩ := ih h.tail q
      exact ⟨g, List.mem_cons_of_mem _ hg, e⟩
theorem Good.not_dvd {fs : List (Nat × Nat)} (h : Good fs) {p : Nat} (hp : IsP p) (hn : ∀ f ∈ fs, f.1 ≠ p) : ¬ p ∣ prodL fs := fun hd => by
  obtain ⟨f, hf, e⟩ := h.prime_mem hp hd
  exact hn f hf e
theorem pow_dvd_iff {p m : Nat} (hp : IsP p) (hm : ¬ p ∣ m) (a c : Nat) : p ^ a ∣ m * p ^ c ↔ a ≤ c := by
  constructor
  · intro h
    rcases Nat.lt_or_ge c a with q | q
    · exfalso
      obtain ⟨b, rfl⟩ : ∃ b, a = c + 1 + b := ⟨a - (c + 1), by omega⟩
      have h2 : p ^ (c + 1) ∣ m * p ^ c := Nat.dvd_trans ⟨p ^ b, by rw [Nat.pow_add]⟩ h
      rw [Nat.pow_succ, Nat.mul_comm m] at h2
      exact hm (Nat.dvd_of_mul_dvd_mul_left (Nat.pow_pos hp.pos) h2)
    · exact q
  · intro h
    obtain ⟨b, rfl⟩ : ∃ b, c = a + b := ⟨c - a, by omega⟩
    exact ⟨m * p ^ b, by rw [Nat.pow_add, Nat.mul_left_comm]⟩
/-- a prime of the list with its exponent: what divides the product -/
theorem Good.split {fs : List (Nat × Nat)} (h : Good fs) {p c : Nat} (hm : (p, c) ∈ fs) : ∃ m, prodL fs = m * p ^ c ∧ ¬ p ∣ m := by
  obtain ⟨xs, ys, rfl⟩ := List.append_of_mem hm
  have hp := (h.pr _ hm).1
  refine ⟨prodL xs * prodL ys, by rw [prodL_append, prodL_cons, Nat.mul_comm (p ^ c), Nat.mul_assoc], fun hd => ?_⟩
  have up := List.pairwise_append.mp h.up
  have h1 := h.append
  rcases hp.dvd_mul hd with q | q
  · refine h1.1.not_dvd hp (fun f hf e => ?_) q
    have := up.2.2 f hf (p, c) (List.mem_cons_self ..)
    simp at this
    omega
  · refine h1.2.tail.not_dvd hp (fun f hf e => ?_) q
    have := (List.pairwise_cons.mp up.2.1).1 f hf
    simp at this
    omega
theorem Good.mem_of {fs gs : List (Nat × Nat)} (hf : Good fs) (hg : Good gs) (e : prodL fs = prodL gs) {p c : Nat} (hm : (p, c) ∈ fs) : (p, c) ∈ gs := by
  have hp := (hf.pr _ hm).1
  have hc := (hf.pr _ hm).2
  obtain ⟨m, e1, n1⟩ := hf.split hm
  have hd : p ∣ prodL gs := by
    rw [← e, e1]
    simp at hc
    obtain ⟨b, rfl⟩ : ∃ b, c = b + 1 := ⟨c - 1, by omega⟩
    exact ⟨m * p ^ b, by rw [Nat.pow_succ]; ac_rfl⟩
  obtain ⟨⟨p', c'⟩, hm', rfl⟩ := hg.prime_mem hp hd
  obtain ⟨m', e2, n2⟩ := hg.split hm'
  have i1 := pow_dvd_iff hp n1 c' c
  have i2 := pow_dvd_iff hp n1 c c
  have j1 := pow_dvd_iff hp n2 c c'
  have j2 := pow_dvd_iff hp n2 c' c'
  rw [← e1, e, e2] at i1 i2
  have a1 : c' ≤ c := i1.mp (j2.mpr (Nat.le_refl _))
  have a2 : c ≤ c' := j1.mp (i2.mpr (Nat.le_refl _))
  obtain rfl : c = c' := by omega
  exact hm'
/-- two lists that go up strictly and hold the same are the same -/
theorem up_ext {α : Type} {k : α → Nat} : ∀ {xs ys : List α}, xs.Pairwise (fun a b => k a < k b) → ys.Pairwise (fun a b => k a < k b) → (∀ a, a ∈ xs ↔ a ∈ ys) → xs = ys
  | [], [], _, _, _ => rfl
  | [], y :: ys, _, _, h => absurd ((h y).mpr (List.mem_cons_self ..)) (by simp)
  | x :: xs, [], _, _, h => absurd ((h x).mp (List.mem_cons_self ..)) (by simp)
  | x :: xs, y :: ys, hx, hy, h => by
    obtain ⟨x1, x2⟩ := List.pairwise_cons.mp hx
    obtain ⟨y1, y2⟩ := List.pairwise_cons.mp hy
    have e : x = y := by
      rcases List.mem_cons.mp ((h x).mp (List.mem_cons_self ..)) with q | q
      · exact q
      · rcases List.mem_cons.mp ((h y).mpr (List.mem_cons_self ..)) with z | z
        · exact z.symm
        · have := x1 y z
          have := y1 x q
          omega
    subst e
    refine congrArg (x :: ·) (up_ext x2 y2 fun a => ⟨fun ha => ?_, fun ha => ?_⟩)
    · rcases List.mem_cons.mp ((h a).mp (List.mem_cons_of_mem _ ha)) with q | q
      · subst q
        have := x1 a ha
        omega
      · exact q
    · rcases List.mem_cons.mp ((h a).mpr (List.mem_cons_of_mem _ ha)) with q | q
      · subst q
        have := y1 a ha
        omega
      · exact q
theorem Good.unique {fs gs : List (Nat × Nat)} (hf : Good fs) (hg : Good gs) (e : prodL fs = prodL gs) : fs = gs :=
  up_ext (k := fun f : Nat × Nat => f.1) hf.up hg.up fun ⟨p, c⟩ => ⟨hf.mem_of hg e, hg.mem_of hf e.symm⟩
/-! ### divisors -/
def dvStep (ds : List Nat) (f : Nat × Nat) : List Nat := ds.flatMap fun d => (List.range (f.2 + 1)).map fun j => d * f.1 ^ j
def dvs (fs : List (Nat × Nat)) : List Nat := fs.foldl dvStep [1]
theorem dvs_snoc {fs : List (Nat × Nat)} {f : Nat × Nat} : dvs (fs ++ [f]) = dvStep (dvs fs) f := by
  unfold dvs
  rw [List.foldl_append] <;> rfl
theorem step_dvd {m p : Nat} (hp : IsP p) (hm : ¬ p ∣ m) : ∀ c k, k ∣ m * p ^ c ↔ ∃ d j, d ∣ m ∧ j ≤ c ∧ k = d * p ^ j := by
  intro c
  induction c with
  | zero =>
    intro k
    constructor
    · intro h
      exact ⟨k, 0, by simpa using h, Nat.le_refl _, by simp⟩
    · rintro ⟨d, j, hd, hj, rfl⟩
      obtain rfl : j = 0 := by omega
      simpa using hd
  | succ c ih =>
    intro k
    constructor
    · intro h
      by_cases hk : p ∣ k
      · obtain ⟨b, rfl⟩ := hk
        rw [Nat.pow_succ, ← Nat.mul_assoc, Nat.mul_comm _ p] at h
        obtain ⟨d, j, hd, hj, rfl⟩ := (ih b).mp (Nat.dvd_of_mul_dvd_mul_left hp.pos h)
        exact ⟨d, j + 1, hd, by omega, by rw [Nat.pow_succ, Nat.mul_comm p, Nat.mul_assoc]⟩
      · have hc : Nat.Coprime k (p ^ (c + 1)) := Nat.Coprime.pow_right _ (hp.cop hk).symm
        exact ⟨k, 0, hc.dvd_of_dvd_mul_right h, Nat.zero_le _, by simp⟩
    · rintro ⟨d, j, hd, hj, rfl⟩
      exact Nat.mul_dvd_mul hd (Nat.pow_dvd_pow p hj)
theorem step_mem {ds : List Nat} {m p c : Nat} (hp : IsP p) (hm : ¬ p ∣ m) (h : ∀ k, k ∈ ds ↔ k ∣ m) (k : Nat) : k ∈ dvStep ds (p, c) ↔ k ∣ m * p ^ c := by
  rw [step_dvd hp hm]
  unfold dvStep
  simp only [List.mem_flatMap, List.mem_map, List.mem_range]
  constructor
  · rintro ⟨d, hd, j, hj, rfl⟩
    exact ⟨d, j, (h d).mp hd, by omega, rfl⟩
  · rintro ⟨d, j, hd, hj, rfl⟩
    exact ⟨d, (h d).mpr hd, j, by omega, rfl⟩
theorem pow_eq {p d e : Nat} (hp : IsP p) (hd : ¬ p ∣ d) (he : ¬ p ∣ e) : ∀ {i j : Nat}, d * p ^ i = e * p ^ j → d = e ∧ i = j
  | 0, 0, h => ⟨by simpa using h, rfl⟩
  | 0, j + 1, h => absurd ⟨e * p ^ j, by rw [Nat.pow_zero, Nat.mul_one] at h; rw [h, Nat.pow_succ]; ac_rfl⟩ hd
  | i + 1, 0, h => absurd ⟨d * p ^ i, by rw [Nat.pow_zero, Nat.mul_one] at h; rw [← h, Nat.pow_succ]; ac_rfl⟩ he
  | i + 1, j + 1, h => by
    have h2 : d * p ^ i = e * p ^ j := by
      rw [Nat.pow_succ, Nat.pow_succ, ← Nat.mul_assoc, ← Nat.mul_assoc] at h
      exact Nat.eq_of_mul_eq_mul_right hp.pos h
    obtain ⟨a, b⟩ := pow_eq hp hd he h2
    exact ⟨a, by omega⟩
theorem step_nodup {ds : List Nat} {m p c : Nat} (hp : IsP p) (hm : ¬ p ∣ m) (h : ∀ k ∈ ds, k ∣ m) (nd : ds.Nodup) : (dvStep ds (p, c)).Nodup := by
  have no : ∀ k ∈ ds, ¬ p ∣ k := fun k hk q => hm (Nat.dvd_trans q (h k hk))
  unfold dvStep
  refine List.pairwise_flatMap.mpr ⟨fun d hd => ?_, List.Pairwise.imp_of_mem (fun {a b} ha hb hne x hx y hy e => ?_) nd⟩
  · rw [List.pairwise_map]
    refine List.Pairwise.imp (fun {i j} hij e => ?_) (List.nodup_range (n := c + 1))
    exact hij (pow_eq hp (no d hd) (no d hd) e).2
  · simp only [List.mem_map, List.mem_range] at hx hy
    obtain ⟨i, _, rfl⟩ := hx
    obtain ⟨j, _, rfl⟩ := hy
    exact hne (pow_eq hp (no a ha) (no b hb) e).1
/-- the divisors made from a factor list: each once -/
theorem dvs_ok : ∀ (gs fs : List (Nat × Nat)), Good (fs ++ gs) → (dvs fs).Nodup → (∀ k, k ∈ dvs fs ↔ k ∣ prodL fs) → (dvs (fs ++ gs)).Nodup ∧ ∀ k, k ∈ dvs (fs ++ gs) ↔ k ∣ prodL (fs ++ gs)
  | [], fs, h, n, m => by simpa using ⟨n, m⟩
  | (p, c) :: gs, fs, h, n, m => by
    have hh : fs ++ (p, c) :: gs = (fs ++ [(p, c)]) ++ gs := by simp
    have hp := (h.pr (p, c) (by simp)).1
    have up := List.pairwise_append.mp h.up
    have nd : ¬ p ∣ prodL fs := h.append.1.not_dvd hp fun f hf e => by
      have := up.2.2 f hf (p, c) (List.mem_cons_self ..)
      simp at this
      omega
    rw [hh] at h ⊢
    refine dvs_ok gs _ h ?_ fun k => ?_
    · rw [dvs_snoc]
      exact step_nodup hp nd (fun k hk => (m k).mp hk) n
    · rw [dvs_snoc, step_mem hp nd m, prodL_append]
      simp
theorem dvs_all {fs : List (Nat × Nat)} (h : Good fs) : (dvs fs).Nodup ∧ ∀ k, k ∈ dvs fs ↔ k ∣ prodL fs := by
  have q := dvs_ok fs [] (by simpa using h) (by decide) (fun k => by simp [dvs])
  simpa using q
end NT

set_option Elab.async false
set_option linter.all false
set_option maxRecDepth 100000
set_option maxHeartbeats 1000000
namespace SX
open PySem PySem.Spec PyProof.Rows L2
section
variable {G : Hq} {σ : Eq'} {N B C : Eq' → Hq → Prop} {R : D → Hq → Prop}
@[simp] theorem wE_var0 {d : D} {Q : D → Hq → Prop} : wE (varC 0 (some d :: σ) G) Q = Q d G := ndP rfl
@[simp] theorem wE_varS {i : Nat} {x : Option D} {Q : D → Hq → Prop} : wE (varC (i + 1) (x :: σ) G) Q = wE (varC i σ G) Q := by
  unfold varC
  rw [List.getElem?_cons_succ]
theorem wS_augV {i : Nat} {g : D → D → Hq → Rs D} {e : EF} : wS (augC i g e σ G) N R B C = wE (varC i σ G) (fun x _ => wE (e σ G) (fun y G1 => wE (g x y G1) (fun z G2 => N (σ.set i (some z)) G2))) := by
  cases h : σ[i]? with
  | none =>
    unfold augC varC
    rw [h] <;> rfl
  | some o =>
    cases o with
    | none =>
      unfold augC varC
      rw [h] <;> rfl
    | some x => rw [wS_aug h, wE_var h]
theorem wE_if2 {b : Bool} {p q : Prop} : (if b = true then p else q) = ((b = true → p) ∧ (b = false → q)) := by
  cases b <;> simp
theorem int_mod (m p : Nat) : (m : Int) % (p : Int) = ((m % p : Nat) : Int) := by simp
theorem int_div (m p : Nat) : (m : Int) / (p : Int) = ((m / p : Nat) : Int) := by simp
end
/-! ### raised -/
noncomputable def raisedB : SF :=
  (seqC (setC 2 (cC (.int 1)))
    (seqC (whileC (valT (binC (cmpD fun i j => decide (j < i)) (varC 1) (cC (.int 0)))) (seqC (ifS (valT (binC (eqD false) (binC modD (varC 1) (cC (.int 2))) (cC (.int 1)))) (augC 2 imulD (varC 0)) passC)
    (seqC (augC 1 fdivD (cC (.int 2)))
    (ifS (valT (binC (cmpD fun i j => decide (j < i)) (varC 1) (cC (.int 0)))) (augC 0 imulD (varC 0)) passC))))
    (retC (varC 2))))
noncomputable def raisedF : FF := bodyC 3 raisedB
theorem imulD_bits {G : Hq} {i j : Int} {B : Nat} (hB : B ≤ 400000) (hi : i.natAbs < 2 ^ B) (hj : j.natAbs < 2 ^ B) : imulD (.int i) (.int j) G = .ok (.int (i * j)) G := by
  have h : ∀ n : Nat, n < 2 ^ B → n.log2 ≤ B := fun n hn => by
    by_cases z : n = 0
    · subst z
      simp
    · exact Nat.le_of_lt ((Nat.log2_lt z).mpr hn)
  have h1 := h _ hi
  have h2 := h _ hj
  have e : mulOk i j = true := decide_eq_true (by omega)
  show (if mulOk i j = true then _ else _) = _
  rw [if_pos e]
theorem mulD_bits {G : Hq} {i j : Int} {B : Nat} (hB : B ≤ 400000) (hi : i.natAbs < 2 ^ B) (hj : j.natAbs < 2 ^ B) : mulD (.int i) (.int j) G = .ok (.int (i * j)) G := imulD_bits hB hi hj
/-- a ** e for a ≥ 1 -/
theorem raised_ok {a e B : Nat} {G : Hq} (ha : 1 ≤ a) (hB : B ≤ 400000) (hb : a ^ e < 2 ^ B) : raisedF [.int a, .int e] G = .ok (.int ((a ^ e : Nat) : Int)) G := by
  have goal : wE (raisedF [.int a, .int e] G) fun v G' => v = .int ((a ^ e : Nat) : Int) ∧ G' = G := by
    unfold raisedF
    rw [wE_body]
    show wS (raisedB [some (.int a), some (.int e), none] G) _ _ _ _
    unfold raisedB
    simp only [wS_seq, wS_set, wE_c, List.set_cons_succ, List.set_cons_zero]
    refine wS_while (fun n σ G' => ∃ f b k : Nat, σ = [some (.int b), some (.int k), some (.int f)] ∧ G' = G ∧ 1 ≤ f ∧ 1 ≤ b ∧ f * b ^ k = a ^ e ∧ n = k) (fun n σ G' h => ?_) e _ G ⟨1, a, e, rfl, rfl, by omega, ha, by simp, rfl⟩
    obtain ⟨f, b, k, rfl, rfl, hf, hb1, hp, rfl⟩ := h
    simp only [wE_val, wE_bin, wE_varS, wE_var0, wE_c, cmpD_int, wE_ok, wE_toB, decide_eq_true_eq]
    by_cases hk : (0 : Int) < (n : Int)
    · rw [if_pos hk]
      have hk' : 1 ≤ n := by omega
      obtain ⟨bs, hbs⟩ : ∃ x, x = b ^ n := ⟨_, rfl⟩
      have fb : f < 2 ^ B := by
        have : f * 1 ≤ f * b ^ n := Nat.mul_le_mul_left f (Nat.pow_pos hb1)
        omega
      have bb : b < 2 ^ B := by
        have h1 : b ^ 1 ≤ b ^ n := Nat.pow_le_pow_right hb1 hk'
        rw [Nat.pow_one] at h1
        have h2 : 1 * b ^ n ≤ f * b ^ n := Nat.mul_le_mul_right _ hf
        omega
      have e2 : b ^ n = b ^ (n % 2) * (b * b) ^ (n / 2) := by
        have : b * b = b ^ 2 := by rw [Nat.pow_two]
        rw [this, ← Nat.pow_mul, ← Nat.pow_add]
        congr 1
        omega
      have tail : ∀ (f' : Nat), 1 ≤ f' → f' * (b * b) ^ (n / 2) = a ^ e → wS (seqC (augC 1 fdivD (cC (.int 2)))
            (ifS (valT (binC (cmpD fun i j => decide (j < i)) (varC 1) (cC (.int 0)))) (augC 0 imulD (varC 0)) passC) [some (.int b), some (.int n), some (.int f')] G')
            (fun σ' G'' => ∃ m, m < n ∧ ∃ f b k : Nat, σ' = [some (.int b), some (.int k), some (.int f)] ∧ G'' = G' ∧ 1 ≤ f ∧ 1 ≤ b ∧ f * b ^ k = a ^ e ∧ m = k) (fun v G'' => v = .int ((a ^ e : Nat) : Int) ∧ G'' = G') (fun _ G'' => False) (fun σ' G'' => ∃ m, m < n ∧ ∃ f b k : Nat, σ' = [some (.int b), some (.int k), some (.int f)] ∧ G'' = G' ∧ 1 ≤ f ∧ 1 ≤ b ∧ f * b ^ k = a ^ e ∧ m = k) := by
        intro f' hf' hp'
        simp only [wS_seq, wS_augV, wE_varS, wE_var0, wE_c, fdivD_int (j := 2) (by omega) (by omega), wE_ok, List.set_cons_succ, List.set_cons_zero, wS_if, wE_val, wE_bin, cmpD_int, wE_toB, decide_eq_true_eq]
        have ed : (n : Int) / 2 = ((n / 2 : Nat) : Int) := by omega
        rw [ed]
        by_cases hk2 : (0 : Int) < ((n / 2 : Nat) : Int)
        · rw [if_pos hk2, imulD_bits hB (by simpa using bb) (by simpa using bb), wE_ok]
          exact ⟨n / 2, by omega, f', b * b, n / 2, by simp, rfl, hf', Nat.mul_pos hb1 hb1, hp', rfl⟩
        · rw [if_neg hk2, wS_pass]
          refine ⟨n / 2, by omega, f', b, n / 2, rfl, rfl, hf', hb1, ?_, rfl⟩
          have z : n / 2 = 0 := by omega
          rw [z] at hp' ⊢
          simpa using hp'
      simp only [wS_seq (a := ifS _ _ _), wS_if, wE_val, wE_bin, wE_varS, wE_var0, wE_c, modD_int (j := 2) (by omega), wE_ok, eqD_int, wE_toB, Bool.false_eq_true, if_false, decide_eq_true_eq]
      by_cases ho : (n : Int) % 2 = 1
      · rw [if_pos ho, wS_augV]
        simp only [wE_varS, wE_var0, imulD_bits hB (i := (f : Int)) (j := (b : Int)) (by simpa using fb) (by simpa using bb), wE_ok, List.set_cons_succ, List.set_cons_zero]
        have t := tail (f * b) (Nat.mul_pos hf hb1) (by
          rw [e2] at hp
          have z : n % 2 = 1 := by omega
          rw [z, Nat.pow_one, ← Nat.mul_assoc] at hp
          exact hp)
        refine wS_imp t (fun _ _ q => by simpa using q) (fun _ _ q => q) (fun _ _ q => q.elim) fun _ _ q => by simpa using q
      · rw [if_neg ho, wS_pass]
        have t := tail f hf (by
          rw [e2] at hp
          have z : n % 2 = 0 := by omega
          rw [z, Nat.pow_zero, Nat.one_mul] at hp
          exact hp)
        refine wS_imp t (fun _ _ q => q) (fun _ _ q => q) (fun _ _ q => q.elim) fun _ _ q => q
    · rw [if_neg hk]
      have z : n = 0 := by omega
      subst z
      simp only [wS_ret, wE_varS, wE_var0]
      rw [Nat.pow_zero, Nat.mul_one] at hp
      rw [← hp]
      simp
  obtain ⟨v, G', e1, rfl, rfl⟩ := wE_get goal
  exact e1
end SX

set_option Elab.async false
set_option linter.all false
set_option maxRecDepth 100000
set_option maxHeartbeats 1000000
namespace SX
open PySem PySem.Spec PyProof.Rows L2 NT
/-! ### primes_of -/
noncomputable def primesB : SF :=
  (seqC (setC 1 (lstC nilA))
    (seqC (setC 2 (cC (.int 2)))
    (seqC (whileC (valT (binC (cmpD fun i j => decide (i ≤ j)) (binC mulD (varC 2) (varC 2)) (varC 0))) (seqC (setC 3 (cC (.int 0)))
    (seqC (whileC (valT (binC (eqD false) (binC modD (varC 0) (varC 2)) (cC (.int 0)))) (seqC (augC 0 fdivD (varC 2))
    (augC 3 iaddD (cC (.int 1)))))
    (seqC (ifS (valT (binC (cmpD fun i j => decide (j < i)) (varC 3) (cC (.int 0)))) (exprC (methC isL appendD (varC 1) (consA (tupC (consA (varC 2) (consA (varC 3) nilA))) nilA))) passC)
    (augC 2 iaddD (ifC (valT (binC (eqD false) (varC 2) (cC (.int 2)))) (cC (.int 1)) (cC (.int 2))))))))
    (seqC (ifS (valT (binC (cmpD fun i j => decide (j < i)) (varC 0) (cC (.int 1)))) (exprC (methC isL appendD (varC 1) (consA (tupC (consA (varC 0) (consA (cC (.int 1)) nilA))) nilA))) passC)
    (retC (varC 1))))))
noncomputable def primesF : FF := bodyC 4 primesB
def pcD (f : Nat × Nat) : D := .tup [.int f.1, .int f.2]
theorem at_last {G : Hq} {c : SX.C} : (G ++ [c])[G.length]? = some c := by simp
/-- the inner loop: p out of m -/
theorem outP {p m0 : Nat} {d1 : D} {G : Hq} (hp : 2 ≤ p) (hb : p < 2 ^ 300) (h0 : 1 ≤ m0) {N : Eq' → Hq → Prop} {R : D → Hq → Prop} {B C : Eq' → Hq → Prop}
    (out : ∀ m c : Nat, m * p ^ c = m0 → 1 ≤ m → ¬ p ∣ m → N [some (.int m), some d1, some (.int p), some (.int c)] G) :
    wS (whileC (valT (binC (eqD false) (binC modD (varC 0) (varC 2)) (cC (.int 0)))) (seqC (augC 0 fdivD (varC 2)) (augC 3 iaddD (cC (.int 1)))) [some (.int m0), some d1, some (.int p), some (.int 0)] G) N R B C := by
  refine wS_while (fun n σ G' => ∃ m c : Nat, σ = [some (.int m), some d1, some (.int p), some (.int c)] ∧ G' = G ∧ m * p ^ c = m0 ∧ 1 ≤ m ∧ n = m) (fun n σ G' h => ?_) m0 _ G ⟨m0, 0, rfl, rfl, by simp, h0, rfl⟩
  obtain ⟨m, c, rfl, rfl, e, h1, rfl⟩ := h
  simp only [wE_val, wE_bin, wE_varS, wE_var0, wE_c, modD_int (j := (p : Int)) (by omega), wE_ok, eqD_int, wE_toB, Bool.false_eq_true, if_false, decide_eq_true_eq, int_mod]
  by_cases hd : ((n % p : Nat) : Int) = 0
  · rw [if_pos hd]
    simp only [wS_seq, wS_augV, wE_varS, wE_var0, wE_c, fdivD_int (j := (p : Int)) (by omega) (by omega), wE_ok, iaddD_int, List.set_cons_succ, List.set_cons_zero, int_div]
    have hd' : n % p = 0 := by omega
    have hm : n = p * (n / p) := by
      have := Nat.div_add_mod n p
      omega
    have hq : 1 ≤ n / p := by
      rcases Nat.eq_zero_or_pos (n / p) with z | z
      · rw [z] at hm
        omega
      · exact z
    refine ⟨n / p, Nat.div_lt_self h1 hp, n / p, c + 1, by simp, by simp, ?_, hq, rfl⟩
    rw [← e, Nat.pow_succ]
    conv => rhs; rw [hm]
    ac_rfl
  · rw [if_neg hd]
    refine out n c e h1 fun q => hd ?_
    rw [Nat.mod_eq_zero_of_dvd q] <;> rfl
theorem primes_ok {n : Nat} {G : Hq} (h1 : 1 ≤ n) (hb : n < 2 ^ 200) :
    ∃ fs, primesF [.int n] G = .ok (.ref G.length) (G ++ [.lst (fs.map pcD)]) ∧ Good fs ∧ prodL fs = n ∧ fs.length ≤ n := by
  have goal : wE (primesF [.int n] G) fun v G' => ∃ fs : List (Nat × Nat), v = .ref G.length ∧ G' = G ++ [.lst (fs.map pcD)] ∧ Good fs ∧ prodL fs = n ∧ fs.length ≤ n := by
    unfold primesF
    rw [wE_body]
    show wS (primesB [some (.int n), none, none, none] G) _ _ _ _
    unfold primesB
    have lens : ∀ fs : List (Nat × Nat), Good fs → fs.length < prodL fs := by
      intro fs hg
      induction fs with
      | nil => simp
      | cons f fs ih =>
        have i := ih hg.tail
        have h2 : 2 ≤ f.1 ^ f.2 := by
          have q := hg.pr f (List.mem_cons_self ..)
          have := q.1.1
          have := Nat.pow_le_pow_right q.1.pos q.2
          rw [Nat.pow_one] at this
          omega
        have := Nat.mul_le_mul_right (prodL fs) h2
        rw [prodL_cons, List.length_cons]
        omega
    simp only [wS_seq, wS_set, wE_lst, wE_nilA, wE_c, List.set_cons_succ, List.set_cons_zero]
    refine wS_while (fun v σ G' => ∃ (m p : Nat) (fs : List (Nat × Nat)) (x : Option D), σ = [some (.int m), some (.ref G.length), some (.int p), x] ∧ G' = G ++ [.lst (fs.map pcD)] ∧ 2 ≤ p ∧ (p = 2 ∨ p % 2 = 1) ∧ 1 ≤ m ∧ p ≤ n + 2 ∧
      m * prodL fs = n ∧ Good fs ∧ (∀ f ∈ fs, f.1 < p) ∧ (∀ d, 2 ≤ d → d < p → ¬ d ∣ m) ∧ v = n + 3 - p) (fun v σ G' h => ?_) (n + 1) _ _ ⟨n, 2, [], none, rfl, rfl, by omega, .inl rfl, h1, by omega, by simp, Good.nil, by simp, fun d h2 h3 => by omega, by omega⟩
    obtain ⟨m, p, fs, x, rfl, rfl, hp, ho, hm, hpn, hprod, hg, hlt, hno, rfl⟩ := h
    have hpos := prodL_pos hg
    have hmn : m ≤ n := by
      have := Nat.mul_le_mul_left m hpos
      omega
    have hfl := lens fs hg
    have hfn : prodL fs ≤ n := by
      have := Nat.mul_le_mul_right (prodL fs) hm
      omega
    have fb : fs.length < 16777216 := by
      -- 2 ^ length ≤ product
      have pw : ∀ gs : List (Nat × Nat), Good gs → 2 ^ gs.length ≤ prodL gs := by
        intro gs hg
        induction gs with
        | nil => simp
        | cons f gs ih =>
          have i := ih hg.tail
          have h2 : 2 ≤ f.1 ^ f.2 := by
            have q := hg.pr f (List.mem_cons_self ..)
            have := q.1.1
            have := Nat.pow_le_pow_right q.1.pos q.2
            rw [Nat.pow_one] at this
            omega
          rw [prodL_cons, List.length_cons, Nat.pow_succ, Nat.mul_comm]
          exact Nat.mul_le_mul h2 i
      have h5 := pw fs hg
      have h6 : 2 ^ fs.length < 2 ^ 200 := by omega
      have h7 := (Nat.pow_lt_pow_iff_right (a := 2) (by omega)).mp h6
      omega
    simp only [wE_val, wE_bin, wE_varS, wE_var0, mulD_int (i := (p : Int)) (j := (p : Int)) (by omega) (by omega), wE_ok, cmpD_int, wE_toB, decide_eq_true_eq]
    have hpp : ((p : Int) * (p : Int) ≤ (m : Int)) ↔ p * p ≤ m := by
      rw [← Int.natCast_mul]
      omega
    by_cases hc : (p : Int) * (p : Int) ≤ (m : Int)
    · rw [if_pos hc]
      have hc' := hpp.mp hc
      have hpm : p ≤ m := Nat.le_trans (Nat.le_mul_of_pos_left p (by omega)) hc'
      simp only [wS_seq, wS_set, wE_c, List.set_cons_succ, List.set_cons_zero]
      refine outP hp (by omega) hm fun m' c e hm' hn' => ?_
      simp only [wS_if, wE_val, wE_bin, wE_varS, wE_var0, wE_c, wE_ok, cmpD_int, wE_toB, decide_eq_true_eq]
      have hm'd : m' ∣ m := ⟨p ^ c, e.symm⟩
      have next : ∀ (fs' : List (Nat × Nat)), m' * prodL fs' = n → Good fs' → (∀ f ∈ fs', f.1 < p + 1) →
          wS (augC 2 iaddD (ifC (valT (binC (eqD false) (varC 2) (cC (.int 2)))) (cC (.int 1)) (cC (.int 2))) [some (.int m'), some (.ref G.length), some (.int p), some (.int c)] (G ++ [.lst (fs'.map pcD)]))
            (fun σ' G'' => ∃ v', v' < n + 3 - p ∧ ∃ (m p : Nat) (fs : List (Nat × Nat)) (x : Option D), σ' = [some (.int m), some (.ref G.length), some (.int p), x] ∧ G'' = G ++ [.lst (fs.map pcD)] ∧ 2 ≤ p ∧ (p = 2 ∨ p % 2 = 1) ∧ 1 ≤ m ∧ p ≤ n + 2 ∧
              m * prodL fs = n ∧ Good fs ∧ (∀ f ∈ fs, f.1 < p) ∧ (∀ d, 2 ≤ d → d < p → ¬ d ∣ m) ∧ v' = n + 3 - p)
            (fun v G'' => ∃ fs : List (Nat × Nat), v = .ref G.length ∧ G'' = G ++ [.lst (fs.map pcD)] ∧ Good fs ∧ prodL fs = n ∧ fs.length ≤ n) (fun _ _ => False) (fun σ' G'' => ∃ v', v' < n + 3 - p ∧ ∃ (m p : Nat) (fs : List (Nat × Nat)) (x : Option D), σ' = [some (.int m), some (.ref G.length), some (.int p), x] ∧ G'' = G ++ [.lst (fs.map pcD)] ∧ 2 ≤ p ∧ (p = 2 ∨ p % 2 = 1) ∧ 1 ≤ m ∧ p ≤ n + 2 ∧
              m * prodL fs = n ∧ Good fs ∧ (∀ f ∈ fs, f.1 < p) ∧ (∀ d, 2 ≤ d → d < p → ¬ d ∣ m) ∧ v' = n + 3 - p) := by
        intro fs' hprod' hg' hlt'
        have base : ∀ d, 2 ≤ d → d < p + 1 → ¬ d ∣ m' := fun d h2 h3 hd => by
          by_cases z : d = p
          · subst z
            exact hn' hd
          · exact hno d h2 (by omega) (Nat.dvd_trans hd hm'd)
        simp only [wS_augV, wE_varS, wE_var0, wE_ifC, wE_val, wE_bin, wE_c, eqD_int, wE_ok, wE_toB, Bool.false_eq_true, if_false, decide_eq_true_eq, iaddD_int, List.set_cons_succ, List.set_cons_zero]
        by_cases h2 : (p : Int) = 2
        · rw [if_pos h2]
          have h2' : p = 2 := by omega
          refine ⟨n + 3 - (p + 1), by omega, m', p + 1, fs', some (.int c), by simp, rfl, by omega, .inr (by omega), hm', by omega, hprod', hg', hlt', base, rfl⟩
        · rw [if_neg h2]
          refine ⟨n + 3 - (p + 2), by omega, m', p + 2, fs', some (.int c), by simp, rfl, by omega, .inr (by omega), hm', by omega, hprod', hg', fun f hf => Nat.lt_trans (hlt' f hf) (by omega), fun d d2 d3 hd => ?_, rfl⟩
          by_cases z : d = p + 1
          · subst z
            have hev : 2 ∣ p + 1 := ⟨(p + 1) / 2, by omega⟩
            exact base 2 (by omega) (by omega) (Nat.dvd_trans hev hd)
          · exact base d d2 (by omega) hd
      by_cases hc0 : (0 : Int) < (c : Int)
      · rw [if_pos hc0]
        have hpd : p ∣ m := by
          obtain ⟨b, rfl⟩ : ∃ b, c = b + 1 := ⟨c - 1, by omega⟩
          exact ⟨m' * p ^ b, by rw [← e, Nat.pow_succ]; ac_rfl⟩
        have ip := least_prime hp hpd hno
        simp only [wS_expr, wE_meth, wE_varS, wE_var0, isL_lst at_last, if_true, wE_consA, wE_tup, wE_nilA, appendD_lst (xs := fs.map pcD) at_last (by simpa using fb), wE_ok, app_last]
        have q := next (fs ++ [(p, c)]) (by rw [prodL_append, ← hprod, ← e]; simp; ac_rfl) (hg.snoc ip (by omega) hlt) (fun f hf => by
          rcases List.mem_append.mp hf with z | z
          · exact Nat.lt_trans (hlt f z) (by omega)
          · rw [List.mem_singleton] at z
            subst z
            simp)
        rw [List.map_append] at q
        exact wS_imp q (fun _ _ q => q) (fun _ _ q => q) (fun _ _ q => q.elim) fun _ _ q => q
      · rw [if_neg hc0, wS_pass]
        have c0 : c = 0 := by omega
        have q := next fs (by rw [← hprod, ← e, c0]; simp) hg (fun f hf => Nat.lt_trans (hlt f hf) (by omega))
        exact wS_imp q (fun _ _ q => q) (fun _ _ q => q) (fun _ _ q => q.elim) fun _ _ q => q
    · rw [if_neg hc]
      have hc' : m < p * p := by
        have := mt hpp.mpr hc
        omega
      simp only [wS_if, wE_val, wE_bin, wE_varS, wE_var0, wE_c, wE_ok, cmpD_int, wE_toB, decide_eq_true_eq]
      by_cases hm1 : (1 : Int) < (m : Int)
      · rw [if_pos hm1]
        have hm1' : 1 < m := by omega
        have ip := rest_prime hm1' hc' hno
        have pm : p ≤ m := by
          rcases Nat.lt_or_ge m p with z | z
          · exact absurd (Nat.dvd_refl m) (hno m (by omega) z)
          · exact z
        simp only [wS_expr, wE_meth, wE_varS, wE_var0, isL_lst at_last, if_true, wE_consA, wE_tup, wE_nilA, wE_c, appendD_lst (xs := fs.map pcD) at_last (by simpa using fb), wE_ok, app_last, wS_ret]
        have hg' : Good (fs ++ [(m, 1)]) := hg.snoc ip (by omega) fun f hf => Nat.lt_of_lt_of_le (hlt f hf) pm
        have hp' : prodL (fs ++ [(m, 1)]) = n := by
          rw [prodL_append, ← hprod]
          simp
          ac_rfl
        have := lens _ hg'
        exact ⟨fs ++ [(m, 1)], by simp, by simp [List.map_append, pcD], hg', hp', by omega⟩
      · rw [if_neg hm1, wS_pass]
        simp only [wS_ret, wE_varS, wE_var0]
        have m1 : m = 1 := by omega
        subst m1
        exact ⟨fs, by simp, by simp, hg, by simpa using hprod, by omega⟩
  obtain ⟨v, G', e1, fs, rfl, rfl, h⟩ := wE_get goal
  exact ⟨fs, e1, h⟩
end SX

set_option Elab.async false
set_option linter.all false
set_option maxRecDepth 100000
set_option maxHeartbeats 1000000
namespace SX
open PySem PySem.Spec PyProof.Rows L2 NT
/-! ### divisors -/
noncomputable def divisorsB : SF :=
  (seqC (setC 1 (lstC (consA (cC (.int 1)) nilA)))
    (seqC (forC (iterC (fnC primesF [] (consA (varC 0) nilA))) (gTp 2 (gCs (gN 2) (gCs (gN 3) gNl))) (setC 1 (lc2C (iterC (varC 1)) (gN 4) yesT (srcC rangeD (consA (binC addD (varC 3) (cC (.int 1))) nilA)) (gN 5) yesT (binC mulD (varC 4) (fnC raisedF [] (consA (varC 2) (consA (varC 5) nilA)))) [4, 5] [5])))
    (retC (callC sortedKD (consA (varC 1) nilA)))))
noncomputable def divisorsF : FF := bodyC 6 divisorsB
abbrev natD (n : Nat) : D := .int (n : Int)
section
variable {G : Hq} {σ : Eq'}
theorem wE_lc2 {i : IF} {g : GF} {t : TF} {i1 : IF} {g1 : GF} {t1 : TF} {e : EF} {vs vs1 : List Nat} {Q : D → Hq → Prop} :
    wE (lc2C i g t i1 g1 t1 e vs vs1 σ G) Q = wE (i σ G) (fun s G1 => wC (lcL s (lc2Turn g t i1 g1 t1 e (wipeD σ vs) vs1 G1.length) 0 (G1 ++ [.lst []])) (fun G2 => Q (.ref G1.length) G2)) := by
  show wE (Rs.bind _ _) Q = _
  rw [wE_bind]
  congr 1
  funext s G1
  exact wE_ofCr
theorem wC_turn2 {g : GF} {t : TF} {i1 : IF} {g1 : GF} {t1 : TF} {e : EF} {vs1 : List Nat} {p : Nat} {d : D} {Q : Hq → Prop} :
    wC (lc2Turn g t i1 g1 t1 e σ vs1 p d G) Q = wE (g d σ G) (fun σ1 G1 => wE (t σ1 G1) (fun x G2 => if x = true then wE (i1 σ1 G2) (fun s1 G3 => wC (lcL s1 (lcTurn g1 t1 e (wipeD σ1 vs1) p) 0 G3) Q) else Q G2)) := by
  unfold lc2Turn
  cases g d σ G with
  | ok σ1 G1 =>
    show wC (match t σ1 G1 with | .ok true G2 => _ | .ok false G2 => _ | _ => _) Q = wE (t σ1 G1) _
    cases t σ1 G1 with
    | ok x G2 =>
      cases x with
      | true =>
        show wC (match i1 σ1 G2 with | .ok s1 G3 => _ | _ => _) Q = wE (i1 σ1 G2) _
        cases i1 σ1 G2 <;> rfl
      | false => rfl
    | ex _ _ _ => rfl
    | bad => rfl
  | ex _ _ _ => rfl
  | bad => rfl
/-- the inner clause's walk, the cell p holding what was gathered: F gives what each item adds -/
theorem lc_more {s : Src} {g : GF} {t : TF} {e : EF} {σ0 : Eq'} {Q : Hq → Prop} (xs : List D) (F : D → List D) (acc0 : List D) (hlen : (acc0 ++ xs.flatMap F).length ≤ 16777216) (src : ∀ (k : Nat) (acc : List D), s k (G ++ [.lst acc]) = gives xs k)
    (turn : ∀ (k : Nat) (d : D) (acc : List D), xs[k]? = some d → wE (g d σ0 (G ++ [.lst acc])) fun σ1 G1 => wE (t σ1 G1) fun x G2 => if x = true then wE (e σ1 G2) fun y G3 => G3 = G ++ [.lst acc] ∧ F d = [y] else G2 = G ++ [.lst acc] ∧ F d = [])
    (out : Q (G ++ [.lst (acc0 ++ xs.flatMap F)])) : wC (lcL s (lcTurn g t e σ0 G.length) 0 (G ++ [.lst acc0])) Q := by
  refine wC_imp (lcL_run xs (fun k G' => G' = G ++ [.lst (acc0 ++ (xs.take k).flatMap F)]) (fun k G' hI => by rw [hI]; exact src k _) (fun k d G' hd hI => ?_) xs.length 0 (G ++ [.lst acc0]) (by omega) (by simp)) fun G' hI => by rw [hI, List.take_length]; exact out
  subst hI
  rw [wC_turn]
  have tk : xs.take (k + 1) = xs.take k ++ [d] := by
    rw [List.take_succ, hd] <;> rfl
  refine wE_imp (turn k d _ hd) fun σ1 G1 q => wE_imp q fun x G2 q => ?_
  split
  · rename_i hx
    rw [if_pos hx] at q
    refine wE_imp q fun y G3 ⟨e3, ey⟩ => ?_
    subst e3
    have lt : (acc0 ++ (xs.take k).flatMap F).length < 16777216 := by
      have e0 : xs.flatMap F = (xs.take k).flatMap F ++ (F d ++ (xs.drop (k + 1)).flatMap F) := by
        conv => lhs; rw [← List.take_append_drop (k + 1) xs, List.flatMap_append, tk, List.flatMap_append]
        simp
      rw [e0, ey] at hlen
      simp only [List.length_append, List.length_cons, List.length_nil] at hlen ⊢
      omega
    rw [wC_app (by simp) lt, app_last, tk, List.flatMap_append]
    simp [ey]
  · rename_i hx
    rw [if_neg hx] at q
    rw [q.1, tk, List.flatMap_append]
    simp [q.2]
theorem rangeD1 {n : Int} (h : small62 n = true) : rangeD [.int n] G = .ok (itR 0 1 n.toNat) G := by
  show (if small62 n = true then _ else _) = _
  rw [if_pos h]
theorem rangeD2 {m n : Int} (h1 : small62 m = true) (h2 : small62 n = true) : rangeD [.int m, .int n] G = .ok (itR m 1 (n - m).toNat) G := by
  show (if (small62 m && small62 n) = true then _ else _) = _
  rw [h1, h2] <;> rfl
theorem small_of {n : Int} (h0 : -(2 ^ 62) ≤ n) (h1 : n < 2 ^ 62) : small62 n = true := by
  unfold small62
  rw [Bool.and_eq_true_iff]
  exact ⟨decide_eq_true h0, decide_eq_true h1⟩
/-- what range(lo, ..) gives, as a list -/
theorem src_itR {lo st : Int} {n k : Nat} : itR lo st n k G = gives ((List.range n).map fun k : Nat => D.int (lo + k * st)) k := by
  unfold gives itR
  by_cases hk : k < n
  · simp [hk]
  · simp [hk]
end
theorem natD_ints (ns : List Nat) : ns.map natD = (ns.map Int.ofNat).map D.int := by
  rw [List.map_map] <;> rfl
/-- the divisors of n, going up -/
def divs (n : Nat) : List Nat := ((List.range n).map (· + 1)).filter fun k => n % k == 0
theorem mem_divs {n k : Nat} (hn : 1 ≤ n) : k ∈ divs n ↔ k ∣ n := by
  unfold divs
  rw [List.mem_filter]
  simp only [List.mem_map, List.mem_range, beq_iff_eq]
  constructor
  · rintro ⟨_, h⟩
    exact Nat.dvd_of_mod_eq_zero h
  · intro h
    have h1 := Nat.le_of_dvd hn h
    have h0 : 0 < k := Nat.pos_of_dvd_of_pos h hn
    exact ⟨⟨k - 1, by omega, by omega⟩, Nat.mod_eq_zero_of_dvd h⟩
theorem up_divs (n : Nat) : (divs n).Pairwise (· < ·) := by
  unfold divs
  refine List.Pairwise.filter _ ?_
  rw [List.pairwise_map]
  exact List.Pairwise.imp (fun h => by omega) List.pairwise_lt_range
/-- sorted: a list of naturals each once, holding what divs holds -/
theorem sort_divs {ns : List Nat} {n : Nat} (hn : 1 ≤ n) (nd : ns.Nodup) (h : ∀ k, k ∈ ns ↔ k ∣ n) : sortI (ns.map Int.ofNat) = (divs n).map Int.ofNat := by
  have perm : (sortI (ns.map Int.ofNat)).Perm (ns.map Int.ofNat) := List.mergeSort_perm _ _
  have le : (sortI (ns.map Int.ofNat)).Pairwise (fun a b => decide (a ≤ b) = true) := List.pairwise_mergeSort (fun a b c h1 h2 => by
    simp at h1 h2 ⊢
    omega) (fun a b => by
    simp
    omega) _
  have nd2 : (sortI (ns.map Int.ofNat)).Nodup := perm.nodup_iff.mpr (by
    refine List.Pairwise.map _ (fun a b hab e => hab ?_) nd
    exact Int.ofNat.inj e)
  have nn : ∀ z ∈ sortI (ns.map Int.ofNat), 0 ≤ z := fun z hz => by
    obtain ⟨k, _, rfl⟩ := List.mem_map.mp (perm.mem_iff.mp hz)
    exact Int.natCast_nonneg k
  refine up_ext (k := Int.toNat) (List.Pairwise.imp_of_mem (fun {a b} ha hb hab => ?_) (le.and nd2)) ?_ fun a => ?_
  · have h1 := of_decide_eq_true hab.1
    have h2 : a ≠ b := hab.2
    have := nn a ha
    have := nn b hb
    omega
  · rw [List.pairwise_map]
    exact List.Pairwise.imp (fun h => by simpa using h) (up_divs n)
  · rw [perm.mem_iff, List.mem_map, List.mem_map]
    constructor
    · rintro ⟨k, hk, rfl⟩
      exact ⟨k, (mem_divs hn).mpr ((h k).mp hk), rfl⟩
    · rintro ⟨k, hk, rfl⟩
      exact ⟨k, (h k).mpr ((mem_divs hn).mp hk), rfl⟩
theorem divs_len (n : Nat) : (divs n).length ≤ n := by
  unfold divs
  refine Nat.le_trans (List.length_filter_le _ _) ?_
  simp
end SX

set_option Elab.async false
set_option linter.all false
set_option maxRecDepth 100000
set_option maxHeartbeats 1000000
namespace SX
open PySem PySem.Spec PyProof.Rows L2 NT
theorem len_without (M : Nat) : ∀ xs : List Nat, xs.Nodup → xs.length ≤ (xs.filter fun x => !(x == M)).length + 1
  | [], _ => by simp
  | x :: xs, nd => by
    obtain ⟨h1, h2⟩ := List.pairwise_cons.mp nd
    by_cases e : x = M
    · have : xs.filter (fun x => !(x == M)) = xs := List.filter_eq_self.mpr fun y hy => by
        have := h1 y hy
        simp
        omega
      rw [List.filter_cons_of_neg (by simp [e]), this, List.length_cons]
      exact Nat.le_refl _
    · rw [List.filter_cons_of_pos (by simp [e]), List.length_cons, List.length_cons]
      have := len_without M xs h2
      omega
theorem few_below : ∀ (M : Nat) (xs : List Nat), xs.Nodup → (∀ x ∈ xs, x < M) → xs.length ≤ M
  | 0, [], _, _ => Nat.le_refl _
  | 0, x :: xs, _, h => absurd (h x (List.mem_cons_self ..)) (by omega)
  | M + 1, xs, nd, h => by
    have i := few_below M (xs.filter fun x => !(x == M)) (nd.filter _) fun x hx => by
      obtain ⟨h1, h2⟩ := List.mem_filter.mp hx
      have := h x h1
      simp at h2
      omega
    have := len_without M xs nd
    omega
theorem flat_one {α β : Type} (f : α → β) : ∀ l : List α, (l.flatMap fun x => [f x]) = l.map f
  | [] => rfl
  | x :: l => by rw [List.flatMap_cons, flat_one f l] <;> rfl
/-- how many divisors -/
theorem few_dvs {n : Nat} {ds : List Nat} (h1 : 1 ≤ n) (hb : n < 2 ^ 44) (nd : ds.Nodup) (h : ∀ k ∈ ds, k ∣ n) : ds.length ≤ 8388612 := by
  have pos : ∀ k ∈ ds, 0 < k := fun k hk => Nat.pos_of_dvd_of_pos (h k hk) h1
  have cof : ∀ k ∈ ds, k * (n / k) = n := fun k hk => Nat.mul_div_cancel' (h k hk)
  have small : ∀ k, k * k ≤ n → k < 4194304 := fun k hk => by
    rcases Nat.lt_or_ge k 4194304 with q | q
    · exact q
    · have := Nat.mul_le_mul q q
      omega
  have co : ∀ k ∈ ds, ¬ k * k ≤ n → (n / k) * (n / k) ≤ n := fun k hk hn => by
    have e := cof k hk
    have p := pos k hk
    have lt : n / k < k := by
      rcases Nat.lt_or_ge (n / k) k with q | q
      · exact q
      · have := Nat.mul_le_mul_left k q
        omega
    have := Nat.mul_le_mul_right (n / k) (Nat.le_of_lt lt)
    omega
  have q := few_below 8388612 (ds.map fun k => if k * k ≤ n then 2 * k else 2 * (n / k) + 1) (by
    refine List.pairwise_map.mpr (List.Pairwise.imp_of_mem (fun {a b} ha hb hab e => hab ?_) nd)
    have ea := cof a ha
    have eb := cof b hb
    have pa := pos a ha
    by_cases ca : a * a ≤ n
    · by_cases cb : b * b ≤ n
      · rw [if_pos ca, if_pos cb] at e
        omega
      · rw [if_pos ca, if_neg cb] at e
        omega
    · by_cases cb : b * b ≤ n
      · rw [if_neg ca, if_pos cb] at e
        omega
      · rw [if_neg ca, if_neg cb] at e
        have e2 : n / a = n / b := by omega
        rw [e2] at ea
        have pq : 0 < n / b := by
          rcases Nat.eq_zero_or_pos (n / b) with z | z
          · rw [z] at eb
            omega
          · exact z
        exact Nat.eq_of_mul_eq_mul_right pq (ea.trans eb.symm)) (fun x hx => by
    obtain ⟨k, hk, rfl⟩ := List.mem_map.mp hx
    by_cases c : k * k ≤ n
    · rw [if_pos c]
      have := small k c
      omega
    · rw [if_neg c]
      have := small _ (co k hk c)
      omega)
  simpa using q
theorem good_bits {fs : List (Nat × Nat)} (hg : Good fs) {p c : Nat} (hm : (p, c) ∈ fs) : p ^ c ≤ prodL fs ∧ p ≤ prodL fs ∧ c < prodL fs := by
  obtain ⟨m, e, hn⟩ := hg.split hm
  have hq := hg.pr _ hm
  have pos := prodL_pos hg
  have m1 : 1 ≤ m := by
    rcases Nat.eq_zero_or_pos m with z | z
    · rw [z] at e
      omega
    · exact z
  have a1 : p ^ c ≤ prodL fs := by
    rw [e]
    exact Nat.le_mul_of_pos_left _ m1
  have a2 : p ^ 1 ≤ p ^ c := Nat.pow_le_pow_right hq.1.pos hq.2
  have a3 : c < p ^ c := Nat.lt_pow_self hq.1.1
  rw [Nat.pow_one] at a2
  exact ⟨a1, by omega, by omega⟩
theorem dvs_prefix {fs : List (Nat × Nat)} (hg : Good fs) (k : Nat) : (dvs (fs.take k)).Nodup ∧ ∀ d ∈ dvs (fs.take k), d ∣ prodL fs := by
  have hg' : Good (fs.take k ++ fs.drop k) := by rw [List.take_append_drop]; exact hg
  obtain ⟨h1, h2⟩ := dvs_all hg'.append.1
  refine ⟨h1, fun d hd => Nat.dvd_trans ((h2 d).mp hd) ?_⟩
  conv => rhs; rw [← List.take_append_drop k fs, prodL_append]
  exact ⟨_, rfl⟩
theorem divisors_ok {n : Nat} {G : Hq} (h1 : 1 ≤ n) (hb : n < 2 ^ 44) :
    ∃ p G', divisorsF [.int n] G = .ok (.ref p) G' ∧ Fr [] G G' ∧ G'[p]? = some (.lst ((divs n).map natD)) ∧ G.length ≤ p := by
  have goal : wE (divisorsF [.int n] G) fun v G' => ∃ p, v = .ref p ∧ Fr [] G G' ∧ G'[p]? = some (.lst ((divs n).map natD)) ∧ G.length ≤ p := by
    unfold divisorsF
    rw [wE_body]
    show wS (divisorsB [some (.int n), none, none, none, none, none] G) _ _ _ _
    unfold divisorsB
    obtain ⟨fs, ef, hg, hp, _⟩ := primes_ok (n := n) (G := G ++ [.lst [.int 1]]) h1 (by omega)
    simp only [wS_seq, wS_set, wE_lst, wE_consA, wE_c, wE_nilA, List.set_cons_succ, List.set_cons_zero, wS_for, wE_iter, wE_fn, wE_varS, wE_var0, List.append_nil, ef, wE_ok]
    have fr1 : Fr [] G (G ++ [.lst [.int 1]] ++ [.lst (fs.map pcD)]) := Fr.new.trans Fr.new
    have at1 : (G ++ [.lst [.int 1]] ++ [.lst (fs.map pcD)])[(G ++ [SX.C.lst [.int 1]]).length]? = some (.lst (fs.map pcD)) := at_last
    have at0 : (G ++ [.lst [.int 1]] ++ [.lst (fs.map pcD)])[G.length]? = some (.lst [.int 1]) := by
      rw [List.getElem?_append_left (by simp)]
      exact at_last
    generalize hG1 : G ++ [.lst [.int 1]] ++ [.lst (fs.map pcD)] = G1 at fr1 at1 at0
    generalize hP : (G ++ [SX.C.lst [.int 1]]).length = P at at1
    simp only [iterD_ref (lstOf_lst at1), wE_ok]
    refine wS_forLs (fs.map pcD) (fun k σ G' => ∃ (q : Nat) (x2 x3 x4 x5 : Option D), σ = [some (.int n), some (.ref q), x2, x3, x4, x5] ∧ Fr [] G1 G' ∧ G'[q]? = some (.lst ((dvs (fs.take k)).map natD)) ∧ G.length ≤ q)
      ⟨G.length, none, none, none, none, rfl, Fr.refl, (by show G1[G.length]? = _; rw [at0]; rfl), Nat.le_refl _⟩ (fun k σ G' h => ?_) (fun k d σ G' hd h => ?_) (fun σ G' h => ?_)
    · obtain ⟨q, x2, x3, x4, x5, rfl, fr, hq, hl⟩ := h
      exact lstOf_lst (fr.get at1 (by simp))
    · obtain ⟨q, x2, x3, x4, x5, rfl, fr, hq, hl⟩ := h
      rw [List.getElem?_map] at hd
      obtain ⟨⟨p, c⟩, hk, rfl⟩ := Option.map_eq_some_iff.mp hd
      have hm : (p, c) ∈ fs := List.mem_of_getElem? hk
      obtain ⟨b1, b2, b3⟩ := good_bits hg hm
      rw [hp] at b1 b2 b3
      have hpp := (hg.pr _ hm).1
      have tk : fs.take (k + 1) = fs.take k ++ [(p, c)] := by
        rw [List.take_succ, hk] <;> rfl
      have nx := dvs_prefix hg (k + 1)
      have nk := dvs_prefix hg k
      rw [hp] at nx nk
      have nl := few_dvs h1 hb nx.1 nx.2
      rw [tk, dvs_snoc] at nl nx
      simp only [pcD, wE_gTp (n := 2) (xs := [.int p, .int c]) rfl, wE_gCs, wE_gN, wE_gNl, List.set_cons_succ, List.set_cons_zero, wS_set, wE_lc2, wE_iter, wE_varS, wE_var0, iterD_ref (lstOf_lst hq), wE_ok]
      have hql : q < G'.length := lt_of_at hq
      have pl : ∀ ds : List Nat, ds <+: dvs (fs.take k) → (dvStep ds (p, c)).length ≤ 16777216 := fun ds hds => by
        obtain ⟨r, hr⟩ := hds
        have : (dvStep (dvs (fs.take k)) (p, c)).length = (dvStep ds (p, c)).length + (dvStep r (p, c)).length := by
          rw [← hr]
          unfold dvStep
          rw [List.flatMap_append, List.length_append]
        omega
      refine wC_imp (lcL_run ((dvs (fs.take k)).map natD) (fun j G2 => G2 = G' ++ [.lst ((dvStep ((dvs (fs.take k)).take j) (p, c)).map natD)]) (fun j G2 hI => ?_) (fun j d G2 hd hI => ?_) _ 0 _ (Nat.zero_add _) (by simp [dvStep])) fun G2 hI => ?_
      · rw [hI]
        exact src_itL (lstOf_lst (by rw [List.getElem?_append_left hql]; exact hq))
      · subst hI
        rw [List.getElem?_map] at hd
        have hex : ∃ a, (dvs (fs.take k))[j]? = some a ∧ natD a = d := Option.map_eq_some_iff.mp hd
        clear hd
        cases hex
        rename_i a hae
        have ha := hae.1
        rw [← hae.2]
        have ham : a ∈ dvs (fs.take k) := List.mem_of_getElem? ha
        have had : a ∣ n := nk.2 a ham
        have hab : a ≤ n := Nat.le_of_dvd h1 had
        have tj : (dvs (fs.take k)).take (j + 1) = (dvs (fs.take k)).take j ++ [a] := by
          rw [List.take_succ, ha] <;> rfl
        simp only [wC_turn2, wE_gN, wipeD, List.set_cons_succ, List.set_cons_zero, wE_yes, if_true, wE_src, wE_consA, wE_bin, wE_varS, wE_var0, wE_c, addD_int, wE_ok, wE_nilA]
        rw [rangeD1 (small_of (by omega) (by omega)), wE_ok]
        have en : ((c : Int) + 1).toNat = c + 1 := by omega
        rw [en]
        have flat : ((dvStep ((dvs (fs.take k)).take j) (p, c)).map natD) ++ (((List.range (c + 1)).map fun i : Nat => D.int (0 + i * 1)).flatMap fun d => match d with | .int i => [natD (a * p ^ i.toNat)] | _ => []) = (dvStep ((dvs (fs.take k)).take (j + 1)) (p, c)).map natD := by
          rw [tj]
          unfold dvStep
          rw [List.flatMap_append, List.map_append]
          congr 1
          rw [List.flatMap_map]
          have e3 : (fun i : Nat => (match D.int (0 + (i : Int) * 1) with | .int i => [natD (a * p ^ i.toNat)] | _ => [])) = fun i : Nat => [natD (a * p ^ i)] := by
            funext i
            have hz : (0 + (i : Int) * 1).toNat = i := by omega
            show [natD (a * p ^ (0 + (i : Int) * 1).toNat)] = _
            rw [hz]
          refine (congrArg (fun F => (List.range (c + 1)).flatMap F) e3).trans ?_
          rw [flat_one]
          simp only [List.flatMap_cons, List.flatMap_nil, List.append_nil, List.map_map]
          rfl
        refine lc_more ((List.range (c + 1)).map fun i : Nat => D.int (0 + i * 1)) (fun d => match d with | .int i => [natD (a * p ^ i.toNat)] | _ => []) _ (by
          rw [flat, List.length_map]
          exact pl _ (List.take_prefix _ _)) (fun i acc => src_itR) (fun i d acc hi => ?_) (by rw [flat])
        have hic : i < c + 1 := by
          rcases Nat.lt_or_ge i (c + 1) with z | z
          · exact z
          · rw [List.getElem?_eq_none (by simpa using z)] at hi
            cases hi
        rw [List.getElem?_map, List.getElem?_range hic] at hi
        cases hi
        have pb : p ^ i ≤ p ^ c := Nat.pow_le_pow_right hpp.pos (by omega)
        have hz : (0 : Int) + (i : Int) * 1 = (i : Int) := by omega
        simp only [hz, wE_gN, wipeD, List.set_cons_succ, List.set_cons_zero, wE_yes, if_true, wE_bin, wE_varS, wE_var0, wE_fn, wE_consA, wE_nilA, wE_ok, List.append_nil, raised_ok (a := p) (e := i) (B := 100) hpp.pos (by omega) (by omega)]
        rw [mulD_bits (B := 100) (by omega) (by simp; omega) (by rw [Int.natAbs_natCast]; omega), wE_ok]
        refine ⟨by simp, ?_⟩
        simp
      · rw [List.length_map, List.take_length] at hI
        subst hI
        refine ⟨G'.length, _, _, _, _, rfl, fr.trans Fr.new, ?_, by
          have := fr1.le
          have := fr.le
          omega⟩
        rw [tk, dvs_snoc]
        exact at_last
    · obtain ⟨q, x2, x3, x4, x5, rfl, fr, hq, hl⟩ := h
      rw [List.length_map, List.take_length] at hq
      simp only [wS_ret, wE_call, wE_consA, wE_varS, wE_var0, wE_nilA]
      have da := dvs_all hg
      rw [hp] at da
      have es : sortedKD [.ref q] G' = .ok (.ref G'.length) (G' ++ [.lst ((divs n).map natD)]) := by
        unfold sortedKD
        simp only [hq, sortedD, lstOf_lst hq, Option.bind_some]
        rw [natD_ints, intsD_map]
        show Rs.ok _ (G' ++ [.lst ((sortI _).map D.int)]) = _
        rw [sort_divs h1 da.1 da.2, natD_ints]
      rw [es, wE_ok]
      refine ⟨_, rfl, fr1.trans (fr.trans Fr.new), at_last, ?_⟩
      have := fr1.le
      have := fr.le
      omega
  obtain ⟨v, G', e1, p, rfl, h⟩ := wE_get goal
  exact ⟨p, G', e1, h⟩
end SX

set_option Elab.async false
set_option linter.all false
set_option maxRecDepth 100000
set_option maxHeartbeats 1000000
namespace SX
open PySem PySem.Spec PyProof.Rows L2 NT
/-! ### comprehensions over a list of known make -/
theorem lc_sel {α : Type} {G : Hq} {s : Src} {g : GF} {t : TF} {e : EF} {σ0 : Eq'} {Q : Hq → Prop} (l : List α) (g1 h : α → D) (p : α → Bool) (hlen : l.length ≤ 16777216) (src : ∀ (k : Nat) (acc : List D), s k (G ++ [.lst acc]) = gives (l.map g1) k)
    (turn : ∀ a ∈ l, ∀ acc : List D, wE (g (g1 a) σ0 (G ++ [.lst acc])) fun σ1 G1 => wE (t σ1 G1) fun x G2 => x = p a ∧ G2 = G ++ [.lst acc] ∧ (p a = true → wE (e σ1 G2) fun y G3 => y = h a ∧ G3 = G ++ [.lst acc]))
    (out : Q (G ++ [.lst ((l.filter p).map h)])) : wC (lcL s (lcTurn g t e σ0 G.length) 0 (G ++ [.lst []])) Q := by
  refine wC_imp (lcL_run (l.map g1) (fun k G' => G' = G ++ [.lst (((l.take k).filter p).map h)]) (fun k G' hI => by rw [hI]; exact src k _) (fun k d G' hd hI => ?_) (l.map g1).length 0 (G ++ [.lst []]) (by omega) (by simp)) fun G' hI => by
    rw [hI, List.length_map, List.take_length]
    exact out
  subst hI
  rw [List.getElem?_map] at hd
  have hex : ∃ a, l[k]? = some a ∧ g1 a = d := Option.map_eq_some_iff.mp hd
  cases hex
  rename_i a hae
  have ha := hae.1
  rw [← hae.2, wC_turn]
  have tk : l.take (k + 1) = l.take k ++ [a] := by
    rw [List.take_succ, ha] <;> rfl
  refine wE_imp (turn a (List.mem_of_getElem? ha) _) fun σ1 G1 q => wE_imp q fun x G2 ⟨ex, eG, q⟩ => ?_
  subst ex
  cases hp : p a with
  | true =>
    rw [if_pos rfl]
    refine wE_imp (q hp) fun y G3 ⟨ey, e3⟩ => ?_
    subst ey
    subst e3
    have hk : k < l.length := (List.getElem?_eq_some_iff.mp ha).1
    have lt : (((l.take k).filter p).map h).length < 16777216 := by
      rw [List.length_map]
      have h1 := List.length_filter_le p (l.take k)
      have h2 : (l.take k).length ≤ k := by
        rw [List.length_take]
        exact Nat.min_le_left _ _
      omega
    rw [wC_app (by simp) lt, app_last, tk, List.filter_append, List.map_append]
    simp [hp]
  | false =>
    rw [if_neg (by simp)]
    show G2 = _
    rw [eG, tk, List.filter_append, List.map_append]
    simp [hp]
theorem lc_map {α : Type} {G : Hq} {s : Src} {g : GF} {t : TF} {e : EF} {σ0 : Eq'} {Q : Hq → Prop} (l : List α) (g1 h : α → D) (hlen : l.length ≤ 16777216) (src : ∀ (k : Nat) (acc : List D), s k (G ++ [.lst acc]) = gives (l.map g1) k)
    (turn : ∀ a ∈ l, ∀ acc : List D, wE (g (g1 a) σ0 (G ++ [.lst acc])) fun σ1 G1 => wE (t σ1 G1) fun x G2 => x = true ∧ wE (e σ1 G2) fun y G3 => y = h a ∧ G3 = G ++ [.lst acc])
    (out : Q (G ++ [.lst (l.map h)])) (same : ∀ a ∈ l, ∀ acc : List D, wE (g (g1 a) σ0 (G ++ [.lst acc])) fun σ1 G1 => wE (t σ1 G1) fun x G2 => G2 = G ++ [.lst acc]) : wC (lcL s (lcTurn g t e σ0 G.length) 0 (G ++ [.lst []])) Q := by
  refine lc_sel l g1 h (fun _ => true) hlen src (fun a ha acc => ?_) (by
    have e : l.filter (fun _ => true) = l := List.filter_eq_self.mpr fun _ _ => rfl
    rw [e]
    exact out)
  have q1 := turn a ha acc
  have q2 := same a ha acc
  cases eg : g (g1 a) σ0 (G ++ [.lst acc]) with
  | ok σ1 G1 =>
    rw [eg] at q1 q2
    rw [wE_ok] at q1 q2 ⊢
    cases et : t σ1 G1 with
    | ok x G2 =>
      rw [et] at q1 q2
      exact ⟨q1.1, q2, fun _ => q1.2⟩
    | ex _ _ _ =>
      rw [et] at q1
      exact q1.elim
    | bad =>
      rw [et] at q1
      exact q1.elim
  | ex _ _ _ =>
    rw [eg] at q1
    exact q1.elim
  | bad =>
    rw [eg] at q1
    exact q1.elim
theorem wE_eq {α : Type} {r : Rs α} {a : α} {G1 : Hq} (h : wE r fun v G' => v = a ∧ G' = G1) : r = .ok a G1 := by
  cases r with
  | ok v G' =>
    obtain ⟨h1, h2⟩ := (show v = a ∧ G' = G1 from h)
    rw [h1, h2]
  | ex _ _ _ => exact h.elim
  | bad => exact h.elim
/-! ### repr, and two values that show alike -/
mutual
def fineP : PyData → Bool
  | .none => true
  | .bool _ => true
  | .int i => decide (i.natAbs.log2 < 1920)
  | .str x => x.cps.toList.all fun c => decide (c < 16 ^ 8)
  | .list xs => finePs xs
  | .tuple xs => finePs xs
  | .dict _ => false
def finePs : List PyData → Bool
  | [] => true
  | x :: xs => fineP x && finePs xs
end
mutual
def szP : PyData → Nat
  | .none => 4
  | .bool _ => 5
  | .int i => i.natAbs.log2 + 2
  | .str x => 10 * x.cps.size + 2
  | .list xs => szPs xs + 3
  | .tuple xs => szPs xs + 3
  | .dict _ => 0
def szPs : List PyData → Nat
  | [] => 0
  | x :: xs => szP x + 2 + szPs xs
end
mutual
theorem fine_show : ∀ d : PyData, fineP d = true → d.showable = true
  | .none, _ => by simp only [PyData.showable]
  | .bool _, _ => by simp only [PyData.showable]
  | .int i, h => by
    simp only [fineP] at h
    simpa only [PyData.showable] using h
  | .str x, _ => by simp only [PyData.showable]
  | .list xs, h => by
    simp only [fineP] at h
    simpa only [PyData.showable] using fine_shows xs h
  | .tuple xs, h => by
    simp only [fineP] at h
    simpa only [PyData.showable] using fine_shows xs h
  | .dict _, h => by simp [fineP] at h
theorem fine_shows : ∀ ds : List PyData, finePs ds = true → PyData.showableAll ds = true
  | [], _ => by simp only [PyData.showableAll]
  | x :: xs, h => by
    simp only [finePs, Bool.and_eq_true] at h
    simp only [PyData.showableAll, Bool.and_eq_true]
    exact ⟨fine_show x h.1, fine_shows xs h.2⟩
end
mutual
theorem fine_dict : ∀ d : PyData, fineP d = true → d.hasDict = false
  | .none, _ => by simp only [PyData.hasDict]
  | .bool _, _ => by simp only [PyData.hasDict]
  | .int i, h => by simp only [PyData.hasDict]
  | .str x, _ => by simp only [PyData.hasDict]
  | .list xs, h => by
    simp only [fineP] at h
    simpa only [PyData.hasDict] using fine_dicts xs h
  | .tuple xs, h => by
    simp only [fineP] at h
    simpa only [PyData.hasDict] using fine_dicts xs h
  | .dict _, h => by simp [fineP] at h
theorem fine_dicts : ∀ ds : List PyData, finePs ds = true → PyData.hasDictAll ds = false
  | [], _ => by simp only [PyData.hasDictAll]
  | x :: xs, h => by
    simp only [finePs, Bool.and_eq_true] at h
    simp only [PyData.hasDictAll, fine_dict x h.1, fine_dicts xs h.2, Bool.or_self]
end
theorem shownAll_len : ∀ ds : List PyData, (PyData.shownAll ds).length = ds.length
  | [] => by simp only [PyData.shownAll, List.length_nil]
  | x :: xs => by simp only [PyData.shownAll, List.length_cons, shownAll_len xs]
mutual
theorem shown_sz : ∀ d : PyData, fineP d = true → d.shown.length ≤ szP d
  | .none, _ => by
    have e : (PyData.shown .none).length = 4 := rfl
    simp only [szP]
    omega
  | .bool b, _ => by
    have e : (PyData.shown (.bool b)).length ≤ 5 := by cases b <;> decide
    simp only [szP]
    omega
  | .int i, h => by
    have e := int_text_length_le (a := i) (k := i.natAbs.log2 + 1) (by omega) (by omega)
    simp only [szP]
    show (Str.ofString (toString i)).length ≤ _
    rw [PySem.ofString_length]
    omega
  | .str x, h => by
    simp only [fineP, List.all_eq_true, decide_eq_true_eq] at h
    have e := StrLaws.reprText_len x h
    have e2 : x.length = x.cps.size := rfl
    simp only [szP, PyData.shown]
    omega
  | .list xs, h => by
    simp only [fineP] at h
    have h1 := shown_szs xs h
    have h2 := listText_len_le (PyData.shownAll xs)
    simp only [PyData.shown, szP]
    omega
  | .tuple xs, h => by
    simp only [fineP] at h
    have h1 := shown_szs xs h
    have h2 := tupleText_len_le (PyData.shownAll xs)
    simp only [PyData.shown, szP]
    omega
  | .dict _, h => by simp [fineP] at h
theorem shown_szs : ∀ ds : List PyData, finePs ds = true → ((PyData.shownAll ds).map (·.length)).sum + 2 * (PyData.shownAll ds).length ≤ szPs ds
  | [], _ => by simp [PyData.shownAll, szPs]
  | x :: xs, h => by
    simp only [finePs, Bool.and_eq_true] at h
    have h1 := shown_sz x h.1
    have h2 := shown_szs xs h.2
    simp only [PyData.shownAll, szPs, List.map_cons, List.sum_cons, List.length_cons]
    omega
end
section
variable {G : Hq}
theorem reprD_of {x : D} {a : PyData} (hx : toPy G 24 x = some a) (hf : fineP a = true) (hd : a.depth ≤ 60) (hs : szP a ≤ 16777216) : reprD [x] G = .ok (.str a.shown) G := by
  simp only [reprD, hx]
  rw [if_pos ⟨fine_show a hf, fine_dict a hf, hd, Nat.le_trans (shown_sz a hf) hs⟩]
@[simp] theorem eqD_str {neg : Bool} {a b : Str} : eqD neg (.str a) (.str b) G = .ok (.bl (if neg then !decide (a = b) else decide (a = b))) G := nd rfl
noncomputable def isB : SF := (retC (binC (eqD false) (callC reprD (consA (varC 0) nilA)) (callC reprD (consA (varC 1) nilA))))
noncomputable def isF : FF := bodyC 2 isB
theorem is_same {x y : D} {a : PyData} (hx : toPy G 24 x = some a) (hy : toPy G 24 y = some a) (hf : fineP a = true) (hd : a.depth ≤ 60) (hs : szP a ≤ 16777216) : isF [x, y] G = .ok (.bl true) G := by
  have goal : wE (isF [x, y] G) fun v G' => v = .bl true ∧ G' = G := by
    unfold isF
    rw [wE_body]
    show wS (isB [some x, some y] G) _ _ _ _
    unfold isB
    simp only [wS_ret, wE_bin, wE_call, wE_consA, wE_varS, wE_var0, wE_nilA, reprD_of hx hf hd hs, reprD_of hy hf hd hs, wE_ok, eqD_str]
    simp
  obtain ⟨v, G', e, rfl, rfl⟩ := wE_get goal
  exact e
@[simp] theorem toPy_int {n : Nat} {i : Int} : toPy G n (.int i) = some (.int i) := by
  cases n <;> rfl
@[simp] theorem toPy_str {n : Nat} {i : Str} : toPy G n (.str i) = some (.str i) := by
  cases n <;> rfl
@[simp] theorem toPy_bl {n : Nat} {i : Bool} : toPy G n (.bl i) = some (.bool i) := by
  cases n <;> rfl
@[simp] theorem toPy_non {n : Nat} : toPy G n .non = some .none := by
  cases n <;> rfl
theorem toPy_tup {n : Nat} {xs : List D} {ds : List PyData} (h : toPyL (toPy G n) xs = some ds) : toPy G (n + 1) (.tup xs) = some (.tuple ds) := by
  show (toPyL (toPy G n) xs).map _ = _
  rw [h] <;> rfl
theorem toPy_lst {n p : Nat} {xs : List D} {ds : List PyData} (hp : G[p]? = some (.lst xs)) (h : toPyL (toPy G n) xs = some ds) : toPy G (n + 1) (.ref p) = some (.list ds) := by
  show (match G[p]? with | some (.lst xs) => (toPyL (toPy G n) xs).map PyData.list | some (.ro xs) => (toPyL (toPy G n) xs).map PyData.list | _ => none) = _
  rw [hp]
  show (toPyL (toPy G n) xs).map _ = _
  rw [h] <;> rfl
theorem toPyL_nil {f : D → Option PyData} : toPyL f [] = some [] := rfl
theorem toPyL_cons {f : D → Option PyData} {x : D} {xs : List D} {a : PyData} {ds : List PyData} (h1 : f x = some a) (h2 : toPyL f xs = some ds) : toPyL f (x :: xs) = some (a :: ds) := by
  unfold toPyL
  rw [h1, h2]
theorem toPyL_map {α : Type} {f : D → Option PyData} {g : α → D} {h : α → PyData} : ∀ {l : List α}, (∀ a ∈ l, f (g a) = some (h a)) → toPyL f (l.map g) = some (l.map h)
  | [], _ => rfl
  | a :: l, q => toPyL_cons (q a (List.mem_cons_self ..)) (toPyL_map fun b hb => q b (List.mem_cons_of_mem _ hb))
end
theorem fine_map {α : Type} {h : α → PyData} : ∀ {l : List α}, (∀ a ∈ l, fineP (h a) = true) → finePs (l.map h) = true
  | [], _ => by simp only [List.map_nil, finePs]
  | a :: l, q => by
    simp only [List.map_cons, finePs, Bool.and_eq_true]
    exact ⟨q a (List.mem_cons_self ..), fine_map fun b hb => q b (List.mem_cons_of_mem _ hb)⟩
theorem sz_map {α : Type} {h : α → PyData} {B : Nat} : ∀ {l : List α}, (∀ a ∈ l, szP (h a) + 2 ≤ B) → szPs (l.map h) ≤ B * l.length
  | [], _ => by simp [szPs]
  | a :: l, q => by
    have h1 := q a (List.mem_cons_self ..)
    have h2 := sz_map (B := B) (l := l) fun b hb => q b (List.mem_cons_of_mem _ hb)
    simp only [List.map_cons, szPs, List.length_cons]
    rw [Nat.mul_add]
    omega
theorem depth_map {α : Type} {h : α → PyData} {B : Nat} : ∀ {l : List α}, (∀ a ∈ l, (h a).depth ≤ B) → PyData.depthAll (l.map h) ≤ B
  | [], _ => by simp [PyData.depthAll]
  | a :: l, q => by
    have h1 := q a (List.mem_cons_self ..)
    have h2 := depth_map (B := B) (l := l) fun b hb => q b (List.mem_cons_of_mem _ hb)
    simp only [List.map_cons, PyData.depthAll]
    omega
theorem fine_int {i : Int} {k : Nat} (h : i.natAbs < 2 ^ k) (hk : k ≤ 1920) : fineP (.int i) = true := by
  simp only [fineP]
  refine decide_eq_true ?_
  by_cases z : i.natAbs = 0
  · rw [z]
    decide
  · exact Nat.lt_of_lt_of_le ((Nat.log2_lt z).mpr h) hk
theorem sz_int {i : Int} {k : Nat} (h : i.natAbs < 2 ^ k) (hk : 0 < k) : szP (.int i) ≤ k + 1 := by
  simp only [szP]
  by_cases z : i.natAbs = 0
  · rw [z]
    simp
    omega
  · have := (Nat.log2_lt z).mpr h
    omega
end SX

set_option Elab.async false
set_option linter.all false
set_option maxRecDepth 100000
set_option maxHeartbeats 1000000
namespace SX
open PySem PySem.Spec PyProof.Rows L2 NT
section
variable {G : Hq} {n d : Nat}
theorem draw_of {b : Int} {Q : D → Hq → Prop} (h : Dk n G d) (hn : n < 2 ^ 200) (h1 : 0 < b) (h2 : b.natAbs < 2 ^ 400) (q : ∀ (r : Nat) G', (r : Int) < b → Dk (n + 1) G' d → Fr [d] G G' → Q (.int r) G') : wE (drawF [.ref d, .int b] G) Q := by
  refine wE_imp (draw_ok h hn h1 h2) fun v G' hv => ?_
  obtain ⟨r, rfl, h0, hb, hd, hf, _⟩ := hv
  have e : r = ((r.toNat : Nat) : Int) := by omega
  rw [e]
  exact q r.toNat G' (by omega) hd hf
/-- an item of a written list, drawn -/
theorem pick_of {b : Int} {xs : List D} {Q : D → Hq → Prop} (h : Dk n G d) (hn : n < 2 ^ 200) (hb : b = (xs.length : Int)) (h1 : 0 < xs.length) (h2 : xs.length < 2 ^ 60) (q : ∀ x ∈ xs, ∀ G', Dk (n + 1) G' d → Fr [d] G G' → Q x G') :
    wE (drawF [.ref d, .int b] (G ++ [.lst xs])) fun y G2 => wE (ixD (.ref G.length) y G2) Q := by
  have hd := h.fr (Fr.new (c := .lst xs))
  refine draw_of hd hn (by omega) (by omega) fun r G' hr hd' hf => ?_
  have hg : G'[G.length]? = some (.lst xs) := hf.get at_last (by
    have := h.lt
    simp
    omega)
  have hr' : r < xs.length := by omega
  rw [ixD_lst hg, atI_at hr', oneD_some, wE_ok]
  exact q _ (List.getElem_mem hr') G' hd' (Fr.new.trans hf)
end
end SX

set_option Elab.async false
set_option linter.all false
set_option maxRecDepth 100000
set_option maxHeartbeats 4000000
namespace Yk02
open PySem PySem.Spec PyProof.Rows L2 SX
def topS (i : Nat) : Stmt := PySem.Challenge.pw_everyterm_k02_divisors.main.body.getD i (.Pass ⟨0, 0, 0, 0⟩)
abbrev st_raised : Stmt := topS 1
abbrev st_primes_of : Stmt := topS 2
abbrev st_divisors : Stmt := topS 3
abbrev st_divisor_sum : Stmt := topS 4
abbrev st__law_deck : Stmt := topS 6
abbrev st__law_power : Stmt := topS 7
abbrev st__law_draw : Stmt := topS 8
abbrev st__law_is : Stmt := topS 9
abbrev st__law_divisors : Stmt := topS 10
abbrev st__law_is_prime : Stmt := topS 11
abbrev st_law : Stmt := topS 12
structure Fx (K : PySem.W.Frag) (mg : Str → Option Value) where
  d_raised : FuncData
  F_raised : L2.FunD K "raised" "raised" (defArgs st_raised) (defBody st_raised) (defScope st_raised) [] [] (He.ga K "raised") d_raised
  m_raised : mg "raised" = some (.ref (He.ga K "raised"))
  d_primes_of : FuncData
  F_primes_of : L2.FunD K "primes_of" "primes_of" (defArgs st_primes_of) (defBody st_primes_of) (defScope st_primes_of) [] [] (He.ga K "primes_of") d_primes_of
  m_primes_of : mg "primes_of" = some (.ref (He.ga K "primes_of"))
  d_divisors : FuncData
  F_divisors : L2.FunD K "divisors" "divisors" (defArgs st_divisors) (defBody st_divisors) (defScope st_divisors) [] [] (He.ga K "divisors") d_divisors
  m_divisors : mg "divisors" = some (.ref (He.ga K "divisors"))
  d_divisor_sum : FuncData
  F_divisor_sum : L2.FunD K "divisor_sum" "divisor_sum" (defArgs st_divisor_sum) (defBody st_divisor_sum) (defScope st_divisor_sum) [] [] (He.ga K "divisor_sum") d_divisor_sum
  m_divisor_sum : mg "divisor_sum" = some (.ref (He.ga K "divisor_sum"))
  d__law_deck : FuncData
  F__law_deck : L2.FunD K "_law_deck" "_law_deck" (defArgs st__law_deck) (defBody st__law_deck) (defScope st__law_deck) [] [] (He.ga K "_law_deck") d__law_deck
  m__law_deck : mg "_law_deck" = some (.ref (He.ga K "_law_deck"))
  d__law_power : FuncData
  F__law_power : L2.FunD K "_law_power" "_law_power" (defArgs st__law_power) (defBody st__law_power) (defScope st__law_power) [] [] (He.ga K "_law_power") d__law_power
  m__law_power : mg "_law_power" = some (.ref (He.ga K "_law_power"))
  d__law_draw : FuncData
  F__law_draw : L2.FunD K "_law_draw" "_law_draw" (defArgs st__law_draw) (defBody st__law_draw) (defScope st__law_draw) [] [] (He.ga K "_law_draw") d__law_draw
  m__law_draw : mg "_law_draw" = some (.ref (He.ga K "_law_draw"))
  d__law_is : FuncData
  F__law_is : L2.FunD K "_law_is" "_law_is" (defArgs st__law_is) (defBody st__law_is) (defScope st__law_is) [] [] (He.ga K "_law_is") d__law_is
  m__law_is : mg "_law_is" = some (.ref (He.ga K "_law_is"))
  d__law_divisors : FuncData
  F__law_divisors : L2.FunD K "_law_divisors" "_law_divisors" (defArgs st__law_divisors) (defBody st__law_divisors) (defScope st__law_divisors) [] [] (He.ga K "_law_divisors") d__law_divisors
  m__law_divisors : mg "_law_divisors" = some (.ref (He.ga K "_law_divisors"))
  d__law_is_prime : FuncData
  F__law_is_prime : L2.FunD K "_law_is_prime" "_law_is_prime" (defArgs st__law_is_prime) (defBody st__law_is_prime) (defScope st__law_is_prime) [] [] (He.ga K "_law_is_prime") d__law_is_prime
  m__law_is_prime : mg "_law_is_prime" = some (.ref (He.ga K "_law_is_prime"))
  d_law : FuncData
  F_law : L2.FunD K "law" "law" (defArgs st_law) (defBody st_law) (defScope st_law) [] [] (He.ga K "law") d_law
  m_law : mg "law" = some (.ref (He.ga K "law"))
  b_abs : mg "abs" = none
  b_all : mg "all" = none
  b_int : mg "int" = none
  b_len : mg "len" = none
  b_list : mg "list" = none
  b_range : mg "range" = none
  b_repr : mg "repr" = none
  b_sorted : mg "sorted" = none
  b_sum : mg "sum" = none
section
variable {P : Program} {w : World} {K : PySem.W.Frag} {mg : Str → Option Value} {base : Heap}
/-! raised -/
noncomputable def raised_b : SF :=
  (seqC (setC 2 (cC (.int 1)))
    (seqC (whileC (valT (binC (cmpD fun i j => decide (j < i)) (varC 1) (cC (.int 0)))) (seqC (ifS (valT (binC (eqD false) (binC modD (varC 1) (cC (.int 2))) (cC (.int 1)))) (augC 2 imulD (varC 0)) passC)
    (seqC (augC 1 fdivD (cC (.int 2)))
    (ifS (valT (binC (cmpD fun i j => decide (j < i)) (varC 1) (cC (.int 0)))) (augC 0 imulD (varC 0)) passC))))
    (retC (varC 2))))
noncomputable def raised_c : FF := bodyC 3 raised_b
abbrev N_raised : List Str := ["a", "e", "found"]
theorem sc_raised : FnScope N_raised ["a", "e"] (defScope st_raised) := ⟨rfl, rfl, rfl, by decide +kernel, rfl, by decide +kernel, by decide +kernel⟩
theorem bd_raised (T : Fx K mg) : Binds K T.d_raised ["a", "e"] [] := T.F_raised.bindsN fun _ _ _ _ _ _ us hl => match us, hl with | [_, _], _ => rfl
theorem ok_raised (T : Fx K mg) : FnG P w K mg base 1 (He.ga K "raised") T.d_raised ["a", "e"] (spF K mg 2 raised_c) :=
  defOk (N := N_raised) (k := 0) T.F_raised sc_raised fun cdv A out s H E C =>
    (xss_cons (xs_set 2 C.nd xe_int)
    (xss_cons (xs_while C.hp (xt_cmpR f_gt (xe_var 1) xe_int (nomark _)) (xss_cons (xs_if (xt_cmpR (f_eq C) (xe_bin f_mod (xe_var 1) xe_int) xe_int (nomark _)) (xss_one (xs_aug 2 C.nd f_imul (xe_var 0))) xss_nil)
    (xss_cons (xs_aug 1 C.nd f_ifdiv xe_int)
    (xss_one (xs_if (xt_cmpR f_gt (xe_var 1) xe_int (nomark _)) (xss_one (xs_aug 0 C.nd f_imul (xe_var 0))) xss_nil)))))
    (xss_one (xs_ret (xe_var 2)))))
/-! primes_of -/
noncomputable def primes_of_b : SF :=
  (seqC (setC 1 (lstC nilA))
    (seqC (setC 2 (cC (.int 2)))
    (seqC (whileC (valT (binC (cmpD fun i j => decide (i ≤ j)) (binC mulD (varC 2) (varC 2)) (varC 0))) (seqC (setC 3 (cC (.int 0)))
    (seqC (whileC (valT (binC (eqD false) (binC modD (varC 0) (varC 2)) (cC (.int 0)))) (seqC (augC 0 fdivD (varC 2))
    (augC 3 iaddD (cC (.int 1)))))
    (seqC (ifS (valT (binC (cmpD fun i j => decide (j < i)) (varC 3) (cC (.int 0)))) (exprC (methC isL appendD (varC 1) (consA (tupC (consA (varC 2) (consA (varC 3) nilA))) nilA))) passC)
    (augC 2 iaddD (ifC (valT (binC (eqD false) (varC 2) (cC (.int 2)))) (cC (.int 1)) (cC (.int 2))))))))
    (seqC (ifS (valT (binC (cmpD fun i j => decide (j < i)) (varC 0) (cC (.int 1)))) (exprC (methC isL appendD (varC 1) (consA (tupC (consA (varC 0) (consA (cC (.int 1)) nilA))) nilA))) passC)
    (retC (varC 1))))))
noncomputable def primes_of_c : FF := bodyC 4 primes_of_b
abbrev N_primes_of : List Str := ["n", "found", "prime", "count"]
theorem sc_primes_of : FnScope N_primes_of ["n"] (defScope st_primes_of) := ⟨rfl, rfl, rfl, by decide +kernel, rfl, by decide +kernel, by decide +kernel⟩
theorem bd_primes_of (T : Fx K mg) : Binds K T.d_primes_of ["n"] [] := T.F_primes_of.bindsN fun _ _ _ _ _ _ us hl => match us, hl with | [_], _ => rfl
theorem ok_primes_of (T : Fx K mg) : FnG P w K mg base 1 (He.ga K "primes_of") T.d_primes_of ["n"] (spF K mg 1 primes_of_c) :=
  defOk (N := N_primes_of) (k := 0) T.F_primes_of sc_primes_of fun cdv A out s H E C =>
    (xss_cons (xs_set 1 C.nd (xe_lst xa_nil aLen_nil))
    (xss_cons (xs_set 2 C.nd xe_int)
    (xss_cons (xs_while C.hp (xt_cmpR f_le (xe_bin f_mul (xe_var 2) (xe_var 2)) (xe_var 0) (nomark _)) (xss_cons (xs_set 3 C.nd xe_int)
    (xss_cons (xs_while C.hp (xt_cmpR (f_eq C) (xe_bin f_mod (xe_var 0) (xe_var 2)) xe_int (nomark _)) (xss_cons (xs_aug 0 C.nd f_ifdiv (xe_var 2))
    (xss_one (xs_aug 3 C.nd f_iadd xe_int))))
    (xss_cons (xs_if (xt_cmpR f_gt (xe_var 3) xe_int (nomark _)) (xss_one (xs_expr (xe_bm PySem.F.plainAttrs_list PySem.F.slot_list_append m_append isL_ty (xe_var 1) (xa_cons (xe_tup (xa_cons (xe_var 2) (xa_cons (xe_var 3) xa_nil)) (aLen_cons (aLen_cons aLen_nil))) xa_nil) m_append_ty))) xss_nil)
    (xss_one (xs_aug 2 C.nd f_iadd (xe_if (xt_cmpR (f_eq C) (xe_var 2) xe_int (nomark _)) xe_int xe_int)))))))
    (xss_cons (xs_if (xt_cmpR f_gt (xe_var 0) xe_int (nomark _)) (xss_one (xs_expr (xe_bm PySem.F.plainAttrs_list PySem.F.slot_list_append m_append isL_ty (xe_var 1) (xa_cons (xe_tup (xa_cons (xe_var 0) (xa_cons xe_int xa_nil)) (aLen_cons (aLen_cons aLen_nil))) xa_nil) m_append_ty))) xss_nil)
    (xss_one (xs_ret (xe_var 1)))))))
/-! divisors -/
noncomputable def divisors_b : SF :=
  (seqC (setC 1 (lstC (consA (cC (.int 1)) nilA)))
    (seqC (forC (iterC (fnC primes_of_c [] (consA (varC 0) nilA))) (gTp 2 (gCs (gN 2) (gCs (gN 3) gNl))) (setC 1 (lc2C (iterC (varC 1)) (gN 4) yesT (srcC rangeD (consA (binC addD (varC 3) (cC (.int 1))) nilA)) (gN 5) yesT (binC mulD (varC 4) (fnC raised_c [] (consA (varC 2) (consA (varC 5) nilA)))) [4, 5] [5])))
    (retC (callC sortedKD (consA (varC 1) nilA)))))
noncomputable def divisors_c : FF := bodyC 6 divisors_b
abbrev N_divisors : List Str := ["n", "found", "prime", "count", "part", "number"]
theorem sc_divisors : FnScope N_divisors ["n"] (defScope st_divisors) := ⟨rfl, rfl, rfl, by decide +kernel, rfl, by decide +kernel, by decide +kernel⟩
theorem bd_divisors (T : Fx K mg) : Binds K T.d_divisors ["n"] [] := T.F_divisors.bindsN fun _ _ _ _ _ _ us hl => match us, hl with | [_], _ => rfl
theorem ok_divisors (T : Fx K mg) : FnG P w K mg base 2 (He.ga K "divisors") T.d_divisors ["n"] (spF K mg 1 divisors_c) :=
  defOk (N := N_divisors) (k := 1) T.F_divisors sc_divisors fun cdv A out s H E C =>
    (xss_cons (xs_set 1 C.nd (xe_lst (xa_cons xe_int xa_nil) (aLen_cons aLen_nil)))
    (xss_cons (xs_for C.hp C.calm (xi_val (xe_call C ((ok_primes_of T).mono (by decide)) T.m_primes_of T.F_primes_of.kp (bd_primes_of T) .nil (xa_cons (xe_var 0) xa_nil) (aLen_cons aLen_nil))) (xg_tup C.calm (xgs_cons (xg_name 2 C.nd) (xgs_cons (xg_name 3 C.nd) xgs_nil))) (xss_one (xs_setLc2 1 C (own := [("part", 4), ("number", 5)]) (vs1 := [5]) (xi_val (xe_var 1)) (by show blkC N_divisors (defScope st_divisors) _ _ = true; decide +kernel) (by decide) (fun _ _ _ _ _ => (xgw_name 4 C.nd)) (fun _ _ _ _ _ C' => xts_nil) (fun _ _ _ _ _ C' => (xi_range1 T.b_range (xa_cons (xe_bin f_add (xe_var 3) xe_int) xa_nil) (aLen_cons aLen_nil))) (fun _ _ _ _ _ => (xgw_name 5 C.nd)) (fun _ _ _ _ _ C' => xts_nil) (fun _ _ _ _ _ C' => (xe_bin f_mul (xe_var 4) (xe_call C' ((ok_raised T).mono (by decide)) T.m_raised T.F_raised.kp (bd_raised T) .nil (xa_cons (xe_var 2) (xa_cons (xe_var 5) xa_nil)) (aLen_cons (aLen_cons aLen_nil))))) (sw_true rfl rfl rfl (by decide +kernel)))))
    (xss_one (xs_ret (xe_callB (f_sortedK C) T.b_sorted (xa_cons (xe_var 1) xa_nil))))))
/-! divisor_sum -/
noncomputable def divisor_sum_b : SF :=
  (retC (callC sumD (consA (lcC (iterC (fnC divisors_c [] (consA (varC 1) nilA))) (gN 2) yesT (fnC raised_c [] (consA (varC 2) (consA (varC 0) nilA))) [2]) nilA)))
noncomputable def divisor_sum_c : FF := bodyC 3 divisor_sum_b
abbrev N_divisor_sum : List Str := ["k", "n", "part"]
theorem sc_divisor_sum : FnScope N_divisor_sum ["k", "n"] (defScope st_divisor_sum) := ⟨rfl, rfl, rfl, by decide +kernel, rfl, by decide +kernel, by decide +kernel⟩
theorem bd_divisor_sum (T : Fx K mg) : Binds K T.d_divisor_sum ["k", "n"] [] := T.F_divisor_sum.bindsN fun _ _ _ _ _ _ us hl => match us, hl with | [_, _], _ => rfl
theorem ok_divisor_sum (T : Fx K mg) : FnG P w K mg base 3 (He.ga K "divisor_sum") T.d_divisor_sum ["k", "n"] (spF K mg 2 divisor_sum_c) :=
  defOk (N := N_divisor_sum) (k := 2) T.F_divisor_sum sc_divisor_sum fun cdv A out s H E C =>
    (xss_one (xs_ret (xe_callB (f_sum C) T.b_sum (xa_cons (xe_lc C (own := [("part", 2)]) (xi_val (xe_call C ((ok_divisors T).mono (by decide)) T.m_divisors T.F_divisors.kp (bd_divisors T) .nil (xa_cons (xe_var 1) xa_nil) (aLen_cons aLen_nil))) (by show blkC N_divisor_sum (defScope st_divisor_sum) _ _ = true; decide +kernel) (fun _ _ _ _ _ => (xgw_name 2 C.nd)) (fun _ _ _ _ _ C' => xts_nil) (fun _ _ _ _ _ C' => (xe_call C' ((ok_raised T).mono (by decide)) T.m_raised T.F_raised.kp (bd_raised T) .nil (xa_cons (xe_var 2) (xa_cons (xe_var 0) xa_nil)) (aLen_cons (aLen_cons aLen_nil))))) xa_nil))))
/-! _law_deck -/
noncomputable def _law_deck_b : SF :=
  (seqC (setC 1 (cC (.int 7)))
    (seqC (forC (iterC (varC 0)) (gN 2) (setC 1 (binC modD (callC intD (consA (binC addD (binC mulD (varC 1) (cC (.int 48271))) (varC 2)) nilA)) (cC (.int 2147483647)))))
    (retC (lstC (consA (cC (.int 0)) (consA (cC (.int 0)) (consA (varC 1) (consA (callC listD (consA (varC 0) nilA)) (consA (cC (.int 0)) nilA)))))))))
noncomputable def _law_deck_c : FF := bodyC 3 _law_deck_b
abbrev N__law_deck : List Str := ["script", "seed", "cell"]
theorem sc__law_deck : FnScope N__law_deck ["script"] (defScope st__law_deck) := ⟨rfl, rfl, rfl, by decide +kernel, rfl, by decide +kernel, by decide +kernel⟩
theorem bd__law_deck (T : Fx K mg) : Binds K T.d__law_deck ["script"] [] := T.F__law_deck.bindsN fun _ _ _ _ _ _ us hl => match us, hl with | [_], _ => rfl
theorem ok__law_deck (T : Fx K mg) : FnG P w K mg base 1 (He.ga K "_law_deck") T.d__law_deck ["script"] (spF K mg 1 _law_deck_c) :=
  defOk (N := N__law_deck) (k := 0) T.F__law_deck sc__law_deck fun cdv A out s H E C =>
    (xss_cons (xs_set 1 C.nd xe_int)
    (xss_cons (xs_for C.hp C.calm (xi_val (xe_var 0)) (xg_name 2 C.nd) (xss_one (xs_set 1 C.nd (xe_bin f_mod (xe_callT f_int T.b_int (xa_cons (xe_bin f_add (xe_bin f_mul (xe_var 1) xe_int) (xe_var 2)) xa_nil)) xe_int))))
    (xss_one (xs_ret (xe_lst (xa_cons xe_int (xa_cons xe_int (xa_cons (xe_var 1) (xa_cons (xe_callT f_list T.b_list (xa_cons (xe_var 0) xa_nil)) (xa_cons xe_int xa_nil))))) (aLen_cons (aLen_cons (aLen_cons (aLen_cons (aLen_cons aLen_nil))))))))))
/-! _law_power -/
noncomputable def _law_power_b : SF :=
  (seqC (setC 2 (cC (.int 1)))
    (seqC (forC (srcC rangeD (consA (varC 1) nilA)) (gN 3) (setC 2 (binC mulD (varC 2) (varC 0))))
    (retC (varC 2))))
noncomputable def _law_power_c : FF := bodyC 4 _law_power_b
abbrev N__law_power : List Str := ["a", "e", "found", "turn"]
theorem sc__law_power : FnScope N__law_power ["a", "e"] (defScope st__law_power) := ⟨rfl, rfl, rfl, by decide +kernel, rfl, by decide +kernel, by decide +kernel⟩
theorem bd__law_power (T : Fx K mg) : Binds K T.d__law_power ["a", "e"] [] := T.F__law_power.bindsN fun _ _ _ _ _ _ us hl => match us, hl with | [_, _], _ => rfl
theorem ok__law_power (T : Fx K mg) : FnG P w K mg base 1 (He.ga K "_law_power") T.d__law_power ["a", "e"] (spF K mg 2 _law_power_c) :=
  defOk (N := N__law_power) (k := 0) T.F__law_power sc__law_power fun cdv A out s H E C =>
    (xss_cons (xs_set 2 C.nd xe_int)
    (xss_cons (xs_for C.hp C.calm (xi_range1 T.b_range (xa_cons (xe_var 1) xa_nil) (aLen_cons aLen_nil)) (xg_name 3 C.nd) (xss_one (xs_set 2 C.nd (xe_bin f_mul (xe_var 2) (xe_var 0)))))
    (xss_one (xs_ret (xe_var 2)))))
/-! _law_draw -/
noncomputable def _law_draw_b : SF :=
  (seqC (ifS (andT (valT (binC (eqD false) (binC ixD (varC 0) (cC (.int 0))) (cC (.int 0)))) (valT (binC (cmpD fun i j => decide (i < j)) (binC ixD (varC 0) (cC (.int 1))) (callC lenD (consA (binC ixD (varC 0) (cC (.int 3))) nilA))))) (seqC (asgC (callC absD (consA (binC ixD (binC ixD (varC 0) (cC (.int 3))) (binC ixD (varC 0) (cC (.int 1)))) nilA)) (gSubC setD (varC 0) (cC (.int 0))))
    (asgC (binC addD (binC ixD (varC 0) (cC (.int 1))) (cC (.int 1))) (gSubC setD (varC 0) (cC (.int 1))))) (ifS (valT (binC (eqD false) (binC ixD (varC 0) (cC (.int 0))) (cC (.int 0)))) (seqC (asgC (binC addD (binC ixD (varC 0) (cC (.int 4))) (cC (.int 1))) (gSubC setD (varC 0) (cC (.int 4))))
    (seqC (setC 3 (binC modD (callC intD (consA (binC addD (binC addD (binC mulD (binC ixD (varC 0) (cC (.int 2))) (cC (.int 48271))) (binC mulD (binC ixD (varC 0) (cC (.int 4))) (cC (.int 69621)))) (cC (.int 12345))) nilA)) (cC (.int 2147483647))))
    (seqC (setC 3 (binC modD (callC intD (consA (binC addD (binC addD (binC mulD (varC 3) (varC 3)) (binC mulD (cC (.int 16807)) (binC ixD (varC 0) (cC (.int 4))))) (cC (.int 7))) nilA)) (cC (.int 998244353))))
    (seqC (setC 3 (binC modD (callC intD (consA (binC addD (binC addD (binC mulD (varC 3) (varC 3)) (binC mulD (cC (.int 48271)) (binC ixD (varC 0) (cC (.int 4))))) (binC ixD (varC 0) (cC (.int 2)))) nilA)) (cC (.int 2147483629))))
    (asgC (binC fdivD (varC 3) (cC (.int 13))) (gSubC setD (varC 0) (cC (.int 0)))))))) passC))
    (seqC (setC 2 (binC modD (callC intD (consA (binC ixD (varC 0) (cC (.int 0))) nilA)) (varC 1)))
    (seqC (asgC (binC fdivD (binC ixD (varC 0) (cC (.int 0))) (varC 1)) (gSubC setD (varC 0) (cC (.int 0))))
    (retC (varC 2)))))
noncomputable def _law_draw_c : FF := bodyC 4 _law_draw_b
abbrev N__law_draw : List Str := ["deck", "bound", "value", "number"]
theorem sc__law_draw : FnScope N__law_draw ["deck", "bound"] (defScope st__law_draw) := ⟨rfl, rfl, rfl, by decide +kernel, rfl, by decide +kernel, by decide +kernel⟩
theorem bd__law_draw (T : Fx K mg) : Binds K T.d__law_draw ["deck", "bound"] [] := T.F__law_draw.bindsN fun _ _ _ _ _ _ us hl => match us, hl with | [_, _], _ => rfl
theorem ok__law_draw (T : Fx K mg) : FnG P w K mg base 1 (He.ga K "_law_draw") T.d__law_draw ["deck", "bound"] (spF K mg 2 _law_draw_c) :=
  defOk (N := N__law_draw) (k := 0) T.F__law_draw sc__law_draw fun cdv A out s H E C =>
    (xss_cons (xs_if ((xw_and (xt_cmpR (f_eq C) (xe_ix (f_ix C) (xe_var 0) xe_int) xe_int (nomark _)) (xw_and1 (xt_cmpR f_lt (xe_ix (f_ix C) (xe_var 0) xe_int) (xe_callB f_len T.b_len (xa_cons (xe_ix (f_ix C) (xe_var 0) xe_int) xa_nil)) (nomark _))))).pt (xss_cons (xs_asg (xe_callB f_abs T.b_abs (xa_cons (xe_ix (f_ix C) (xe_ix (f_ix C) (xe_var 0) xe_int) (xe_ix (f_ix C) (xe_var 0) xe_int)) xa_nil)) (xg_sub (W := fun _ => E) (f_set C) (xe_var 0) xe_int))
    (xss_one (xs_asg (xe_bin f_add (xe_ix (f_ix C) (xe_var 0) xe_int) xe_int) (xg_sub (W := fun _ => E) (f_set C) (xe_var 0) xe_int)))) (xss_one (xs_if (xt_cmpR (f_eq C) (xe_ix (f_ix C) (xe_var 0) xe_int) xe_int (nomark _)) (xss_cons (xs_asg (xe_bin f_add (xe_ix (f_ix C) (xe_var 0) xe_int) xe_int) (xg_sub (W := fun _ => E) (f_set C) (xe_var 0) xe_int))
    (xss_cons (xs_set 3 C.nd (xe_bin f_mod (xe_callT f_int T.b_int (xa_cons (xe_bin f_add (xe_bin f_add (xe_bin f_mul (xe_ix (f_ix C) (xe_var 0) xe_int) xe_int) (xe_bin f_mul (xe_ix (f_ix C) (xe_var 0) xe_int) xe_int)) xe_int) xa_nil)) xe_int))
    (xss_cons (xs_set 3 C.nd (xe_bin f_mod (xe_callT f_int T.b_int (xa_cons (xe_bin f_add (xe_bin f_add (xe_bin f_mul (xe_var 3) (xe_var 3)) (xe_bin f_mul xe_int (xe_ix (f_ix C) (xe_var 0) xe_int))) xe_int) xa_nil)) xe_int))
    (xss_cons (xs_set 3 C.nd (xe_bin f_mod (xe_callT f_int T.b_int (xa_cons (xe_bin f_add (xe_bin f_add (xe_bin f_mul (xe_var 3) (xe_var 3)) (xe_bin f_mul xe_int (xe_ix (f_ix C) (xe_var 0) xe_int))) (xe_ix (f_ix C) (xe_var 0) xe_int)) xa_nil)) xe_int))
    (xss_one (xs_asg (xe_bin f_fdiv (xe_var 3) xe_int) (xg_sub (W := fun _ => E) (f_set C) (xe_var 0) xe_int))))))) xss_nil)))
    (xss_cons (xs_set 2 C.nd (xe_bin f_mod (xe_callT f_int T.b_int (xa_cons (xe_ix (f_ix C) (xe_var 0) xe_int) xa_nil)) (xe_var 1)))
    (xss_cons (xs_asg (xe_bin f_fdiv (xe_ix (f_ix C) (xe_var 0) xe_int) (xe_var 1)) (xg_sub (W := fun _ => E) (f_set C) (xe_var 0) xe_int))
    (xss_one (xs_ret (xe_var 2))))))
/-! _law_is -/
noncomputable def _law_is_b : SF :=
  (retC (binC (eqD false) (callC reprD (consA (varC 0) nilA)) (callC reprD (consA (varC 1) nilA))))
noncomputable def _law_is_c : FF := bodyC 2 _law_is_b
abbrev N__law_is : List Str := ["value", "due"]
theorem sc__law_is : FnScope N__law_is ["value", "due"] (defScope st__law_is) := ⟨rfl, rfl, rfl, by decide +kernel, rfl, by decide +kernel, by decide +kernel⟩
theorem bd__law_is (T : Fx K mg) : Binds K T.d__law_is ["value", "due"] [] := T.F__law_is.bindsN fun _ _ _ _ _ _ us hl => match us, hl with | [_, _], _ => rfl
theorem ok__law_is (T : Fx K mg) : FnG P w K mg base 1 (He.ga K "_law_is") T.d__law_is ["value", "due"] (spF K mg 2 _law_is_c) :=
  defOk (N := N__law_is) (k := 0) T.F__law_is sc__law_is fun cdv A out s H E C =>
    (xss_one (xs_ret (xe_cmp (f_eq C) (xe_callB (f_repr C) T.b_repr (xa_cons (xe_var 0) xa_nil)) (xe_callB (f_repr C) T.b_repr (xa_cons (xe_var 1) xa_nil)) (nomark _))))
/-! _law_divisors -/
noncomputable def _law_divisors_b : SF :=
  (retC (lcC (srcC rangeD (consA (cC (.int 1)) (consA (binC addD (varC 0) (cC (.int 1))) nilA))) (gN 1) (valT (binC (eqD false) (binC modD (callC intD (consA (varC 0) nilA)) (varC 1)) (cC (.int 0)))) (varC 1) [1]))
noncomputable def _law_divisors_c : FF := bodyC 2 _law_divisors_b
abbrev N__law_divisors : List Str := ["n", "k"]
theorem sc__law_divisors : FnScope N__law_divisors ["n"] (defScope st__law_divisors) := ⟨rfl, rfl, rfl, by decide +kernel, rfl, by decide +kernel, by decide +kernel⟩
theorem bd__law_divisors (T : Fx K mg) : Binds K T.d__law_divisors ["n"] [] := T.F__law_divisors.bindsN fun _ _ _ _ _ _ us hl => match us, hl with | [_], _ => rfl
theorem ok__law_divisors (T : Fx K mg) : FnG P w K mg base 1 (He.ga K "_law_divisors") T.d__law_divisors ["n"] (spF K mg 1 _law_divisors_c) :=
  defOk (N := N__law_divisors) (k := 0) T.F__law_divisors sc__law_divisors fun cdv A out s H E C =>
    (xss_one (xs_ret (xe_lc C (own := [("k", 1)]) (xi_range2 T.b_range (xa_cons xe_int (xa_cons (xe_bin f_add (xe_var 0) xe_int) xa_nil)) (aLen_cons (aLen_cons aLen_nil))) (by show blkC N__law_divisors (defScope st__law_divisors) _ _ = true; decide +kernel) (fun _ _ _ _ _ => (xgw_name 1 C.nd)) (fun _ _ _ _ _ C' => (xts_one (xt_cmpR (f_eq C') (xe_bin f_mod (xe_callT f_int T.b_int (xa_cons (xe_var 0) xa_nil)) (xe_var 1)) xe_int (nomark _)))) (fun _ _ _ _ _ C' => (xe_var 1)))))
/-! _law_is_prime -/
noncomputable def _law_is_prime_b : SF :=
  (retC (andC (binC (cmpD fun i j => decide (j < i)) (varC 0) (cC (.int 1))) (callC allD (consA (lcC (srcC rangeD (consA (cC (.int 2)) (consA (varC 0) nilA))) (gN 1) (valT (binC (cmpD fun i j => decide (i ≤ j)) (binC mulD (varC 1) (varC 1)) (varC 0))) (binC (eqD true) (binC modD (callC intD (consA (varC 0) nilA)) (varC 1)) (cC (.int 0))) [1]) nilA))))
noncomputable def _law_is_prime_c : FF := bodyC 2 _law_is_prime_b
abbrev N__law_is_prime : List Str := ["n", "k"]
theorem sc__law_is_prime : FnScope N__law_is_prime ["n"] (defScope st__law_is_prime) := ⟨rfl, rfl, rfl, by decide +kernel, rfl, by decide +kernel, by decide +kernel⟩
theorem bd__law_is_prime (T : Fx K mg) : Binds K T.d__law_is_prime ["n"] [] := T.F__law_is_prime.bindsN fun _ _ _ _ _ _ us hl => match us, hl with | [_], _ => rfl
theorem ok__law_is_prime (T : Fx K mg) : FnG P w K mg base 1 (He.ga K "_law_is_prime") T.d__law_is_prime ["n"] (spF K mg 1 _law_is_prime_c) :=
  defOk (N := N__law_is_prime) (k := 0) T.F__law_is_prime sc__law_is_prime fun cdv A out s H E C =>
    (xss_one (xs_ret (xe_and (xe_cmp f_gt (xe_var 0) xe_int (nomark _)) (xe_one (xe_callB (f_all C) T.b_all (xa_cons (xe_lc C (own := [("k", 1)]) (xi_range2 T.b_range (xa_cons xe_int (xa_cons (xe_var 0) xa_nil)) (aLen_cons (aLen_cons aLen_nil))) (by show blkC N__law_is_prime (defScope st__law_is_prime) _ _ = true; decide +kernel) (fun _ _ _ _ _ => (xgw_name 1 C.nd)) (fun _ _ _ _ _ C' => (xts_one (xt_cmpR f_le (xe_bin f_mul (xe_var 1) (xe_var 1)) (xe_var 0) (nomark _)))) (fun _ _ _ _ _ C' => (xe_cmp (f_ne C') (xe_bin f_mod (xe_callT f_int T.b_int (xa_cons (xe_var 0) xa_nil)) (xe_var 1)) xe_int (nomark _)))) xa_nil))))))
/-! law -/
noncomputable def law_b : SF :=
  (seqC (setC 1 (fnC _law_deck_c [] (consA (varC 0) nilA)))
    (seqC (setC 2 (binC addD (cC (.int 1)) (fnC _law_draw_c [] (consA (varC 1) (consA (binC ixD (lstC (consA (cC (.int 30)) (consA (cC (.int 400)) (consA (cC (.int 2000)) nilA)))) (fnC _law_draw_c [] (consA (varC 1) (consA (cC (.int 3)) nilA)))) nilA)))))
    (seqC (setC 3 (fnC primes_of_c [] (consA (varC 2) nilA)))
    (seqC (setC 4 (cC (.int 1)))
    (seqC (forC (srcC rangeD (consA (callC lenD (consA (varC 3) nilA)) nilA)) (gN 5) (seqC (asgC (binC ixD (varC 3) (varC 5)) (gTp 2 (gCs (gN 13) (gCs (gN 12) gNl))))
    (seqC (setC 4 (binC mulD (varC 4) (fnC _law_power_c [] (consA (varC 13) (consA (varC 12) nilA)))))
    (ifS (orT (valT (binC (cmpD fun i j => decide (i < j)) (varC 12) (cC (.int 1)))) (orT (notT (truthT (fnC _law_is_prime_c [] (consA (varC 13) nilA)))) (andT (valT (binC (cmpD fun i j => decide (j < i)) (varC 5) (cC (.int 0)))) (valT (binC (cmpD fun i j => decide (j ≤ i)) (binC ixD (binC ixD (varC 3) (binC subD (varC 5) (cC (.int 1)))) (cC (.int 0))) (varC 13)))))) (retC (cC (.bl false))) passC))))
    (seqC (setC 6 (fnC _law_divisors_c [] (consA (varC 2) nilA)))
    (seqC (setC 7 (fnC _law_draw_c [] (consA (varC 1) (consA (binC ixD (lstC (consA (cC (.int 4)) (consA (cC (.int 14)) (consA (cC (.int 101)) nilA)))) (fnC _law_draw_c [] (consA (varC 1) (consA (cC (.int 3)) nilA)))) nilA))))
    (seqC (ifS (notT (truthT (fnC _law_is_c [] (consA (lstC (consA (varC 4) (consA (fnC divisors_c [] (consA (varC 2) nilA)) (consA (fnC divisor_sum_c [] (consA (varC 7) (consA (varC 2) nilA))) nilA)))) (consA (lstC (consA (varC 2) (consA (varC 6) (consA (callC sumD (consA (lcC (iterC (varC 6)) (gN 15) yesT (fnC _law_power_c [] (consA (varC 15) (consA (varC 7) nilA))) [15]) nilA)) nilA)))) nilA))))) (retC (cC (.bl false))) passC)
    (seqC (ifS (notT (truthT (fnC _law_is_c [] (consA (varC 3) (consA (lcC (iterC (varC 3)) (gTp 2 (gCs (gN 13) (gCs (gN 12) gNl))) yesT (tupC (consA (varC 13) (consA (varC 12) nilA))) [13, 12]) nilA))))) (retC (cC (.bl false))) passC)
    (seqC (setC 8 newDK)
    (seqC (setC 9 (cC (.int 1)))
    (seqC (forC (srcC rangeD (consA (cC (.int 6)) nilA)) (gN 10) (seqC (setC 13 (binC ixD (lstC (consA (cC (.int 2)) (consA (cC (.int 3)) (consA (cC (.int 5)) (consA (cC (.int 7)) (consA (cC (.int 11)) (consA (cC (.int 13)) (consA (cC (.int 97)) (consA (cC (.int 101)) (consA (cC (.int 997)) (consA (cC (.int 1009)) (consA (cC (.int 9973)) (consA (cC (.int 99991)) nilA))))))))))))) (fnC _law_draw_c [] (consA (varC 1) (consA (cC (.int 12)) nilA)))))
    (ifS (valT (binC (cmpD fun i j => decide (i ≤ j)) (binC mulD (varC 9) (varC 13)) (binC powD (cC (.int 10)) (cC (.int 12))))) (seqC (setC 9 (binC mulD (varC 9) (varC 13)))
    (asgC (binC addD (get2C (varC 8) (varC 13) (cC (.int 0))) (cC (.int 1))) (gSubC setD (varC 8) (varC 13)))) passC)))
    (seqC (setC 11 (lcC (iterC (callC sortedKD (consA (varC 8) nilA))) (gN 13) yesT (tupC (consA (varC 13) (consA (binC ixD (varC 8) (varC 13)) nilA))) [13]))
    (seqC (setC 12 (cC (.int 1)))
    (seqC (forKeysC 8 (gN 13) (setC 12 (binC mulD (varC 12) (binC addD (binC ixD (varC 8) (varC 13)) (cC (.int 1))))))
    (seqC (setC 14 (fnC divisors_c [] (consA (varC 9) nilA)))
    (seqC (ifS (notT (truthT (fnC _law_is_c [] (consA (lstC (consA (fnC primes_of_c [] (consA (varC 9) nilA)) (consA (callC lenD (consA (varC 14) nilA)) (consA (binC ixD (varC 14) (cC (.int 0))) (consA (binC ixD (varC 14) (unC negD (cC (.int 1)))) nilA))))) (consA (lstC (consA (varC 11) (consA (varC 12) (consA (cC (.int 1)) (consA (varC 9) nilA))))) nilA))))) (retC (cC (.bl false))) passC)
    (retC (andC (callC allD (consA (lcC (iterC (varC 14)) (gN 15) yesT (binC (eqD false) (binC modD (callC intD (consA (varC 9) nilA)) (varC 15)) (cC (.int 0))) [15]) nilA)) (callC allD (consA (lcC (srcC rangeD (consA (binC subD (callC lenD (consA (varC 14) nilA)) (cC (.int 1))) nilA)) (gN 5) yesT (binC (cmpD fun i j => decide (i < j)) (binC ixD (varC 14) (varC 5)) (binC ixD (varC 14) (binC addD (varC 5) (cC (.int 1))))) [5]) nilA)))))))))))))))))))))
noncomputable def law_c : FF := bodyC 16 law_b
abbrev N_law : List Str := ["script", "deck", "n", "found", "product", "k", "parts", "power", "row", "great", "turn", "due", "count", "prime", "told", "part"]
theorem sc_law : FnScope N_law ["script"] (defScope st_law) := ⟨rfl, rfl, rfl, by decide +kernel, rfl, by decide +kernel, by decide +kernel⟩
theorem bd_law (T : Fx K mg) : Binds K T.d_law ["script"] [] := T.F_law.bindsN fun _ _ _ _ _ _ us hl => match us, hl with | [_], _ => rfl
theorem ok_law (T : Fx K mg) : FnG P w K mg base 4 (He.ga K "law") T.d_law ["script"] (spF K mg 1 law_c) :=
  defOk (N := N_law) (k := 3) T.F_law sc_law fun cdv A out s H E C =>
    (xss_cons (xs_set 1 C.nd (xe_call C ((ok__law_deck T).mono (by decide)) T.m__law_deck T.F__law_deck.kp (bd__law_deck T) .nil (xa_cons (xe_var 0) xa_nil) (aLen_cons aLen_nil)))
    (xss_cons (xs_set 2 C.nd (xe_bin f_add xe_int (xe_call C ((ok__law_draw T).mono (by decide)) T.m__law_draw T.F__law_draw.kp (bd__law_draw T) .nil (xa_cons (xe_var 1) (xa_cons (xe_ix (f_ix C) (xe_lst (xa_cons xe_int (xa_cons xe_int (xa_cons xe_int xa_nil))) (aLen_cons (aLen_cons (aLen_cons aLen_nil)))) (xe_call C ((ok__law_draw T).mono (by decide)) T.m__law_draw T.F__law_draw.kp (bd__law_draw T) .nil (xa_cons (xe_var 1) (xa_cons xe_int xa_nil)) (aLen_cons (aLen_cons aLen_nil)))) xa_nil)) (aLen_cons (aLen_cons aLen_nil)))))
    (xss_cons (xs_set 3 C.nd (xe_call C ((ok_primes_of T).mono (by decide)) T.m_primes_of T.F_primes_of.kp (bd_primes_of T) .nil (xa_cons (xe_var 2) xa_nil) (aLen_cons aLen_nil)))
    (xss_cons (xs_set 4 C.nd xe_int)
    (xss_cons (xs_for C.hp C.calm (xi_range1 T.b_range (xa_cons (xe_callB f_len T.b_len (xa_cons (xe_var 3) xa_nil)) xa_nil) (aLen_cons aLen_nil)) (xg_name 5 C.nd) (xss_cons (xs_asg (xe_ix (f_ix C) (xe_var 3) (xe_var 5)) (xg_tup C.calm (xgs_cons (xg_name 13 C.nd) (xgs_cons (xg_name 12 C.nd) xgs_nil))))
    (xss_cons (xs_set 4 C.nd (xe_bin f_mul (xe_var 4) (xe_call C ((ok__law_power T).mono (by decide)) T.m__law_power T.F__law_power.kp (bd__law_power T) .nil (xa_cons (xe_var 13) (xa_cons (xe_var 12) xa_nil)) (aLen_cons (aLen_cons aLen_nil)))))
    (xss_one (xs_if ((xw_or (xt_cmpR f_lt (xe_var 12) xe_int (nomark _)) (xw_or (xt_not (xt_truth (xe_call C ((ok__law_is_prime T).mono (by decide)) T.m__law_is_prime T.F__law_is_prime.kp (bd__law_is_prime T) .nil (xa_cons (xe_var 13) xa_nil) (aLen_cons aLen_nil)))) (xw_or1 ((xw_and (xt_cmpR f_gt (xe_var 5) xe_int (nomark _)) (xw_and1 (xt_cmpR f_ge (xe_ix (f_ix C) (xe_ix (f_ix C) (xe_var 3) (xe_bin f_sub (xe_var 5) xe_int)) xe_int) (xe_var 13) (nomark _))))).pt)))).pt (xss_one (xs_ret xe_bl)) xss_nil)))))
    (xss_cons (xs_set 6 C.nd (xe_call C ((ok__law_divisors T).mono (by decide)) T.m__law_divisors T.F__law_divisors.kp (bd__law_divisors T) .nil (xa_cons (xe_var 2) xa_nil) (aLen_cons aLen_nil)))
    (xss_cons (xs_set 7 C.nd (xe_call C ((ok__law_draw T).mono (by decide)) T.m__law_draw T.F__law_draw.kp (bd__law_draw T) .nil (xa_cons (xe_var 1) (xa_cons (xe_ix (f_ix C) (xe_lst (xa_cons xe_int (xa_cons xe_int (xa_cons xe_int xa_nil))) (aLen_cons (aLen_cons (aLen_cons aLen_nil)))) (xe_call C ((ok__law_draw T).mono (by decide)) T.m__law_draw T.F__law_draw.kp (bd__law_draw T) .nil (xa_cons (xe_var 1) (xa_cons xe_int xa_nil)) (aLen_cons (aLen_cons aLen_nil)))) xa_nil)) (aLen_cons (aLen_cons aLen_nil))))
    (xss_cons (xs_if (xt_not (xt_truth (xe_call C ((ok__law_is T).mono (by decide)) T.m__law_is T.F__law_is.kp (bd__law_is T) .nil (xa_cons (xe_lst (xa_cons (xe_var 4) (xa_cons (xe_call C ((ok_divisors T).mono (by decide)) T.m_divisors T.F_divisors.kp (bd_divisors T) .nil (xa_cons (xe_var 2) xa_nil) (aLen_cons aLen_nil)) (xa_cons (xe_call C ((ok_divisor_sum T).mono (by decide)) T.m_divisor_sum T.F_divisor_sum.kp (bd_divisor_sum T) .nil (xa_cons (xe_var 7) (xa_cons (xe_var 2) xa_nil)) (aLen_cons (aLen_cons aLen_nil))) xa_nil))) (aLen_cons (aLen_cons (aLen_cons aLen_nil)))) (xa_cons (xe_lst (xa_cons (xe_var 2) (xa_cons (xe_var 6) (xa_cons (xe_callB (f_sum C) T.b_sum (xa_cons (xe_lc C (own := [("part", 15)]) (xi_val (xe_var 6)) (by show blkC N_law (defScope st_law) _ _ = true; decide +kernel) (fun _ _ _ _ _ => (xgw_name 15 C.nd)) (fun _ _ _ _ _ C' => xts_nil) (fun _ _ _ _ _ C' => (xe_call C' ((ok__law_power T).mono (by decide)) T.m__law_power T.F__law_power.kp (bd__law_power T) .nil (xa_cons (xe_var 15) (xa_cons (xe_var 7) xa_nil)) (aLen_cons (aLen_cons aLen_nil))))) xa_nil)) xa_nil))) (aLen_cons (aLen_cons (aLen_cons aLen_nil)))) xa_nil)) (aLen_cons (aLen_cons aLen_nil))))) (xss_one (xs_ret xe_bl)) xss_nil)
    (xss_cons (xs_if (xt_not (xt_truth (xe_call C ((ok__law_is T).mono (by decide)) T.m__law_is T.F__law_is.kp (bd__law_is T) .nil (xa_cons (xe_var 3) (xa_cons (xe_lc C (own := [("prime", 13), ("count", 12)]) (xi_val (xe_var 3)) (by show blkC N_law (defScope st_law) _ _ = true; decide +kernel) (fun _ _ _ _ _ => (xgw_tup C.calm (xgsw_cons (xgw_name 13 C.nd) (xgsw_cons (xgw_name 12 C.nd) xgsw_nil)))) (fun _ _ _ _ _ C' => xts_nil) (fun _ _ _ _ _ C' => (xe_tup (xa_cons (xe_var 13) (xa_cons (xe_var 12) xa_nil)) (aLen_cons (aLen_cons aLen_nil))))) xa_nil)) (aLen_cons (aLen_cons aLen_nil))))) (xss_one (xs_ret xe_bl)) xss_nil)
    (xss_cons (xs_set 8 C.nd xe_newDK)
    (xss_cons (xs_set 9 C.nd xe_int)
    (xss_cons (xs_for C.hp C.calm (xi_range1 T.b_range (xa_cons xe_int xa_nil) (aLen_cons aLen_nil)) (xg_name 10 C.nd) (xss_cons (xs_set 13 C.nd (xe_ix (f_ix C) (xe_lst (xa_cons xe_int (xa_cons xe_int (xa_cons xe_int (xa_cons xe_int (xa_cons xe_int (xa_cons xe_int (xa_cons xe_int (xa_cons xe_int (xa_cons xe_int (xa_cons xe_int (xa_cons xe_int (xa_cons xe_int xa_nil)))))))))))) (aLen_cons (aLen_cons (aLen_cons (aLen_cons (aLen_cons (aLen_cons (aLen_cons (aLen_cons (aLen_cons (aLen_cons (aLen_cons (aLen_cons aLen_nil))))))))))))) (xe_call C ((ok__law_draw T).mono (by decide)) T.m__law_draw T.F__law_draw.kp (bd__law_draw T) .nil (xa_cons (xe_var 1) (xa_cons xe_int xa_nil)) (aLen_cons (aLen_cons aLen_nil)))))
    (xss_one (xs_if (xt_cmpR f_le (xe_bin f_mul (xe_var 9) (xe_var 13)) (xe_bin f_pow xe_int xe_int) (nomark _)) (xss_cons (xs_set 9 C.nd (xe_bin f_mul (xe_var 9) (xe_var 13)))
    (xss_one (xs_asg (xe_bin f_add (xe_get2 C (xe_var 8) (xe_var 13) xe_int ⟨rfl, rfl, rfl, rfl⟩) xe_int) (xg_sub (W := fun _ => E) (f_set C) (xe_var 8) (xe_var 13))))) xss_nil))))
    (xss_cons (xs_setLc 11 C (own := [("prime", 13)]) (xi_val (xe_callB (f_sortedK C) T.b_sorted (xa_cons (xe_var 8) xa_nil))) (by show blkC N_law (defScope st_law) _ _ = true; decide +kernel) (fun _ _ _ _ _ => (xgw_name 13 C.nd)) (fun _ _ _ _ _ C' => xts_nil) (fun _ _ _ _ _ C' => (xe_tup (xa_cons (xe_var 13) (xa_cons (xe_ix (f_ix C') (xe_var 8) (xe_var 13)) xa_nil)) (aLen_cons (aLen_cons aLen_nil)))) (sw_true rfl rfl rfl (by decide +kernel)))
    (xss_cons (xs_set 12 C.nd xe_int)
    (xss_cons (xs_forKeys 8 C (xg_name 13 C.nd) (xss_one (xs_set 12 C.nd (xe_bin f_mul (xe_var 12) (xe_bin f_add (xe_ix (f_ix C) (xe_var 8) (xe_var 13)) xe_int)))))
    (xss_cons (xs_set 14 C.nd (xe_call C ((ok_divisors T).mono (by decide)) T.m_divisors T.F_divisors.kp (bd_divisors T) .nil (xa_cons (xe_var 9) xa_nil) (aLen_cons aLen_nil)))
    (xss_cons (xs_if (xt_not (xt_truth (xe_call C ((ok__law_is T).mono (by decide)) T.m__law_is T.F__law_is.kp (bd__law_is T) .nil (xa_cons (xe_lst (xa_cons (xe_call C ((ok_primes_of T).mono (by decide)) T.m_primes_of T.F_primes_of.kp (bd_primes_of T) .nil (xa_cons (xe_var 9) xa_nil) (aLen_cons aLen_nil)) (xa_cons (xe_callB f_len T.b_len (xa_cons (xe_var 14) xa_nil)) (xa_cons (xe_ix (f_ix C) (xe_var 14) xe_int) (xa_cons (xe_ix (f_ix C) (xe_var 14) (xe_un f_neg xe_int)) xa_nil)))) (aLen_cons (aLen_cons (aLen_cons (aLen_cons aLen_nil))))) (xa_cons (xe_lst (xa_cons (xe_var 11) (xa_cons (xe_var 12) (xa_cons xe_int (xa_cons (xe_var 9) xa_nil)))) (aLen_cons (aLen_cons (aLen_cons (aLen_cons aLen_nil))))) xa_nil)) (aLen_cons (aLen_cons aLen_nil))))) (xss_one (xs_ret xe_bl)) xss_nil)
    (xss_one (xs_ret (xe_and (xe_callB (f_all C) T.b_all (xa_cons (xe_lc C (own := [("part", 15)]) (xi_val (xe_var 14)) (by show blkC N_law (defScope st_law) _ _ = true; decide +kernel) (fun _ _ _ _ _ => (xgw_name 15 C.nd)) (fun _ _ _ _ _ C' => xts_nil) (fun _ _ _ _ _ C' => (xe_cmp (f_eq C') (xe_bin f_mod (xe_callT f_int T.b_int (xa_cons (xe_var 9) xa_nil)) (xe_var 15)) xe_int (nomark _)))) xa_nil)) (xe_one (xe_callB (f_all C) T.b_all (xa_cons (xe_lc C (own := [("k", 5)]) (xi_range1 T.b_range (xa_cons (xe_bin f_sub (xe_callB f_len T.b_len (xa_cons (xe_var 14) xa_nil)) xe_int) xa_nil) (aLen_cons aLen_nil)) (by show blkC N_law (defScope st_law) _ _ = true; decide +kernel) (fun _ _ _ _ _ => (xgw_name 5 C.nd)) (fun _ _ _ _ _ C' => xts_nil) (fun _ _ _ _ _ C' => (xe_cmp f_lt (xe_ix (f_ix C') (xe_var 14) (xe_var 5)) (xe_ix (f_ix C') (xe_var 14) (xe_bin f_add (xe_var 5) xe_int)) (nomark _)))) xa_nil)))))))))))))))))))))))
end
/-! the head -/
def dd_raised : He.DefD := ⟨("raised", none), "raised", "raised", defArgs st_raised, defBody st_raised, defScope st_raised, [], []⟩
def dd_primes_of : He.DefD := ⟨("primes_of", none), "primes_of", "primes_of", defArgs st_primes_of, defBody st_primes_of, defScope st_primes_of, [], []⟩
def dd_divisors : He.DefD := ⟨("divisors", none), "divisors", "divisors", defArgs st_divisors, defBody st_divisors, defScope st_divisors, [], []⟩
def dd_divisor_sum : He.DefD := ⟨("divisor_sum", none), "divisor_sum", "divisor_sum", defArgs st_divisor_sum, defBody st_divisor_sum, defScope st_divisor_sum, [], []⟩
def dd__law_deck : He.DefD := ⟨("_law_deck", none), "_law_deck", "_law_deck", defArgs st__law_deck, defBody st__law_deck, defScope st__law_deck, [], []⟩
def dd__law_power : He.DefD := ⟨("_law_power", none), "_law_power", "_law_power", defArgs st__law_power, defBody st__law_power, defScope st__law_power, [], []⟩
def dd__law_draw : He.DefD := ⟨("_law_draw", none), "_law_draw", "_law_draw", defArgs st__law_draw, defBody st__law_draw, defScope st__law_draw, [], []⟩
def dd__law_is : He.DefD := ⟨("_law_is", none), "_law_is", "_law_is", defArgs st__law_is, defBody st__law_is, defScope st__law_is, [], []⟩
def dd__law_divisors : He.DefD := ⟨("_law_divisors", none), "_law_divisors", "_law_divisors", defArgs st__law_divisors, defBody st__law_divisors, defScope st__law_divisors, [], []⟩
def dd__law_is_prime : He.DefD := ⟨("_law_is_prime", none), "_law_is_prime", "_law_is_prime", defArgs st__law_is_prime, defBody st__law_is_prime, defScope st__law_is_prime, [], []⟩
def dd_law : He.DefD := ⟨("law", none), "law", "law", defArgs st_law, defBody st_law, defScope st_law, [], []⟩
def fnL : List He.DefD := [dd_raised, dd_primes_of, dd_divisors, dd_divisor_sum, dd__law_deck, dd__law_power, dd__law_draw, dd__law_is, dd__law_divisors, dd__law_is_prime, dd_law]
def faL : List He.Fa := [.glo "raised", .glo "primes_of", .glo "divisors", .glo "divisor_sum", .glo "_law_deck", .glo "_law_power", .glo "_law_draw", .glo "_law_is", .glo "_law_divisors", .glo "_law_is_prime", .glo "law", .free "abs", .free "all", .free "int", .free "len", .free "list", .free "range", .free "repr", .free "sorted", .free "sum"]
abbrev looseL : List Str := ["raised", "primes_of", "divisors", "divisor_sum", "_law_deck", "_law_power", "_law_draw", "_law_is", "_law_divisors", "_law_is_prime"]
abbrev R : PySem.W.OpenRow := PySem.W.OpenLaw.row PySem.Challenge.rw_everyterm_k02_divisors
abbrev hk : PySem.W.Hook := He.hookD 4 faL fnL
def ob (s : PySem.W.SharedT) : He.AlD := He.obsDG 4 faL fnL (HandSHeadRun.getT s)
theorem ob_eq (s : PySem.W.SharedT) : ob s = hk.obs s.abs := He.obsDG_eq (HandSHeadRun.getT_eq s)
theorem run (w : World) : HandSHeadRun.RunEq R (PySem.W.view R.prog [12]) hk ob 960 looseL w := by
  intro os
  kernel_rfl
def fxOf {K : PySem.W.Frag} {h : Heap} {mg : Str → Option Value} (X : K.In h) (G : h.Ns mainGlobals mg) (c : He.SaysD faL fnL K) : Nonempty (Fx K mg) := by
  obtain ⟨d0, F0⟩ := c.def_ 0 (d := dd_raised) rfl
  obtain ⟨d1, F1⟩ := c.def_ 1 (d := dd_primes_of) rfl
  obtain ⟨d2, F2⟩ := c.def_ 2 (d := dd_divisors) rfl
  obtain ⟨d3, F3⟩ := c.def_ 3 (d := dd_divisor_sum) rfl
  obtain ⟨d4, F4⟩ := c.def_ 4 (d := dd__law_deck) rfl
  obtain ⟨d5, F5⟩ := c.def_ 5 (d := dd__law_power) rfl
  obtain ⟨d6, F6⟩ := c.def_ 6 (d := dd__law_draw) rfl
  obtain ⟨d7, F7⟩ := c.def_ 7 (d := dd__law_is) rfl
  obtain ⟨d8, F8⟩ := c.def_ 8 (d := dd__law_divisors) rfl
  obtain ⟨d9, F9⟩ := c.def_ 9 (d := dd__law_is_prime) rfl
  obtain ⟨d10, F10⟩ := c.def_ 10 (d := dd_law) rfl
  exact ⟨⟨d0, F0, He.glo_ok X G (c.fact 0 (f := .glo "raised") rfl), d1, F1, He.glo_ok X G (c.fact 1 (f := .glo "primes_of") rfl), d2, F2, He.glo_ok X G (c.fact 2 (f := .glo "divisors") rfl), d3, F3, He.glo_ok X G (c.fact 3 (f := .glo "divisor_sum") rfl), d4, F4, He.glo_ok X G (c.fact 4 (f := .glo "_law_deck") rfl), d5, F5, He.glo_ok X G (c.fact 5 (f := .glo "_law_power") rfl), d6, F6, He.glo_ok X G (c.fact 6 (f := .glo "_law_draw") rfl), d7, F7, He.glo_ok X G (c.fact 7 (f := .glo "_law_is") rfl), d8, F8, He.glo_ok X G (c.fact 8 (f := .glo "_law_divisors") rfl), d9, F9, He.glo_ok X G (c.fact 9 (f := .glo "_law_is_prime") rfl), d10, F10, He.glo_ok X G (c.fact 10 (f := .glo "law") rfl), He.free_ok X G (c.fact 11 (f := .free "abs") rfl), He.free_ok X G (c.fact 12 (f := .free "all") rfl), He.free_ok X G (c.fact 13 (f := .free "int") rfl), He.free_ok X G (c.fact 14 (f := .free "len") rfl), He.free_ok X G (c.fact 15 (f := .free "list") rfl), He.free_ok X G (c.fact 16 (f := .free "range") rfl), He.free_ok X G (c.fact 17 (f := .free "repr") rfl), He.free_ok X G (c.fact 18 (f := .free "sorted") rfl), He.free_ok X G (c.fact 19 (f := .free "sum") rfl)⟩⟩
theorem ends (told : ∀ ns : List Int, ns.length ≤ 63 → (∀ z ∈ ns, Builtin.Int.intBits z ≤ 1048576) → Told law_c ns) : PySem.Challenge.rw_everyterm_k02_divisors.Holds := by
  w_on; o_law
  refine HandSHeadRun.head_any (r := R) (q := PySem.W.view R.prog [12]) (H := hk) (ob := ob) (M := 960) (loose := looseL) (d := HandSHeadRun.topDef R.prog 12) (kwd := []) ob_eq
    (by kernel_rfl) (fun s => by kernel_rfl) run (by kernel_rfl) (by kernel_rfl) (by kernel_rfl) (by rfl) (by first | assumption | decide +kernel) (by decide +kernel) ⟨rfl, rfl, rfl, rfl, rfl, by decide +kernel⟩ ?hw ?hc
  case hw => w_witness2
  case hc =>
    refine walkG (l := PySem.Challenge.rw_everyterm_k02_divisors) (n := 63) (k := 4) (x := "script") (f := law_c) rfl (by decide) (by kernel_rfl) ⟨rfl, by decide, by decide⟩ ?F told
    rintro w mg fa h ⟨K, kin, c⟩ G hfa
    have hm : mg ("law" : Str) = some (.ref fa) := by
      have e : (HandSHeadRun.topDef R.prog 12).name = ("law" : Str) := by kernel_rfl
      rw [← e]
      exact hfa
    obtain ⟨T⟩ := fxOf kin G c
    have e := hm.symm.trans T.m_law
    cases e
    have b := L2.FunD.bindsA (ps := ["script"]) T.F_law fun _ _ _ _ _ _ us hl => match us, hl with | [_], _ => rfl
    exact ⟨K, T.d_law, kin, fun s v => b s [v] rfl, fun base _ _ => ok_law T⟩
end Yk02

set_option Elab.async false
set_option linter.all false
set_option maxRecDepth 100000
set_option maxHeartbeats 1000000
namespace Yk02
open PySem PySem.Spec PyProof.Rows L2 SX NT
theorem e_raised : raised_c = raisedF := by unfold raised_c raisedF raised_b raisedB; rfl
theorem e_primes : primes_of_c = primesF := by unfold primes_of_c primesF primes_of_b primesB; rfl
theorem e_divisors : divisors_c = divisorsF := by unfold divisors_c divisorsF divisors_b divisorsB; rw [e_primes, e_raised]
theorem e_deck : _law_deck_c = deckF := by unfold _law_deck_c deckF _law_deck_b deckB; rfl
theorem e_draw : _law_draw_c = drawF := by unfold _law_draw_c drawF _law_draw_b drawB drawT; rfl
theorem e_is : _law_is_c = isF := by unfold _law_is_c isF _law_is_b isB; rfl
section
variable {G : Hq}
theorem power_ok {a e B : Nat} (ha : 1 ≤ a) (he : e < 2 ^ 40) (hB : B ≤ 400000) (hb : a ^ e < 2 ^ B) : _law_power_c [.int a, .int e] G = .ok (.int ((a ^ e : Nat) : Int)) G := by
  have goal : wE (_law_power_c [.int a, .int e] G) fun v G' => v = .int ((a ^ e : Nat) : Int) ∧ G' = G := by
    unfold _law_power_c
    rw [wE_body]
    show wS (_law_power_b [some (.int a), some (.int e), none, none] G) _ _ _ _
    unfold _law_power_b
    simp only [wS_seq, wS_set, wE_c, List.set_cons_succ, List.set_cons_zero, wS_for, wE_src, wE_consA, wE_varS, wE_var0, wE_nilA]
    rw [rangeD1 (small_of (by omega) (by omega)), wE_ok, Int.toNat_natCast]
    refine wS_forR (fun k σ G' => ∃ x, σ = [some (.int a), some (.int e), some (.int ((a ^ k : Nat) : Int)), x] ∧ G' = G) ⟨none, by simp, rfl⟩ (fun k hk σ G' h => ?_) (fun σ G' h => ?_)
    · obtain ⟨x, rfl, rfl⟩ := h
      have b1 : a ^ (k + 1) ≤ a ^ e := Nat.pow_le_pow_right ha hk
      have b2 : a ^ k ≤ a ^ (k + 1) := Nat.pow_le_pow_right ha (by omega)
      have b3 : a ^ 1 ≤ a ^ (k + 1) := Nat.pow_le_pow_right ha (by omega)
      rw [Nat.pow_one] at b3
      simp only [wE_gN, wS_set, wE_bin, wE_varS, wE_var0, List.set_cons_succ, List.set_cons_zero]
      rw [mulD_bits hB (by rw [Int.natAbs_natCast]; omega) (by rw [Int.natAbs_natCast]; omega), wE_ok]
      exact ⟨_, by rw [Nat.pow_succ, Int.natCast_mul], by simp⟩
    · obtain ⟨x, rfl, rfl⟩ := h
      simp only [wS_ret, wE_varS, wE_var0]
      simp
  refine wE_eq ?_
  assumption
theorem dsum_ok {n k : Nat} (h1 : 1 ≤ n) (hn : n ≤ 2000) (hk : k ≤ 100) : ∃ G', divisor_sum_c [.int k, .int n] G = .ok (.int (((divs n).map fun d => ((d ^ k : Nat) : Int)).sum)) G' ∧ Fr [] G G' := by
  obtain ⟨p, G1, e1, f1, g1, _⟩ := divisors_ok (G := G) h1 (by omega)
  have goal : wE (divisor_sum_c [.int k, .int n] G) fun v G' => v = .int (((divs n).map fun d => ((d ^ k : Nat) : Int)).sum) ∧ Fr [] G G' := by
    unfold divisor_sum_c
    rw [wE_body]
    show wS (divisor_sum_b [some (.int k), some (.int n), none] G) _ _ _ _
    unfold divisor_sum_b
    simp only [e_divisors, e_raised, wS_ret, wE_call, wE_consA, wE_nilA, wE_lc, wE_iter, wE_fn, wE_varS, wE_var0, List.append_nil, e1, wE_ok, iterD_ref (lstOf_lst g1)]
    have hl : (divs n).length ≤ 16777216 := by
      have := divs_len n
      omega
    have step : ∀ a ∈ divs n, a ^ k < 2 ^ 1200 ∧ 1 ≤ a := fun a ha => by
      have hd := (mem_divs h1).mp ha
      have h2 := Nat.le_of_dvd h1 hd
      have h3 := Nat.pos_of_dvd_of_pos hd h1
      have h4 : a ^ k ≤ 2048 ^ k := Nat.pow_le_pow_left (by omega) k
      have h5 : 2048 ^ k ≤ 2048 ^ 100 := Nat.pow_le_pow_right (by omega) hk
      have h6 : (2048 : Nat) ^ 100 < 2 ^ 1200 := by decide +kernel
      exact ⟨Nat.lt_of_le_of_lt (Nat.le_trans h4 h5) h6, h3⟩
    refine lc_map (divs n) natD (fun a => natD (a ^ k)) hl (fun j acc => src_itL (lstOf_lst (by rw [List.getElem?_append_left (lt_of_at g1)]; exact g1))) (fun a ha acc => ?_) ?_ (fun a ha acc => ?_)
    · simp only [wE_gN, wipeD, List.set_cons_succ, List.set_cons_zero, wE_yes, wE_fn, wE_consA, wE_nilA, wE_varS, wE_var0, List.append_nil, raised_ok (a := a) (e := k) (B := 1200) (step a ha).2 (by omega) (step a ha).1, wE_ok]
      simp
    · have e3 : (divs n).map (fun a => natD (a ^ k)) = ((divs n).map fun d => ((d ^ k : Nat) : Int)).map D.int := by
        rw [List.map_map] <;> rfl
      unfold sumD
      simp only [lstOf_lst at_last, e3, Option.bind_some, intsD_map, wE_ok]
      exact ⟨by simp, f1.trans Fr.new⟩
    · simp only [wE_gN, wipeD, List.set_cons_succ, List.set_cons_zero, wE_yes]
  obtain ⟨v, G', e, rfl, f⟩ := wE_get goal
  exact ⟨G', e, f⟩
theorem ldiv_ok {n : Nat} (h1 : 1 ≤ n) (hn : n ≤ 2000) : _law_divisors_c [.int n] G = .ok (.ref G.length) (G ++ [.lst ((divs n).map natD)]) := by
  have goal : wE (_law_divisors_c [.int n] G) fun v G' => v = .ref G.length ∧ G' = G ++ [.lst ((divs n).map natD)] := by
    unfold _law_divisors_c
    rw [wE_body]
    show wS (_law_divisors_b [some (.int n), none] G) _ _ _ _
    unfold _law_divisors_b
    simp only [wS_ret, wE_lc, wE_src, wE_consA, wE_c, wE_bin, wE_varS, wE_var0, addD_int, wE_ok, wE_nilA]
    rw [rangeD2 (small_of (by omega) (by omega)) (small_of (by omega) (by omega)), wE_ok]
    have e0 : ((n : Int) + 1 - 1).toNat = n := by omega
    rw [e0]
    have e1 : (fun k : Nat => D.int (1 + (k : Int) * 1)) = fun k : Nat => natD (k + 1) := by
      funext k
      have : 1 + (k : Int) * 1 = ((k + 1 : Nat) : Int) := by omega
      rw [this]
    refine lc_sel ((List.range n).map (· + 1)) natD natD (fun k => n % k == 0) (by simp; omega) (fun j acc => by rw [src_itR, e1, List.map_map]; rfl) (fun a ha acc => ?_) ⟨rfl, rfl⟩
    have ha1 : 1 ≤ a := by
      simp only [List.mem_map, List.mem_range] at ha
      obtain ⟨b, _, rfl⟩ := ha
      omega
    simp only [wE_gN, wipeD, List.set_cons_succ, List.set_cons_zero, wE_val, wE_bin, wE_call, wE_consA, wE_nilA, wE_varS, wE_var0, wE_c, intD_int, wE_ok, modD_int (j := (a : Int)) (by omega), eqD_int, wE_toB, int_mod]
    refine ⟨?_, by simp, fun _ => by simp⟩
    rw [Bool.eq_iff_iff]
    simp
    omega
  refine wE_eq ?_
  assumption
theorem blsD_trues : ∀ bs : List Bool, blsD (bs.map D.bl) = some bs
  | [] => rfl
  | b :: r => by
    show (blsD (r.map D.bl)).map (b :: ·) = _
    rw [blsD_trues r] <;> rfl
theorem prime_ok {p : Nat} (hp : IsP p) (hn : p ≤ 2000) : ∃ G', _law_is_prime_c [.int p] G = .ok (.bl true) G' ∧ Fr [] G G' := by
  have goal : wE (_law_is_prime_c [.int p] G) fun v G' => v = .bl true ∧ Fr [] G G' := by
    have h2 := hp.1
    unfold _law_is_prime_c
    rw [wE_body]
    show wS (_law_is_prime_b [some (.int p), none] G) _ _ _ _
    unfold _law_is_prime_b
    have d1 : decide ((1 : Int) < (p : Int)) = true := decide_eq_true (by omega)
    simp only [wS_ret, wE_andC, wE_bin, wE_varS, wE_var0, wE_c, cmpD_int, wE_ok, d1, wE_call, wE_consA, wE_nilA, wE_lc, wE_src]
    rw [rangeD2 (small_of (by omega) (by omega)) (small_of (by omega) (by omega)), wE_ok]
    have e0 : ((p : Int) - 2).toNat = p - 2 := by omega
    rw [e0]
    have e1 : (fun k : Nat => D.int (2 + (k : Int) * 1)) = fun k : Nat => natD (k + 2) := by
      funext k
      have : 2 + (k : Int) * 1 = ((k + 2 : Nat) : Int) := by omega
      rw [this]
    refine lc_sel ((List.range (p - 2)).map (· + 2)) natD (fun _ => .bl true) (fun k => decide (k * k ≤ p)) (by simp; omega) (fun j acc => by rw [src_itR, e1, List.map_map]; rfl) (fun a ha acc => ?_) ?_
    · have ha1 : 2 ≤ a ∧ a < p := by
        simp only [List.mem_map, List.mem_range] at ha
        obtain ⟨b, hb, rfl⟩ := ha
        omega
      have nd : ¬ p % a = 0 := fun z => by
        rcases hp.2 a (Nat.dvd_of_mod_eq_zero z) with q | q <;> omega
      simp only [wE_gN, wipeD, List.set_cons_succ, List.set_cons_zero, wE_val, wE_bin, wE_call, wE_consA, wE_nilA, wE_varS, wE_var0, wE_c, intD_int, wE_ok, mulD_int (i := (a : Int)) (j := (a : Int)) (by omega) (by omega), cmpD_int, wE_toB, modD_int (j := (a : Int)) (by omega), eqD_int, int_mod]
      refine ⟨?_, by simp, fun _ => ⟨?_, by simp⟩⟩
      · rw [← Int.natCast_mul]
        rw [Bool.eq_iff_iff]
        simp
        omega
      · have : ¬ ((p % a : Nat) : Int) = 0 := by omega
        simp
        omega
    · unfold allD
      have e3 : (((List.range (p - 2)).map (· + 2)).filter fun k => decide (k * k ≤ p)).map (fun _ => D.bl true) = ((((List.range (p - 2)).map (· + 2)).filter fun k => decide (k * k ≤ p)).map fun _ => true).map D.bl := by
        rw [List.map_map] <;> rfl
      simp only [e3, lstOf_lst at_last, Option.bind_some, blsD_trues, wE_ok]
      refine ⟨?_, Fr.new⟩
      simp
  obtain ⟨v, G', e, rfl, f⟩ := wE_get goal
  exact ⟨G', e, f⟩
end
end Yk02

set_option Elab.async false
set_option linter.all false
set_option maxRecDepth 100000
set_option maxHeartbeats 1000000
namespace Yk02
open PySem PySem.Spec PyProof.Rows L2 SX NT
/-! the second half's table: what was drawn, as a factor list in the order of arrival -/
def putF : List (Nat × Nat) → Nat → List (Nat × Nat)
  | [], p => [(p, 1)]
  | (q, c) :: r, p => if q = p then (q, c + 1) :: r else (q, c) :: putF r p
def keyF (f : Nat × Nat) : Key × D := (.inl (f.1 : Int), .int (f.2 : Int))
theorem put_prod {p : Nat} : ∀ fs : List (Nat × Nat), prodL (putF fs p) = prodL fs * p
  | [] => by simp [putF]
  | (q, c) :: r => by
    unfold putF
    by_cases h : q = p
    · rw [if_pos h, prodL_cons, prodL_cons]
      subst h
      show q ^ (c + 1) * prodL r = q ^ c * prodL r * q
      rw [Nat.pow_succ]
      ac_rfl
    · rw [if_neg h, prodL_cons, prodL_cons, put_prod r]
      show q ^ c * (prodL r * p) = q ^ c * prodL r * p
      ac_rfl
theorem put_keys {p : Nat} : ∀ (fs : List (Nat × Nat)) (k : Nat), k ∈ (putF fs p).map (·.1) ↔ k = p ∨ k ∈ fs.map (·.1)
  | [], k => by simp [putF]
  | (q, c) :: r, k => by
    unfold putF
    by_cases h : q = p
    · rw [if_pos h]
      subst h
      simp
    · rw [if_neg h]
      have := put_keys (p := p) r k
      simp only [List.map_cons, List.mem_cons, this]
      constructor
      · rintro (q | q | q)
        · exact .inr (.inl q)
        · exact .inl q
        · exact .inr (.inr q)
      · rintro (q | q | q)
        · exact .inr (.inl q)
        · exact .inl q
        · exact .inr (.inr q)
theorem put_nodup {p : Nat} : ∀ fs : List (Nat × Nat), (fs.map (·.1)).Nodup → ((putF fs p).map (·.1)).Nodup
  | [], _ => by simp [putF]
  | (q, c) :: r, h => by
    unfold putF
    rw [List.map_cons] at h
    obtain ⟨h1, h2⟩ := List.pairwise_cons.mp h
    by_cases e : q = p
    · rw [if_pos e]
      exact h
    · rw [if_neg e, List.map_cons]
      refine List.pairwise_cons.mpr ⟨fun k hk => ?_, put_nodup r h2⟩
      rcases (put_keys r k).mp hk with z | z
      · subst z
        exact e
      · exact h1 k z
theorem put_pos {p : Nat} : ∀ fs : List (Nat × Nat), (∀ f ∈ fs, 1 ≤ f.2) → ∀ f ∈ putF fs p, 1 ≤ f.2
  | [], _, f, hf => by
    simp [putF] at hf
    subst hf
    simp
  | (q, c) :: r, h, f, hf => by
    unfold putF at hf
    by_cases e : q = p
    · rw [if_pos e] at hf
      rcases List.mem_cons.mp hf with z | z
      · subst z
        simp
      · exact h f (List.mem_cons_of_mem _ z)
    · rw [if_neg e] at hf
      rcases List.mem_cons.mp hf with z | z
      · subst z
        exact h _ (List.mem_cons_self ..)
      · exact put_pos r (fun g hg => h g (List.mem_cons_of_mem _ hg)) f z
def cntF (fs : List (Nat × Nat)) (p : Nat) : Nat := match fs.find? fun f => decide (f.1 = p) with
  | some f => f.2
  | none => 0
theorem look_keyF {p : Nat} : ∀ fs : List (Nat × Nat), lookD (fs.map keyF) (.inl (p : Int)) = (fs.find? fun f => decide (f.1 = p)).map fun f => .int (f.2 : Int)
  | [] => rfl
  | (q, c) :: r => by
    unfold lookD
    rw [List.map_cons, List.find?_cons, List.find?_cons]
    by_cases h : q = p
    · subst h
      simp [keyF]
    · have h2 : decide ((keyF (q, c)).1 = (Sum.inl (p : Int) : Key)) = false := by
        simp [keyF]
        omega
      rw [h2]
      have h3 : decide ((q, c).1 = p) = false := decide_eq_false h
      rw [h3]
      exact look_keyF r
theorem put_keyF_in {p : Nat} (v : Nat) : ∀ fs : List (Nat × Nat), (fs.map (·.1)).Nodup → p ∈ fs.map (·.1) → v = cntF fs p + 1 →
    ((fs.map keyF).map fun kv => if kv.1 = (Sum.inl (p : Int) : Key) then (kv.1, D.int (v : Int)) else kv) = (putF fs p).map keyF
  | [], _, h, _ => by simp at h
  | (q, c) :: r, nd, h, hv => by
    rw [List.map_cons] at nd
    obtain ⟨n1, n2⟩ := List.pairwise_cons.mp nd
    unfold putF
    by_cases e : q = p
    · subst e
      rw [if_pos rfl]
      have hv' : v = c + 1 := by
        rw [hv]
        unfold cntF
        simp
      have rest : ((r.map keyF).map fun kv => if kv.1 = (Sum.inl (q : Int) : Key) then (kv.1, D.int (v : Int)) else kv) = r.map keyF := by
        rw [List.map_map]
        refine List.map_congr_left fun f hf => ?_
        have hne : q ≠ f.1 := n1 f.1 (List.mem_map_of_mem hf)
        show (if (keyF f).1 = _ then _ else _) = _
        rw [if_neg]
        intro z
        have z2 : (f.1 : Int) = (q : Int) := Sum.inl.inj z
        omega
      rw [List.map_cons, List.map_cons, rest, List.map_cons]
      congr 1
      show (if (Sum.inl (q : Int) : Key) = Sum.inl (q : Int) then _ else _) = _
      rw [if_pos rfl, hv']
      rfl
    · rw [if_neg e]
      have h2 : p ∈ r.map (·.1) := by
        rcases List.mem_cons.mp h with z | z
        · exact absurd z.symm e
        · exact z
      have hv2 : v = cntF r p + 1 := by
        rw [hv]
        unfold cntF
        rw [List.find?_cons]
        have : decide ((q, c).1 = p) = false := decide_eq_false e
        rw [this]
      rw [List.map_cons, List.map_cons, put_keyF_in v r n2 h2 hv2, List.map_cons]
      congr 1
      show (if (Sum.inl (q : Int) : Key) = Sum.inl (p : Int) then _ else _) = _
      rw [if_neg]
      intro z
      have z2 : (q : Int) = (p : Int) := Sum.inl.inj z
      omega
theorem put_new {p : Nat} : ∀ fs : List (Nat × Nat), p ∉ fs.map (·.1) → putF fs p = fs ++ [(p, 1)]
  | [], _ => rfl
  | (q, c) :: r, h => by
    unfold putF
    rw [if_neg (fun e => h (by simp [e])), put_new r fun z => h (by
      rw [List.map_cons]
      exact List.mem_cons_of_mem _ z)]
    rfl
theorem any_keyF {p : Nat} {fs : List (Nat × Nat)} : ((fs.map keyF).any fun kv => decide (kv.1 = (Sum.inl (p : Int) : Key))) = decide (p ∈ fs.map (·.1)) := by
  rw [Bool.eq_iff_iff]
  simp only [List.any_eq_true, List.mem_map, decide_eq_true_eq]
  constructor
  · rintro ⟨_, ⟨f, hf, rfl⟩, h⟩
    have z2 : (f.1 : Int) = (p : Int) := Sum.inl.inj h
    exact ⟨f, hf, by omega⟩
  · rintro ⟨f, hf, rfl⟩
    exact ⟨_, ⟨f, hf, rfl⟩, rfl⟩
theorem find_none {p : Nat} {fs : List (Nat × Nat)} (h : p ∉ fs.map (·.1)) : (fs.find? fun f => decide (f.1 = p)) = none := by
  rw [List.find?_eq_none]
  intro f hf
  simp
  intro e
  exact h (by rw [← e]; exact List.mem_map_of_mem hf)
/-- row[p] = row.get(p, 0) + 1 -/
theorem putD_keyF {p : Nat} {fs : List (Nat × Nat)} (nd : (fs.map (·.1)).Nodup) : putD (fs.map keyF) (.inl (p : Int)) (.int ((cntF fs p : Nat) + 1 : Int)) = (putF fs p).map keyF := by
  unfold putD
  rw [any_keyF]
  by_cases h : p ∈ fs.map (·.1)
  · rw [decide_eq_true h, if_pos rfl]
    have e : ((cntF fs p : Nat) + 1 : Int) = ((cntF fs p + 1 : Nat) : Int) := by omega
    rw [e]
    exact put_keyF_in _ fs nd h rfl
  · rw [decide_eq_false h, if_neg (by simp), put_new fs h, List.map_append]
    have : cntF fs p = 0 := by
      unfold cntF
      rw [find_none h]
    rw [this]
    rfl
theorem look_cnt {p : Nat} {fs : List (Nat × Nat)} : (lookD (fs.map keyF) (.inl (p : Int))).getD (.int 0) = .int ((cntF fs p : Nat) : Int) := by
  rw [look_keyF]
  unfold cntF
  cases fs.find? (fun f => decide (f.1 = p)) <;> rfl
theorem cnt_mem {p c : Nat} : ∀ {fs : List (Nat × Nat)}, (fs.map (·.1)).Nodup → (p, c) ∈ fs → cntF fs p = c
  | (q, e) :: r, nd, h => by
    rw [List.map_cons] at nd
    obtain ⟨n1, n2⟩ := List.pairwise_cons.mp nd
    unfold cntF
    rw [List.find?_cons]
    rcases List.mem_cons.mp h with z | z
    · cases z
      simp
    · have hne : q ≠ p := n1 p (List.mem_map_of_mem (f := fun f : Nat × Nat => f.1) z)
      have : decide ((q, e).1 = p) = false := decide_eq_false hne
      rw [this]
      exact cnt_mem n2 z
theorem mem_cnt {p : Nat} : ∀ {fs : List (Nat × Nat)}, p ∈ fs.map (·.1) → (p, cntF fs p) ∈ fs
  | (q, e) :: r, h => by
    unfold cntF
    rw [List.find?_cons]
    by_cases z : q = p
    · subst z
      simp
    · have : decide ((q, e).1 = p) = false := decide_eq_false z
      rw [this]
      rw [List.map_cons] at h
      rcases List.mem_cons.mp h with y | y
      · exact absurd y.symm z
      · exact List.mem_cons_of_mem _ (mem_cnt y)
theorem prod_perm {fs gs : List (Nat × Nat)} (h : fs.Perm gs) : prodL fs = prodL gs := by
  induction h with
  | nil => rfl
  | cons x _ ih => rw [prodL_cons, prodL_cons, ih]
  | swap x y l =>
    rw [prodL_cons, prodL_cons, prodL_cons, prodL_cons]
    ac_rfl
  | trans _ _ h1 h2 => exact h1.trans h2
theorem intKeys_keyF : ∀ fs : List (Nat × Nat), intKeys (fs.map keyF) = some (fs.map fun f => (f.1 : Int))
  | [] => rfl
  | f :: r => by
    show (intKeys (r.map keyF)).map (_ :: ·) = _
    rw [intKeys_keyF r] <;> rfl
/-- the keys sorted, each with its count: a factor list that goes up -/
def sortF (fs : List (Nat × Nat)) : List (Nat × Nat) := (sortI (fs.map fun f => (f.1 : Int))).map fun k => (k.toNat, cntF fs k.toNat)
theorem sortF_perm {fs : List (Nat × Nat)} (nd : (fs.map (·.1)).Nodup) : (sortF fs).Perm fs := by
  have h1 : (sortI (fs.map fun f => (f.1 : Int))).Perm (fs.map fun f => (f.1 : Int)) := List.mergeSort_perm _ _
  have h2 := h1.map fun k => (k.toNat, cntF fs k.toNat)
  refine h2.trans ?_
  rw [List.map_map]
  have : fs.map ((fun k : Int => (k.toNat, cntF fs k.toNat)) ∘ fun f => (f.1 : Int)) = fs := by
    conv => rhs; rw [← List.map_id fs]
    refine List.map_congr_left fun f hf => ?_
    show (((f.1 : Int)).toNat, cntF fs ((f.1 : Int)).toNat) = f
    rw [Int.toNat_natCast, cnt_mem nd (show (f.1, f.2) ∈ fs from hf)]
  rw [this]
theorem sortF_good {fs : List (Nat × Nat)} (nd : (fs.map (·.1)).Nodup) (hp : ∀ f ∈ fs, IsP f.1 ∧ 1 ≤ f.2) : Good (sortF fs) := by
  have perm := sortF_perm nd
  refine ⟨?_, fun f hf => hp f (perm.mem_iff.mp hf)⟩
  have le : (sortI (fs.map fun f => (f.1 : Int))).Pairwise (fun a b => decide (a ≤ b) = true) := List.pairwise_mergeSort (fun a b c h1 h2 => by
    simp at h1 h2 ⊢
    omega) (fun a b => by
    simp
    omega) _
  have p0 : (sortI (fs.map fun f => (f.1 : Int))).Perm (fs.map fun f => (f.1 : Int)) := List.mergeSort_perm _ _
  have nd2 : (sortI (fs.map fun f => (f.1 : Int))).Nodup := p0.nodup_iff.mpr (by
    have e : (fs.map fun f => (f.1 : Int)) = (fs.map (·.1)).map Int.ofNat := by rw [List.map_map] <;> rfl
    rw [e]
    refine List.Pairwise.map _ (fun a b hab e => hab ?_) nd
    exact Int.ofNat.inj e)
  have nn : ∀ z ∈ sortI (fs.map fun f => (f.1 : Int)), 0 ≤ z := fun z hz => by
    obtain ⟨f, _, rfl⟩ := List.mem_map.mp (p0.mem_iff.mp hz)
    exact Int.natCast_nonneg _
  unfold sortF
  rw [List.pairwise_map]
  refine List.Pairwise.imp_of_mem (fun {a b} ha hb hab => ?_) (le.and nd2)
  have h1 := of_decide_eq_true hab.1
  have h2 : a ≠ b := hab.2
  have := nn a ha
  have := nn b hb
  show a.toNat < b.toNat
  omega
/-! how many divisors -/
def cntP (fs : List (Nat × Nat)) : Nat := (fs.map fun f => f.2 + 1).foldr (· * ·) 1
theorem cntP_perm {fs gs : List (Nat × Nat)} (h : fs.Perm gs) : cntP fs = cntP gs := by
  induction h with
  | nil => rfl
  | cons x _ ih =>
    show (x.2 + 1) * cntP _ = (x.2 + 1) * cntP _
    rw [ih]
  | swap x y l =>
    show (y.2 + 1) * ((x.2 + 1) * cntP l) = (x.2 + 1) * ((y.2 + 1) * cntP l)
    ac_rfl
  | trans _ _ h1 h2 => exact h1.trans h2
theorem step_len (ds : List Nat) (f : Nat × Nat) : (dvStep ds f).length = ds.length * (f.2 + 1) := by
  unfold dvStep
  induction ds with
  | nil => simp
  | cons d r ih =>
    rw [List.flatMap_cons, List.length_append, ih, List.length_map, List.length_range, List.length_cons, Nat.add_mul]
    omega
theorem dvs_len : ∀ (fs : List (Nat × Nat)) (ds : List Nat), (fs.foldl dvStep ds).length = ds.length * cntP fs
  | [], ds => by simp [cntP]
  | f :: r, ds => by
    rw [List.foldl_cons, dvs_len r, step_len]
    show ds.length * (f.2 + 1) * cntP r = ds.length * ((f.2 + 1) * cntP r)
    rw [Nat.mul_assoc]
theorem divs_count {fs : List (Nat × Nat)} (h : Good fs) : (divs (prodL fs)).length = cntP fs := by
  obtain ⟨h1, h2⟩ := dvs_all h
  have e := congrArg List.length (sort_divs (prodL_pos h) h1 h2)
  rw [List.length_map, sortI, List.length_mergeSort, List.length_map] at e
  rw [← e]
  have := dvs_len fs [1]
  simpa [dvs] using this
theorem divs_head {n : Nat} (h : 1 ≤ n) : (divs n)[0]? = some 1 := by
  have h1 : 1 ∈ divs n := (mem_divs h).mpr (Nat.one_dvd n)
  have up := up_divs n
  cases e : divs n with
  | nil =>
    rw [e] at h1
    cases h1
  | cons a r =>
    rw [e] at h1 up
    have ha : a ∈ divs n := by rw [e]; exact List.mem_cons_self ..
    have ha2 := Nat.pos_of_dvd_of_pos ((mem_divs h).mp ha) h
    rcases List.mem_cons.mp h1 with z | z
    · rw [← z]
      rfl
    · have := (List.pairwise_cons.mp up).1 1 z
      omega
theorem divs_last {n : Nat} (h : 1 ≤ n) : ∃ r, divs n = r ++ [n] := by
  have h1 : n ∈ divs n := (mem_divs h).mpr (Nat.dvd_refl n)
  have up := up_divs n
  rcases List.eq_nil_or_concat (divs n) with e | ⟨r, a, e⟩
  · rw [e] at h1
    cases h1
  · rw [List.concat_eq_append] at e
    rw [e] at h1 up
    have ha : a ∈ divs n := by rw [e]; simp
    have ha2 := Nat.le_of_dvd h ((mem_divs h).mp ha)
    rcases List.mem_append.mp h1 with z | z
    · have := (List.pairwise_append.mp up).2.2 n z a (by simp)
      omega
    · rw [List.mem_singleton] at z
      exact ⟨r, by rw [e, z]⟩
end Yk02

set_option Elab.async false
set_option linter.all false
set_option maxRecDepth 100000
set_option maxHeartbeats 1000000
namespace Yk02
open PySem PySem.Spec PyProof.Rows L2 SX NT
/-- one turn over the factors -/
noncomputable def turnA : SF := (seqC (asgC (binC ixD (varC 3) (varC 5)) (gTp 2 (gCs (gN 13) (gCs (gN 12) gNl))))
    (seqC (setC 4 (binC mulD (varC 4) (fnC _law_power_c [] (consA (varC 13) (consA (varC 12) nilA)))))
    (ifS (orT (valT (binC (cmpD fun i j => decide (i < j)) (varC 12) (cC (.int 1)))) (orT (notT (truthT (fnC _law_is_prime_c [] (consA (varC 13) nilA)))) (andT (valT (binC (cmpD fun i j => decide (j < i)) (varC 5) (cC (.int 0)))) (valT (binC (cmpD fun i j => decide (j ≤ i)) (binC ixD (binC ixD (varC 3) (binC subD (varC 5) (cC (.int 1)))) (cC (.int 0))) (varC 13)))))) (retC (cC (.bl false))) passC)))
theorem atI_map {f : Nat × Nat → D} {fs : List (Nat × Nat)} {k : Nat} {x : Nat × Nat} (h : fs[k]? = some x) : atI (fs.map f) (k : Int) = some (f x) := atI_nat (by rw [List.getElem?_map, h] <;> rfl)
theorem turnA_ok {u : D} {n d P k : Nat} {fs : List (Nat × Nat)} {G1 G : Hq} {x12 x13 : Option D} {N B C : Eq' → Hq → Prop} {R : D → Hq → Prop} (hg : Good fs) (hp : prodL fs = n) (hn : n ≤ 2000) (hk : k < fs.length) (f1 : Fr [] G1 G) (at_ : G1[P]? = some (.lst (fs.map pcD)))
    (out : ∀ x12 x13 G', Fr [] G1 G' → N [some u, some (.ref d), some (.int n), some (.ref P), some (.int ((prodL (fs.take (k + 1)) : Nat) : Int)), some (.int k), none, none, none, none, none, none, x12, x13, none, none] G') :
    wS (turnA [some u, some (.ref d), some (.int n), some (.ref P), some (.int ((prodL (fs.take k) : Nat) : Int)), some (.int k), none, none, none, none, none, none, x12, x13, none, none] G) N R B C := by
  have hk2 : fs[k]? = some fs[k] := List.getElem?_eq_getElem hk
  obtain ⟨p, c, ef⟩ : ∃ p c, fs[k] = (p, c) := ⟨_, _, rfl⟩
  rw [ef] at hk2
  have hm : (p, c) ∈ fs := List.mem_of_getElem? hk2
  obtain ⟨b1, b2, b3⟩ := good_bits hg hm
  have hpc := hg.pr _ hm
  have tk : prodL (fs.take (k + 1)) = prodL (fs.take k) * p ^ c := by
    rw [List.take_succ, hk2]
    show prodL (fs.take k ++ [(p, c)]) = _
    rw [prodL_append]
    simp
  have hg2 : Good (fs.take (k + 1) ++ fs.drop (k + 1)) := by rw [List.take_append_drop]; exact hg
  have hdrop := prodL_pos hg2.append.2
  have htk : prodL (fs.take (k + 1)) ≤ n := by
    have e : prodL fs = prodL (fs.take (k + 1)) * prodL (fs.drop (k + 1)) := by rw [← prodL_append, List.take_append_drop]
    have := Nat.mul_le_mul_left (prodL (fs.take (k + 1))) hdrop
    omega
  have hppos : 0 < p ^ c := Nat.pow_pos hpc.1.pos
  have htk2 : prodL (fs.take k) ≤ n := by
    have := Nat.mul_le_mul_left (prodL (fs.take k)) hppos
    omega
  have g1 := f1.get at_ (by simp)
  unfold turnA
  simp only [wS_seq, wS_asg, wE_bin, wE_varS, wE_var0, ixD_lst g1, atI_map hk2, oneD_some, wE_ok, pcD, wE_gTp (n := 2) (xs := [.int (p : Int), .int (c : Int)]) rfl, wE_gCs, wE_gN, wE_gNl, List.set_cons_succ, List.set_cons_zero, wS_set, wE_fn, wE_consA, wE_nilA, List.append_nil]
  rw [power_ok (a := p) (e := c) (B := 100) hpc.1.pos (by omega) (by omega) (by omega), wE_ok, mulD_bits (B := 100) (by omega) (by rw [Int.natAbs_natCast]; omega) (by rw [Int.natAbs_natCast]; omega), wE_ok]
  obtain ⟨G2, ep, f2⟩ := prime_ok (G := G) hpc.1 (by omega)
  have d1 : decide ((c : Int) < 1) = false := decide_eq_false (by have := hpc.2; simp at this; omega)
  simp only [wS_if, wE_orT, wE_val, wE_bin, wE_varS, wE_var0, wE_c, cmpD_int, wE_ok, wE_toB, d1, Bool.false_eq_true, if_false, wE_notT, wE_truth, wE_fn, wE_consA, wE_nilA, List.append_nil, ep, truthD, Bool.not_true, wE_andT, decide_eq_true_eq]
  have g2 := (f1.trans f2).get at_ (by simp)
  have step : ((prodL (fs.take k) : Nat) : Int) * ((p ^ c : Nat) : Int) = ((prodL (fs.take (k + 1)) : Nat) : Int) := by rw [tk, Int.natCast_mul]
  rw [step]
  by_cases k0 : (0 : Int) < (k : Int)
  · rw [if_pos k0]
    have hk1 : k - 1 < fs.length := by omega
    have hq : fs[k - 1]? = some fs[k - 1] := List.getElem?_eq_getElem hk1
    have ei : (k : Int) - 1 = ((k - 1 : Nat) : Int) := by omega
    have lt : fs[k - 1].1 < p := by
      have := List.pairwise_iff_getElem.mp hg.up (k - 1) k hk1 hk (by omega)
      rw [ef] at this
      exact this
    have d2 : decide ((p : Int) ≤ (fs[k - 1].1 : Int)) = false := decide_eq_false (by omega)
    have t0 : atI [D.int (fs[k - 1].1 : Int), D.int (fs[k - 1].2 : Int)] 0 = some (.int (fs[k - 1].1 : Int)) := rfl
    simp only [subD_int, wE_ok, ei, ixD_lst g2, atI_map hq, oneD_some, pcD, ixD_tup, t0, cmpD_int, d2, wE_toB, Bool.false_eq_true, if_false, wS_pass]
    exact out _ _ _ (f1.trans f2)
  · rw [if_neg k0]
    simp only [Bool.false_eq_true, if_false, wS_pass]
    exact out _ _ _ (f1.trans f2)
def primes12 : List Nat := [2, 3, 5, 7, 11, 13, 97, 101, 997, 1009, 9973, 99991]
def chk (p : Nat) : Bool := (List.range 320).all fun d => decide (d < 2) || (decide (p ≤ d) || !(p % d == 0))
theorem chk_prime {p : Nat} (h2 : 2 ≤ p) (hs : p < 320 * 320) (h : chk p = true) : IsP p := by
  unfold chk at h
  rw [List.all_eq_true] at h
  rcases Nat.lt_or_ge p 320 with q | q
  · refine ⟨h2, fun d hd => ?_⟩
    have hle := Nat.le_of_dvd (by omega) hd
    have h0 : 0 < d := Nat.pos_of_dvd_of_pos hd (by omega)
    have := h d (List.mem_range.mpr (by omega))
    simp only [Bool.or_eq_true, decide_eq_true_eq, Bool.not_eq_true', beq_eq_false_iff_ne] at this
    rcases this with z | z | z
    · left
      omega
    · right
      omega
    · exact absurd (Nat.mod_eq_zero_of_dvd hd) z
  · refine rest_prime (p := 320) (by omega) hs fun d d2 d3 hd => ?_
    have := h d (List.mem_range.mpr d3)
    simp only [Bool.or_eq_true, decide_eq_true_eq, Bool.not_eq_true', beq_eq_false_iff_ne] at this
    rcases this with z | z | z
    · omega
    · omega
    · exact z (Nat.mod_eq_zero_of_dvd hd)
theorem primes12_ok : ∀ p ∈ primes12, IsP p := by
  have h : (primes12.all fun p => decide (2 ≤ p) && (decide (p < 320 * 320) && chk p)) = true := by decide +kernel
  intro p hp
  have := List.all_eq_true.mp h p hp
  simp only [Bool.and_eq_true, decide_eq_true_eq] at this
  exact chk_prime this.1 this.2.1 this.2.2
/-- one turn of the second half -/
noncomputable def turnB : SF := (seqC (setC 13 (binC ixD (lstC (consA (cC (.int 2)) (consA (cC (.int 3)) (consA (cC (.int 5)) (consA (cC (.int 7)) (consA (cC (.int 11)) (consA (cC (.int 13)) (consA (cC (.int 97)) (consA (cC (.int 101)) (consA (cC (.int 997)) (consA (cC (.int 1009)) (consA (cC (.int 9973)) (consA (cC (.int 99991)) nilA))))))))))))) (fnC _law_draw_c [] (consA (varC 1) (consA (cC (.int 12)) nilA)))))
    (ifS (valT (binC (cmpD fun i j => decide (i ≤ j)) (binC mulD (varC 9) (varC 13)) (binC powD (cC (.int 10)) (cC (.int 12))))) (seqC (setC 9 (binC mulD (varC 9) (varC 13)))
    (asgC (binC addD (get2C (varC 8) (varC 13) (cC (.int 0))) (cC (.int 1))) (gSubC setD (varC 8) (varC 13)))) passC))
structure Row (fs : List (Nat × Nat)) : Prop where
  nd : (fs.map (·.1)).Nodup
  pr : ∀ f ∈ fs, IsP f.1 ∧ 1 ≤ f.2
  le : prodL fs ≤ 10 ^ 12
  few : fs.length ≤ 6
end Yk02

set_option Elab.async false
set_option linter.all false
set_option maxRecDepth 100000
set_option maxHeartbeats 1000000
namespace SX
open PySem PySem.Spec PyProof.Rows L2 NT
section
variable {G : Hq} {σ : Eq'}
theorem get2_ok {o y x : EF} {p : Nat} {kvs : List (Key × D)} {ky z : D} {key : Key} (h : G[p]? = some (.dK kvs)) (ho : o σ G = .ok (.ref p) G) (hy : y σ G = .ok ky G) (hx : x σ G = .ok z G) (hk : keyOf ky = some key) :
    get2C o y x σ G = .ok ((lookD kvs key).getD z) G := by
  unfold get2C
  rw [ho]
  simp only [Rs.bind_ok, isD, h, if_true, hy, hx, Option.bind_some, dictGet, hk, Option.map_some]
theorem setD_dK {p : Nat} {kvs : List (Key × D)} {i : Int} {d : D} (h : G[p]? = some (.dK kvs)) (hl : kvs.length < 16777216) : setD (.ref p) (.int i) d G = .ok () (G.set p (.dK (putD kvs (.inl i) d))) := by
  unfold setD
  simp only [h, keyOf]
  rw [if_pos hl]
theorem ixD_dK {p : Nat} {kvs : List (Key × D)} {i : Int} (h : G[p]? = some (.dK kvs)) : ixD (.ref p) (.int i) G = oneD (lookD kvs (.inl i)) G := by
  unfold ixD
  simp only [h, dictGet, keyOf, Option.map_some]
theorem ixD_lk {p : Nat} {kvs : List (Key × D)} {i : Int} (h : G[p]? = some (.lk kvs)) : ixD (.ref p) (.int i) G = oneD (lookD kvs (.inl i)) G := by
  unfold ixD
  simp only [h, dictGet, keyOf, Option.map_some]
theorem wS_forKeys {i : Nat} {g : GF} {b : SF} {p : Nat} {kvs : List (Key × D)} {N B C : Eq' → Hq → Prop} {R : D → Hq → Prop} (hs : σ[i]? = some (some (.ref p))) (hg : G[p]? = some (.dK kvs)) (I : Nat → Eq' → Hq → Prop) (h0 : I 0 σ (G.set p (.lk kvs)))
    (step : ∀ (k : Nat) (y : Key × D) (σ' : Eq') (G' : Hq), kvs[k]? = some y → I k σ' G' → wE (g (ofKey y.1) σ' G') fun σ1 G1 => wS (b σ1 G1) (I (k + 1)) (fun _ _ => False) (fun _ _ => False) (fun _ _ => False))
    (out : ∀ σ' G', I kvs.length σ' G' → N σ' (G'.set p (.dK kvs))) : wS (forKeysC i g b σ G) N R B C := by
  have q : wS (forL (itK kvs) g b 0 σ (G.set p (.lk kvs))) (fun σ' G' => N σ' (G'.set p (.dK kvs))) (fun _ _ => False) (fun _ _ => False) (fun _ _ => False) := by
    refine wS_forL (kvs.map fun y => ofKey y.1) I (fun k σ G _ => ?_) (fun k d σ' G' hd hI => ?_) (fun σ' G' hI => out σ' G' (by rw [List.length_map] at hI; exact hI)) _ 0 σ _ (Nat.zero_add _) h0
    · unfold itK gives
      rw [List.getElem?_map]
      cases kvs[k]? <;> rfl
    · rw [List.getElem?_map] at hd
      have hex : ∃ y, kvs[k]? = some y ∧ ofKey y.1 = d := Option.map_eq_some_iff.mp hd
      cases hex
      rename_i y hy
      rw [← hy.2]
      exact wE_imp (step k y σ' G' hy.1 hI) fun σ1 G1 z => wS_imp z (fun _ _ z => z) (fun _ _ z => z) (fun _ _ z => z.elim) fun _ _ z => z.elim
  unfold forKeysC
  simp only [hs, hg]
  cases e : forL (itK kvs) g b 0 σ (G.set p (.lk kvs)) with
  | nx σ' G' =>
    rw [e] at q
    exact q
  | rt d G' =>
    rw [e] at q
    exact q.elim
  | bk σ' G' =>
    rw [e] at q
    exact q.elim
  | ct σ' G' =>
    rw [e] at q
    exact q.elim
  | ex _ _ _ _ =>
    rw [e] at q
    exact q.elim
  | bad =>
    rw [e] at q
    exact q.elim
end
end SX
namespace Yk02
open PySem PySem.Spec PyProof.Rows L2 SX NT
structure RowK (k : Nat) (fs : List (Nat × Nat)) : Prop where
  nd : (fs.map (·.1)).Nodup
  pr : ∀ f ∈ fs, IsP f.1 ∧ 1 ≤ f.2
  le : prodL fs ≤ 10 ^ 12
  few : fs.length ≤ k
theorem put_few {p : Nat} : ∀ fs : List (Nat × Nat), (putF fs p).length ≤ fs.length + 1
  | [] => by simp [putF]
  | (q, c) :: r => by
    unfold putF
    split
    · simp
    · have := put_few (p := p) r
      simp only [List.length_cons]
      omega
theorem RowK.put {k p : Nat} {fs : List (Nat × Nat)} (h : RowK k fs) (hp : IsP p) (hl : prodL fs * p ≤ 10 ^ 12) : RowK (k + 1) (putF fs p) := by
  refine ⟨put_nodup fs h.nd, fun f hf => ⟨?_, put_pos fs (fun g hg => (h.pr g hg).2) f hf⟩, by rw [put_prod]; exact hl, Nat.le_trans (put_few fs) (Nat.succ_le_succ h.few)⟩
  rcases (put_keys fs f.1).mp (List.mem_map_of_mem hf) with e | e
  · rw [e]
    exact hp
  · obtain ⟨g, hg, e2⟩ := List.mem_map.mp e
    rw [← e2]
    exact (h.pr g hg).1
theorem turnB_ok {a0 a2 a3 a4 a5 a6 a7 a10 a11 a12 a13 a14 a15 : Option D} {m d p k : Nat} {fs : List (Nat × Nat)} {G : Hq} {N B C : Eq' → Hq → Prop} {R : D → Hq → Prop} (row : RowK k fs) (hk : k ≤ 1000) (hd : Dk m G d) (hm : m < 2 ^ 100)
    (hR : G[p]? = some (.dK (fs.map keyF))) (n1 : p ≠ d) (n2 : p ≠ d - 1)
    (out : ∀ fs' x13 G', RowK (k + 1) fs' → Dk (m + 1) G' d → Fr [d, p] G G' → G'[p]? = some (.dK (fs'.map keyF)) → N [a0, some (.ref d), a2, a3, a4, a5, a6, a7, some (.ref p), some (.int ((prodL fs' : Nat) : Int)), a10, a11, a12, x13, a14, a15] G') :
    wS (turnB [a0, some (.ref d), a2, a3, a4, a5, a6, a7, some (.ref p), some (.int ((prodL fs : Nat) : Int)), a10, a11, a12, a13, a14, a15] G) N R B C := by
  unfold turnB
  simp only [wS_seq, wS_set, wE_bin (g := ixD), wE_lst, wE_consA, wE_c, wE_nilA, wE_fn, wE_varS, wE_var0, List.append_nil, e_draw]
  refine pick_of (xs := primes12.map natD) hd (by omega) (by rfl) (by decide) (by decide) fun x hx G' hd' hf => ?_
  obtain ⟨q, hq, rfl⟩ := List.mem_map.mp hx
  have ip := primes12_ok q hq
  have qs : q ≤ 99991 := by
    have h : (primes12.all fun p => decide (p ≤ 99991)) = true := by decide +kernel
    simpa using List.all_eq_true.mp h q hq
  have hR' : G'[p]? = some (.dK (fs.map keyF)) := hf.get hR (by simpa using n1)
  have le := row.le
  have pw : ∀ G : Hq, powD (.int 10) (.int 12) G = .ok (.int 1000000000000) G := fun G => by
    unfold powD
    simp
  simp only [List.set_cons_succ, List.set_cons_zero, wS_if, wE_val, wE_bin, wE_varS, wE_var0, wE_c, mulD_int (i := ((prodL fs : Nat) : Int)) (j := (q : Int)) (by omega) (by omega), wE_ok, pw, cmpD_int, wE_toB, decide_eq_true_eq]
  have em : ((prodL fs : Nat) : Int) * (q : Int) = ((prodL fs * q : Nat) : Int) := by rw [Int.natCast_mul]
  rw [em]
  by_cases hc : ((prodL fs * q : Nat) : Int) ≤ 1000000000000
  · rw [if_pos hc]
    have g2 := fun {x : Int} => get2_ok (σ := [a0, some (.ref d), a2, a3, a4, a5, a6, a7, some (.ref p), some (.int x), a10, a11, a12, some (natD q), a14, a15]) (o := varC 8) (y := varC 13) (x := cC (.int 0)) (ky := natD q) (z := .int 0) (key := .inl (q : Int)) hR' rfl rfl rfl rfl
    have few := row.few
    simp only [wS_asg, wE_bin, g2, look_cnt, wE_ok, wE_c, addD_int, wE_gSub, wE_varS, wE_var0, setD_dK hR' (by rw [List.length_map]; omega), putD_keyF row.nd, List.set_cons_succ, List.set_cons_zero, wS_seq, wS_set, mulD_int (i := ((prodL fs : Nat) : Int)) (j := (q : Int)) (by omega) (by omega), em]
    rw [← put_prod]
    exact out (putF fs q) _ _ (row.put ip (by omega)) (hd'.keep (Fr.set (S := [p]) (by simp)) (by simpa using n1.symm) (by simpa using n2.symm)) ((hf.mono (by simp)).trans (Fr.set (by simp))) (set_self hR')
  · rw [if_neg hc, wS_pass]
    exact out fs _ _ ⟨row.nd, row.pr, row.le, Nat.le_succ_of_le row.few⟩ hd' (hf.mono (by simp)) hR'
/-- sorted keys with their counts -/
theorem due_ok {a0 a1 a2 a3 a4 a5 a6 a7 a9 a10 a11 a12 a13 a14 a15 : Option D} {p : Nat} {fs : List (Nat × Nat)} {G : Hq} {Q : D → Hq → Prop} (row : RowK 6 fs) (hR : G[p]? = some (.dK (fs.map keyF)))
    (out : Q (.ref (G.length + 1)) (G ++ [.lst ((sortI (fs.map fun f => (f.1 : Int))).map .int)] ++ [.lst ((sortF fs).map pcD)])) :
    wE (lcC (iterC (callC sortedKD (consA (varC 8) nilA))) (gN 13) yesT (tupC (consA (varC 13) (consA (binC ixD (varC 8) (varC 13)) nilA))) [13] [a0, a1, a2, a3, a4, a5, a6, a7, some (.ref p), a9, a10, a11, a12, a13, a14, a15] G) Q := by
  have few := row.few
  have es : sortedKD [.ref p] G = .ok (.ref G.length) (G ++ [.lst ((sortI (fs.map fun f => (f.1 : Int))).map .int)]) := by
    unfold sortedKD
    simp only [hR, intKeys_keyF]
    rw [if_pos (by rw [List.length_map]; omega)]
  have hp0 : (sortI (fs.map fun f => (f.1 : Int))).Perm (fs.map fun f => (f.1 : Int)) := List.mergeSort_perm _ _
  simp only [wE_lc, wE_iter, wE_call, wE_consA, wE_varS, wE_var0, wE_nilA, es, wE_ok, iterD_ref (lstOf_lst at_last)]
  have hl : (G ++ [SX.C.lst ((sortI (fs.map fun f => (f.1 : Int))).map D.int)]).length = G.length + 1 := by simp
  have hR2 : (G ++ [SX.C.lst ((sortI (fs.map fun f => (f.1 : Int))).map D.int)])[p]? = some (.dK (fs.map keyF)) := by
    rw [List.getElem?_append_left (lt_of_at hR)]
    exact hR
  have hG1 : (G ++ [SX.C.lst ((sortI (fs.map fun f => (f.1 : Int))).map D.int)])[G.length]? = some (.lst ((sortI (fs.map fun f => (f.1 : Int))).map D.int)) := at_last
  generalize G ++ [SX.C.lst ((sortI (fs.map fun f => (f.1 : Int))).map D.int)] = G1 at *
  rw [← hl] at out
  refine lc_sel (sortI (fs.map fun f => (f.1 : Int))) D.int (fun k => pcD (k.toNat, cntF fs k.toNat)) (fun _ => true) (by rw [hp0.length_eq, List.length_map]; omega) (fun j acc => src_itL (lstOf_lst (by rw [List.getElem?_append_left (lt_of_at hG1)]; exact hG1))) (fun k hk acc => ?_) ?_
  · obtain ⟨f, hf, rfl⟩ := List.mem_map.mp (hp0.mem_iff.mp hk)
    have hR3 : (G1 ++ [SX.C.lst acc])[p]? = some (.dK (fs.map keyF)) := by
      rw [List.getElem?_append_left (lt_of_at hR2)]
      exact hR2
    have lk : lookD (fs.map keyF) (.inl (f.1 : Int)) = some (.int ((cntF fs f.1 : Nat) : Int)) := by
      rw [look_keyF]
      have hm := mem_cnt (p := f.1) (List.mem_map_of_mem (f := fun f : Nat × Nat => f.1) hf)
      unfold cntF
      cases e : fs.find? (fun g => decide (g.1 = f.1)) with
      | some g => rfl
      | none =>
        have := List.find?_eq_none.mp e f hf
        simp at this
    simp only [wE_gN, wipeD, List.set_cons_succ, List.set_cons_zero, wE_yes, wE_tup, wE_consA, wE_bin, wE_varS, wE_var0, wE_nilA, ixD_dK hR3, lk, oneD_some, wE_ok]
    refine ⟨trivial, by simp, fun _ => ⟨?_, by simp⟩⟩
    simp [pcD]
  · have e : (sortI (fs.map fun f => (f.1 : Int))).filter (fun _ => true) = sortI (fs.map fun f => (f.1 : Int)) := List.filter_eq_self.mpr fun _ _ => rfl
    rw [e]
    have e2 : (sortI (fs.map fun f => (f.1 : Int))).map (fun k => pcD (k.toNat, cntF fs k.toNat)) = (sortF fs).map pcD := by
      unfold sortF
      rw [List.map_map] <;> rfl
    rw [e2]
    exact out
end Yk02

set_option Elab.async false
set_option linter.all false
set_option maxRecDepth 100000
set_option maxHeartbeats 1000000
namespace Yk02
open PySem PySem.Spec PyProof.Rows L2 SX NT
theorem sum_bits {B : Nat} (f : Nat → Nat) : ∀ l : List Nat, (∀ a ∈ l, f a < B) → ((l.map fun d => ((f d : Nat) : Int)).sum).natAbs ≤ l.length * B
  | [], _ => by simp
  | a :: l, h => by
    have h1 := h a (List.mem_cons_self ..)
    have h2 := sum_bits f l fun b hb => h b (List.mem_cons_of_mem _ hb)
    rw [List.map_cons, List.sum_cons, List.length_cons, Nat.add_mul]
    have h3 := Int.natAbs_add_le ((f a : Nat) : Int) ((l.map fun d => ((f d : Nat) : Int)).sum)
    have h4 : ((f a : Nat) : Int).natAbs = f a := Int.natAbs_natCast _
    omega
abbrev S1 (n k : Nat) : Int := ((divs n).map fun d => ((d ^ k : Nat) : Int)).sum
theorem pow_small {n k a : Nat} (h1 : 1 ≤ n) (hn : n ≤ 2000) (hk : k ≤ 100) (ha : a ∈ divs n) : a ^ k < 2 ^ 1200 := by
  have hd := (mem_divs h1).mp ha
  have h2 := Nat.le_of_dvd h1 hd
  have h4 : a ^ k ≤ 2048 ^ k := Nat.pow_le_pow_left (by omega) k
  have h5 : 2048 ^ k ≤ 2048 ^ 100 := Nat.pow_le_pow_right (by omega) hk
  have h6 : (2048 : Nat) ^ 100 < 2 ^ 1200 := by decide +kernel
  exact Nat.lt_of_le_of_lt (Nat.le_trans h4 h5) h6
theorem S1_small {n k : Nat} (h1 : 1 ≤ n) (hn : n ≤ 2000) (hk : k ≤ 100) : (S1 n k).natAbs < 2 ^ 1300 := by
  have h2 := sum_bits (B := 2 ^ 1200) (fun d => d ^ k) (divs n) fun a ha => pow_small h1 hn hk ha
  have h3 := divs_len n
  have h4 : (divs n).length * 2 ^ 1200 ≤ 2000 * 2 ^ 1200 := Nat.mul_le_mul_right _ (by omega)
  have h5 : 2000 * 2 ^ 1200 < 2 ^ 1300 := by decide +kernel
  exact Nat.lt_of_le_of_lt (Nat.le_trans h2 h4) h5
/-- what the two sides of the first comparison are -/
abbrev pyA (n k : Nat) : PyData := .list [.int n, .list ((divs n).map fun d : Nat => PyData.int (d : Int)), .int (S1 n k)]
theorem pyA_ok {n k : Nat} (h1 : 1 ≤ n) (hn : n ≤ 2000) (hk : k ≤ 100) : fineP (pyA n k) = true ∧ (pyA n k).depth ≤ 60 ∧ szP (pyA n k) ≤ 16777216 := by
  have hd : ∀ d ∈ divs n, (d : Int).natAbs < 2 ^ 11 := fun d hd => by
    have := Nat.le_of_dvd h1 ((mem_divs h1).mp hd)
    omega
  have hS := S1_small h1 hn hk
  have hl := divs_len n
  have f1 : finePs ((divs n).map fun d : Nat => PyData.int (d : Int)) = true := fine_map fun d h => fine_int (hd d h) (by omega)
  have s1 : szPs ((divs n).map fun d : Nat => PyData.int (d : Int)) ≤ 14 * (divs n).length := sz_map fun d h => by
    have := sz_int (hd d h) (by omega)
    omega
  have d1 : PyData.depthAll ((divs n).map fun d : Nat => PyData.int (d : Int)) ≤ 0 := depth_map fun d h => by simp [PyData.depth]
  have f2 : fineP (.int (n : Int)) = true := fine_int (k := 11) (by omega) (by omega)
  have f3 : fineP (.int (S1 n k)) = true := fine_int hS (by omega)
  have s2 := sz_int (i := (n : Int)) (k := 11) (by omega) (by omega)
  have s3 := sz_int hS (by omega)
  refine ⟨?_, ?_, ?_⟩
  · simp only [pyA, fineP, finePs, f1, Bool.and_true, Bool.and_eq_true]
    simp only [fineP] at f2 f3
    exact ⟨f2, trivial, f3⟩
  · simp only [pyA, PyData.depth, PyData.depthAll]
    omega
  · simp only [pyA, szP, szPs] at s1 s2 s3 ⊢
    omega
abbrev pyF (fs : List (Nat × Nat)) : PyData := .list (fs.map fun f => .tuple [.int (f.1 : Int), .int (f.2 : Int)])
theorem pyF_ok {fs : List (Nat × Nat)} {n : Nat} (hg : Good fs) (hp : prodL fs = n) (hn : n < 2 ^ 60) (hl : fs.length ≤ 2000) : fineP (pyF fs) = true ∧ (pyF fs).depth ≤ 2 ∧ szP (pyF fs) ≤ 400000 := by
  have hb : ∀ f ∈ fs, ((f.1 : Int).natAbs < 2 ^ 60 ∧ (f.2 : Int).natAbs < 2 ^ 60) := fun f hf => by
    obtain ⟨b1, b2, b3⟩ := good_bits hg (show (f.1, f.2) ∈ fs from hf)
    omega
  have f1 : finePs (fs.map fun f => PyData.tuple [.int (f.1 : Int), .int (f.2 : Int)]) = true := fine_map fun f hf => by
    have h1 := fine_int (hb f hf).1 (by omega)
    have h2 := fine_int (hb f hf).2 (by omega)
    simp only [fineP, finePs, Bool.and_true, Bool.and_eq_true] at h1 h2 ⊢
    exact ⟨h1, h2⟩
  have s1 : szPs (fs.map fun f => PyData.tuple [.int (f.1 : Int), .int (f.2 : Int)]) ≤ 150 * fs.length := sz_map fun f hf => by
    have h1 := sz_int (hb f hf).1 (by omega)
    have h2 := sz_int (hb f hf).2 (by omega)
    simp only [szP, szPs] at h1 h2 ⊢
    omega
  have d1 : PyData.depthAll (fs.map fun f => PyData.tuple [.int (f.1 : Int), .int (f.2 : Int)]) ≤ 1 := depth_map fun f hf => by
    simp [PyData.depth, PyData.depthAll]
  refine ⟨by simpa only [pyF, fineP] using f1, ?_, ?_⟩
  · simp only [pyF, PyData.depth]
    omega
  · simp only [pyF, szP]
    omega
theorem toPy_ints {G : Hq} {n p : Nat} {l : List Nat} (h : G[p]? = some (.lst (l.map natD))) : toPy G (n + 1) (.ref p) = some (.list (l.map fun d : Nat => PyData.int (d : Int))) :=
  toPy_lst h (toPyL_map fun a _ => toPy_int)
theorem toPy_facs {G : Hq} {n p : Nat} {fs : List (Nat × Nat)} (h : G[p]? = some (.lst (fs.map pcD))) : toPy G (n + 2) (.ref p) = some (pyF fs) :=
  toPy_lst h (toPyL_map fun f _ => toPy_tup (toPyL_cons toPy_int (toPyL_cons toPy_int toPyL_nil)))
theorem cnt_le {fs : List (Nat × Nat)} (h : ∀ f ∈ fs, IsP f.1 ∧ 1 ≤ f.2) : cntP fs ≤ prodL fs := by
  induction fs with
  | nil => exact Nat.le_refl _
  | cons f r ih =>
    have i := ih fun g hg => h g (List.mem_cons_of_mem _ hg)
    have q := h f (List.mem_cons_self ..)
    have h1 : f.2 < 2 ^ f.2 := Nat.lt_two_pow_self
    have h2 : 2 ^ f.2 ≤ f.1 ^ f.2 := Nat.pow_le_pow_left q.1.1 _
    show (f.2 + 1) * cntP r ≤ _
    rw [prodL_cons]
    exact Nat.mul_le_mul (by omega) i
theorem prod_take {fs : List (Nat × Nat)} (h : ∀ f ∈ fs, IsP f.1 ∧ 1 ≤ f.2) (k : Nat) : prodL (fs.take k) ≤ prodL fs := by
  have pos : ∀ gs : List (Nat × Nat), (∀ f ∈ gs, IsP f.1 ∧ 1 ≤ f.2) → 0 < prodL gs := by
    intro gs hg
    induction gs with
    | nil => simp
    | cons f r ih =>
      rw [prodL_cons]
      exact Nat.mul_pos (Nat.pow_pos (hg f (List.mem_cons_self ..)).1.pos) (ih fun g hh => hg g (List.mem_cons_of_mem _ hh))
  have e : prodL fs = prodL (fs.take k) * prodL (fs.drop k) := by rw [← prodL_append, List.take_append_drop]
  have := pos (fs.drop k) fun f hf => h f (List.mem_of_mem_drop hf)
  rw [e]
  exact Nat.le_mul_of_pos_right _ this
theorem cnt_take {fs : List (Nat × Nat)} {k : Nat} {f : Nat × Nat} (h : fs[k]? = some f) : cntP (fs.take (k + 1)) = cntP (fs.take k) * (f.2 + 1) := by
  have ap : ∀ xs ys : List (Nat × Nat), cntP (xs ++ ys) = cntP xs * cntP ys := by
    intro xs ys
    induction xs with
    | nil => show cntP ys = 1 * cntP ys; omega
    | cons x r ih =>
      show (x.2 + 1) * cntP (r ++ ys) = (x.2 + 1) * cntP r * cntP ys
      rw [ih, Nat.mul_assoc]
  rw [List.take_succ, h]
  show cntP (fs.take k ++ [f]) = _
  rw [ap]
  show _ * ((f.2 + 1) * 1) = _
  rw [Nat.mul_one]
theorem take_pr {fs : List (Nat × Nat)} (h : ∀ f ∈ fs, IsP f.1 ∧ 1 ≤ f.2) (k : Nat) : ∀ f ∈ fs.take k, IsP f.1 ∧ 1 ≤ f.2 := fun f hf => h f (List.mem_of_mem_take hf)
theorem set_back {G : Hq} {p : Nat} {c c' : SX.C} (h : G[p]? = some c) : (G.set p c').set p c = G := by
  rw [List.set_set]
  exact List.ext_getElem? fun i => by
    by_cases e : p = i
    · subst e
      rw [set_self h, h]
    · rw [List.getElem?_set_ne e]
abbrev pyB (gs : List (Nat × Nat)) (c g : Nat) : PyData := .list [pyF gs, .int (c : Int), .int 1, .int (g : Int)]
theorem pyB_ok {gs : List (Nat × Nat)} {c g : Nat} (hg : Good gs) (hp : prodL gs = g) (hn : g < 2 ^ 44) (hl : gs.length ≤ 2000) (hc : c ≤ g) : fineP (pyB gs c g) = true ∧ (pyB gs c g).depth ≤ 60 ∧ szP (pyB gs c g) ≤ 16777216 := by
  obtain ⟨f0, d0, s0⟩ := pyF_ok hg hp (by omega) hl
  have f1 : fineP (.int (c : Int)) = true := fine_int (k := 44) (by omega) (by omega)
  have f2 : fineP (.int (g : Int)) = true := fine_int (k := 44) (by omega) (by omega)
  have f3 : fineP (.int 1) = true := fine_int (k := 44) (by omega) (by omega)
  have s1 := sz_int (i := (c : Int)) (k := 44) (by omega) (by omega)
  have s2 := sz_int (i := (g : Int)) (k := 44) (by omega) (by omega)
  have s3 := sz_int (i := 1) (k := 44) (by omega) (by omega)
  refine ⟨?_, ?_, ?_⟩
  · rw [pyB]
    simp only [fineP] at f0 f1 f2 f3 ⊢
    simp only [finePs, fineP, Bool.and_true, Bool.and_eq_true]
    exact ⟨f0, f1, f3, f2⟩
  · simp only [pyB, PyData.depth, PyData.depthAll] at d0 ⊢
    omega
  · simp only [pyB, szP, szPs] at s0 s1 s2 s3 ⊢
    omega
theorem law_first {u : D} {G : Hq} {ns : List Int} (h : lstOf G u = some (ns.map .int)) : wE (law_c [u] G) fun v _ => v = .bl true := by
  unfold law_c
  rw [wE_body]
  show wS (law_b [some u, none, none, none, none, none, none, none, none, none, none, none, none, none, none, none] G) _ _ _ _
  unfold law_b
  simp only [e_deck, e_draw, e_primes, e_divisors, e_is]
  -- the deck
  rw [wS_seq]
  simp only [wS_set, wE_fn, wE_consA, wE_varS, wE_var0, wE_nilA, List.append_nil]
  refine wE_imp (deck_ok h) fun v G1 hv => ?_
  obtain ⟨d, rfl, _, hd1, _, _⟩ := hv
  simp only [List.set_cons_succ, List.set_cons_zero]
  -- n
  rw [wS_seq]
  simp only [wS_set, wE_bin, wE_c, wE_fn, wE_consA, wE_varS, wE_var0, wE_nilA, wE_lst, List.append_nil]
  refine pick_of (xs := [.int 30, .int 400, .int 2000]) hd1 (by omega) (by rfl) (by decide) (by decide) fun x hx G2 hd2 hf2 => ?_
  have hx' : ∃ b : Nat, x = .int b ∧ 0 < b ∧ b ≤ 2000 := by
    simp only [List.mem_cons, List.not_mem_nil, or_false] at hx
    rcases hx with rfl | rfl | rfl
    · exact ⟨30, rfl, by omega, by omega⟩
    · exact ⟨400, rfl, by omega, by omega⟩
    · exact ⟨2000, rfl, by omega, by omega⟩
  obtain ⟨b, rfl, hb0, hb1⟩ := hx'
  refine draw_of hd2 (by omega) (by omega) (by omega) fun r G3 hr hd3 hf3 => ?_
  have en : (1 : Int) + (r : Int) = ((r + 1 : Nat) : Int) := by omega
  simp only [addD_int, wE_ok, List.set_cons_succ, List.set_cons_zero, en]
  have hn2 : r + 1 ≤ 2000 := by omega
  have hn1 : 1 ≤ r + 1 := by omega
  generalize r + 1 = n at hn1 hn2 ⊢
  clear hr hb0 hb1 hf2 hf3 hd1 hd2 en
  -- the factors
  obtain ⟨fs, ef, hg, hp, hfl⟩ := primes_ok (n := n) (G := G3) hn1 (by omega)
  rw [wS_seq]
  simp only [wS_set, wE_fn, wE_consA, wE_varS, wE_var0, wE_nilA, List.append_nil, ef, wE_ok, List.set_cons_succ, List.set_cons_zero]
  have at4 : (G3 ++ [SX.C.lst (fs.map pcD)])[G3.length]? = some (.lst (fs.map pcD)) := at_last
  have hd4 := hd3.fr (Fr.new (c := .lst (fs.map pcD)))
  generalize G3 ++ [SX.C.lst (fs.map pcD)] = G4 at at4 hd4 ⊢
  have hPd := hd3.lt
  generalize G3.length = P at at4 hPd ⊢
  rw [wS_seq]
  simp only [wS_set, wE_c, List.set_cons_succ, List.set_cons_zero]
  rw [wS_seq]
  simp only [wS_for, wE_src, wE_consA, wE_call, wE_varS, wE_var0, wE_nilA, lenD_of (lstOf_lst at4), wE_ok]
  rw [List.length_map, rangeD1 (small_of (by omega) (by omega)), wE_ok, Int.toNat_natCast]
  refine wS_forR (fun k σ G' => ∃ x5 x12 x13, σ = [some u, some (.ref d), some (.int n), some (.ref P), some (.int ((prodL (fs.take k) : Nat) : Int)), x5, none, none, none, none, none, none, x12, x13, none, none] ∧ Fr [] G4 G') ⟨none, none, none, by simp, Fr.refl⟩ (fun k hk σ G' hI => ?_) (fun σ G' hI => ?_)
  · obtain ⟨x5, x12, x13, rfl, f4⟩ := hI
    have hz : (0 : Int) + (k : Int) * 1 = (k : Int) := by omega
    simp only [wE_gN, List.set_cons_succ, List.set_cons_zero, hz]
    exact turnA_ok hg hp hn2 hk f4 at4 fun y12 y13 G'' f'' => ⟨_, _, _, rfl, f''⟩
  obtain ⟨x5, x12, x13, rfl, f4⟩ := hI
  rw [List.take_length, hp]
  have hd5 := hd4.fr f4
  have at5 := f4.get at4 (by simp)
  clear hd4 at4 f4 hd3 ef
  -- its divisors
  rw [wS_seq]
  simp only [wS_set, wE_fn, wE_consA, wE_varS, wE_var0, wE_nilA, List.append_nil, ldiv_ok (G := G') hn1 hn2, wE_ok, List.set_cons_succ, List.set_cons_zero]
  have hd6 := hd5.fr (Fr.new (c := .lst ((divs n).map natD)))
  have at6 := (Fr.new (S := []) (c := .lst ((divs n).map natD))).get at5 (by simp)
  have pt6 : (G' ++ [SX.C.lst ((divs n).map natD)])[G'.length]? = some (.lst ((divs n).map natD)) := at_last
  generalize G' ++ [SX.C.lst ((divs n).map natD)] = G6 at hd6 at6 pt6 ⊢
  have hTd := hd5.lt
  generalize G'.length = T at pt6 hTd ⊢
  clear hd5 at5
  -- the power
  rw [wS_seq]
  simp only [wS_set, wE_bin, wE_c, wE_fn, wE_consA, wE_varS, wE_var0, wE_nilA, wE_lst, List.append_nil]
  refine pick_of (xs := [.int 4, .int 14, .int 101]) hd6 (by omega) (by rfl) (by decide) (by decide) fun x hx G7 hd7 hf7 => ?_
  have hx' : ∃ b : Nat, x = .int b ∧ 0 < b ∧ b ≤ 101 := by
    simp only [List.mem_cons, List.not_mem_nil, or_false] at hx
    rcases hx with rfl | rfl | rfl
    · exact ⟨4, rfl, by omega, by omega⟩
    · exact ⟨14, rfl, by omega, by omega⟩
    · exact ⟨101, rfl, by omega, by omega⟩
  obtain ⟨b, rfl, hb0, hb1⟩ := hx'
  refine draw_of hd7 (by omega) (by omega) (by omega) fun k G8 hk hd8 hf8 => ?_
  have hk : k ≤ 100 := by omega
  simp only [List.set_cons_succ, List.set_cons_zero]
  -- the first comparison
  have fr68 : Fr [d] G6 G8 := hf7.trans hf8
  have dT : T ≠ d ∧ P ≠ d := ⟨by omega, by omega⟩
  have at8 := fr68.get at6 (by simpa using dT.2)
  have pt8 := fr68.get pt6 (by simpa using dT.1)
  clear hf7 hf8 fr68 hd7 hd6 at6 pt6
  rw [wS_seq]
  simp only [wS_if, wE_notT, wE_truth, wE_fn, wE_consA, wE_lst, wE_varS, wE_var0, wE_nilA, List.append_nil]
  obtain ⟨p9, G9, e9, f9, pt9, _⟩ := divisors_ok (n := n) (G := G8) hn1 (by omega)
  rw [e9, wE_ok]
  obtain ⟨G10, e10, f10⟩ := dsum_ok (G := G9) hn1 hn2 hk
  rw [e10, wE_ok]
  have pA := (f10.trans (Fr.new (c := .lst [.int (n : Int), .ref p9, .int (S1 n k)]))).get pt9 (by simp)
  have aA : (G10 ++ [SX.C.lst [.int (n : Int), .ref p9, .int (S1 n k)]])[G10.length]? = some (.lst [.int (n : Int), .ref p9, .int (S1 n k)]) := at_last
  have f11 : Fr [] G8 (G10 ++ [SX.C.lst [.int (n : Int), .ref p9, .int (S1 n k)]]) := f9.trans (f10.trans Fr.new)
  generalize G10 ++ [SX.C.lst [.int (n : Int), .ref p9, .int (S1 n k)]] = G11 at pA aA f11 ⊢
  generalize G10.length = A at aA ⊢
  have at11 := f11.get at8 (by simp)
  have pt11 := f11.get pt8 (by simp)
  have hd11 := hd8.fr f11
  clear at8 pt8 hd8 f11 e9 e10 f9 f10 pt9
  simp only [wE_call, wE_consA, wE_nilA, wE_lc, wE_iter, wE_varS, wE_var0, iterD_ref (lstOf_lst pt11), wE_ok]
  refine lc_map (divs n) natD (fun a => natD (a ^ k)) (by have := divs_len n; omega) (fun j acc => src_itL (lstOf_lst (by rw [List.getElem?_append_left (lt_of_at pt11)]; exact pt11))) (fun a ha acc => ?_) ?_ (fun a ha acc => ?_)
  · simp only [wE_gN, wipeD, List.set_cons_succ, List.set_cons_zero, wE_yes, wE_fn, wE_consA, wE_nilA, wE_varS, wE_var0, List.append_nil, power_ok (a := a) (e := k) (B := 1200) (Nat.pos_of_dvd_of_pos ((mem_divs hn1).mp ha) hn1) (by omega) (by omega) (pow_small hn1 hn2 hk ha), wE_ok]
    simp
  rotate_left
  · simp only [wE_gN, wipeD, List.set_cons_succ, List.set_cons_zero, wE_yes]
  have e3 : (divs n).map (fun a => natD (a ^ k)) = ((divs n).map fun d => ((d ^ k : Nat) : Int)).map D.int := by
    rw [List.map_map] <;> rfl
  have es : sumD [.ref G11.length] (G11 ++ [SX.C.lst ((divs n).map fun a => natD (a ^ k))]) = .ok (.int (S1 n k)) (G11 ++ [SX.C.lst ((divs n).map fun a => natD (a ^ k))]) := by
    unfold sumD
    simp only [lstOf_lst at_last, e3, Option.bind_some, intsD_map]
  rw [es, wE_ok]
  have f12 : Fr [] G11 (G11 ++ [SX.C.lst ((divs n).map fun a => natD (a ^ k))] ++ [SX.C.lst [.int (n : Int), .ref T, .int (S1 n k)]]) := Fr.new.trans Fr.new
  have aB : (G11 ++ [SX.C.lst ((divs n).map fun a => natD (a ^ k))] ++ [SX.C.lst [.int (n : Int), .ref T, .int (S1 n k)]])[(G11 ++ [SX.C.lst ((divs n).map fun a => natD (a ^ k))]).length]? = some (.lst [.int (n : Int), .ref T, .int (S1 n k)]) := at_last
  generalize G11 ++ [SX.C.lst ((divs n).map fun a => natD (a ^ k))] ++ [SX.C.lst [.int (n : Int), .ref T, .int (S1 n k)]] = G12 at f12 aB ⊢
  generalize (G11 ++ [SX.C.lst ((divs n).map fun a => natD (a ^ k))]).length = B at aB ⊢
  have okA := pyA_ok hn1 hn2 hk
  have tA : toPy G12 24 (.ref A) = some (pyA n k) := toPy_lst (f12.get aA (by simp)) (toPyL_cons toPy_int (toPyL_cons (toPy_ints (f12.get pA (by simp))) (toPyL_cons toPy_int toPyL_nil)))
  have tB : toPy G12 24 (.ref B) = some (pyA n k) := toPy_lst aB (toPyL_cons toPy_int (toPyL_cons (toPy_ints (f12.get pt11 (by simp))) (toPyL_cons toPy_int toPyL_nil)))
  rw [is_same tA tB okA.1 okA.2.1 okA.2.2, wE_ok]
  simp only [truthD, wE_ok, Bool.not_true, Bool.false_eq_true, if_false, wS_pass]
  have at12 := f12.get at11 (by simp)
  have hd12 := hd11.fr f12
  clear tA tB aA aB pA pt11 at11 hd11 f12 es e3 okA
  -- the second
  rw [wS_seq]
  simp only [wS_if, wE_notT, wE_truth, wE_fn, wE_consA, wE_varS, wE_var0, wE_nilA, List.append_nil, wE_lc, wE_iter, iterD_ref (lstOf_lst at12), wE_ok]
  refine lc_map fs pcD pcD (by omega) (fun j acc => src_itL (lstOf_lst (by rw [List.getElem?_append_left (lt_of_at at12)]; exact at12))) (fun f hf acc => ?_) ?_ (fun f hf acc => ?_)
  · simp only [pcD, wE_gTp (n := 2) (xs := [.int (f.1 : Int), .int (f.2 : Int)]) rfl, wE_gCs, wE_gN, wE_gNl, wipeD, List.set_cons_succ, List.set_cons_zero, wE_yes, wE_tup, wE_consA, wE_nilA, wE_varS, wE_var0]
    simp
  rotate_left
  · simp only [pcD, wE_gTp (n := 2) (xs := [.int (f.1 : Int), .int (f.2 : Int)]) rfl, wE_gCs, wE_gN, wE_gNl, wE_yes]
  have f13 : Fr [] G12 (G12 ++ [SX.C.lst (fs.map pcD)]) := Fr.new
  have aB : (G12 ++ [SX.C.lst (fs.map pcD)])[G12.length]? = some (.lst (fs.map pcD)) := at_last
  generalize G12 ++ [SX.C.lst (fs.map pcD)] = G13 at f13 aB ⊢
  have okF := pyF_ok hg hp (by omega) (by omega)
  rw [is_same (toPy_facs (f13.get at12 (by simp))) (toPy_facs aB) okF.1 (Nat.le_trans okF.2.1 (by omega)) (Nat.le_trans okF.2.2 (by omega)), wE_ok]
  simp only [truthD, wE_ok, Bool.not_true, Bool.false_eq_true, if_false, wS_pass]
  have hd13 := hd12.fr f13
  clear okF aB f13 hd12 at12
  -- the row
  rw [wS_seq]
  simp only [wS_set]
  show wS (seqC _ _ (List.set _ _ (some (D.ref G13.length))) (G13 ++ [SX.C.dK []])) _ _ _ _
  have hRd := hd13.lt
  have hd14 := hd13.fr (Fr.new (c := .dK []))
  have at14 : (G13 ++ [SX.C.dK []])[G13.length]? = some (.dK (([] : List (Nat × Nat)).map keyF)) := at_last
  generalize G13 ++ [SX.C.dK []] = G14 at hd14 at14 ⊢
  generalize G13.length = R at hRd at14 ⊢
  clear hd13
  simp only [List.set_cons_succ, List.set_cons_zero]
  rw [wS_seq]
  simp only [wS_set, wE_c, List.set_cons_succ, List.set_cons_zero]
  rw [wS_seq]
  simp only [wS_for, wE_src, wE_consA, wE_c, wE_nilA]
  rw [rangeD1 (small_of (by omega) (by omega)), wE_ok]
  refine wS_forR (fun j σ G' => ∃ (gs : List (Nat × Nat)) (x10 x13 : Option D), σ = [some u, some (.ref d), some (.int n), some (.ref P), some (.int (n : Int)), x5, some (.ref T), some (.int (k : Int)), some (.ref R), some (.int ((prodL gs : Nat) : Int)), x10, none, x12, x13, none, none] ∧ RowK j gs ∧ Dk (0 + 1 + 1 + 1 + 1 + j) G' d ∧ G'[R]? = some (.dK (gs.map keyF)))
    ⟨[], none, x13, by simp, ⟨by simp, by simp, by simp, by simp⟩, hd14, at14⟩ (fun j hj σ G' hI => ?_) (fun σ G' hI => ?_)
  · obtain ⟨gs, x10, x13, rfl, row, hd, hR⟩ := hI
    have t := turnB_ok (a0 := some u) (a2 := some (.int n)) (a3 := some (.ref P)) (a4 := some (.int (n : Int))) (a5 := x5) (a6 := some (.ref T)) (a7 := some (.int (k : Int))) (a10 := some (.int (0 + (j : Int) * 1))) (a11 := none) (a12 := x12) (a13 := x13) (a14 := none) (a15 := none) row (by omega) hd (by omega) hR (by omega) (by omega)
      (N := fun σ G' => ∃ (gs : List (Nat × Nat)) (x10 x13 : Option D), σ = [some u, some (.ref d), some (.int n), some (.ref P), some (.int (n : Int)), x5, some (.ref T), some (.int (k : Int)), some (.ref R), some (.int ((prodL gs : Nat) : Int)), x10, none, x12, x13, none, none] ∧ RowK (j + 1) gs ∧ Dk (0 + 1 + 1 + 1 + 1 + (j + 1)) G' d ∧ G'[R]? = some (.dK (gs.map keyF)))
      (R := fun _ _ => False) (B := fun _ _ => False) (C := fun _ _ => False) fun gs' x13' G'' row' hd' _ hR' => ⟨gs', _, x13', rfl, row', hd', hR'⟩
    simp only [turnB, e_draw] at t
    simp only [wE_gN, List.set_cons_succ, List.set_cons_zero]
    exact wS_imp t (fun _ _ q => q) (fun _ _ q => q.elim) (fun _ _ q => q.elim) fun _ _ q => q.elim
  clear hd14 at14 hfl hg hp
  obtain ⟨gs, x10, x13, rfl, row, _, hR⟩ := hI
  -- due
  rw [wS_seq, wS_set]
  refine due_ok row hR ?_
  have hL : (G' ++ [SX.C.lst ((sortI (gs.map fun f => (f.1 : Int))).map D.int)]).length = G'.length + 1 := by simp
  rw [← hL]
  have hR2 : (G' ++ [SX.C.lst ((sortI (gs.map fun f => (f.1 : Int))).map D.int)] ++ [SX.C.lst ((sortF gs).map pcD)])[R]? = some (.dK (gs.map keyF)) := (Fr.new.trans Fr.new).get hR (S := []) (by simp)
  have due : (G' ++ [SX.C.lst ((sortI (gs.map fun f => (f.1 : Int))).map D.int)] ++ [SX.C.lst ((sortF gs).map pcD)])[(G' ++ [SX.C.lst ((sortI (gs.map fun f => (f.1 : Int))).map D.int)]).length]? = some (.lst ((sortF gs).map pcD)) := at_last
  generalize G' ++ [SX.C.lst ((sortI (gs.map fun f => (f.1 : Int))).map D.int)] ++ [SX.C.lst ((sortF gs).map pcD)] = G15 at hR2 due ⊢
  generalize (G' ++ [SX.C.lst ((sortI (gs.map fun f => (f.1 : Int))).map D.int)]).length = E at due ⊢
  clear hL hR
  simp only [List.set_cons_succ, List.set_cons_zero]
  -- count
  rw [wS_seq]
  simp only [wS_set, wE_c, List.set_cons_succ, List.set_cons_zero]
  rw [wS_seq]
  have hgs := sortF_good row.nd row.pr
  have hpr : prodL (sortF gs) = prodL gs := prod_perm (sortF_perm row.nd)
  have hle := row.le
  have hcn := cnt_le row.pr
  refine wS_forKeys (p := R) (kvs := gs.map keyF) (by rfl) hR2 (fun j σ G' => ∃ x13, σ = [some u, some (.ref d), some (.int n), some (.ref P), some (.int (n : Int)), x5, some (.ref T), some (.int (k : Int)), some (.ref R), some (.int ((prodL gs : Nat) : Int)), x10, some (.ref E), some (.int ((cntP (gs.take j) : Nat) : Int)), x13, none, none] ∧ G' = G15.set R (.lk (gs.map keyF)))
    ⟨x13, by simp [cntP], rfl⟩ (fun j y σ G' hy hI => ?_) (fun σ G' hI => ?_)
  · obtain ⟨x13, rfl, rfl⟩ := hI
    rw [List.getElem?_map] at hy
    have hex : ∃ f, gs[j]? = some f ∧ keyF f = y := Option.map_eq_some_iff.mp hy
    cases hex
    rename_i f hf
    rw [← hf.2]
    have hfm : (f.1, f.2) ∈ gs := List.mem_of_getElem? hf.1
    have hlk : (G15.set R (.lk (gs.map keyF)))[R]? = some (.lk (gs.map keyF)) := set_self hR2
    have lk : lookD (gs.map keyF) (.inl (f.1 : Int)) = some (.int (f.2 : Int)) := by
      rw [look_keyF]
      have hm := cnt_mem row.nd hfm
      unfold cntF at hm
      cases e : gs.find? (fun g => decide (g.1 = f.1)) with
      | some g =>
        rw [e] at hm
        show some (D.int (g.2 : Int)) = _
        have : g.2 = f.2 := hm
        rw [this]
      | none =>
        have := List.find?_eq_none.mp e _ hfm
        simp at this
    have b1 := cnt_le (take_pr row.pr j)
    have b2 := prod_take row.pr j
    have b3 := cnt_le (take_pr row.pr (j + 1))
    have b4 := prod_take row.pr (j + 1)
    have ct := cnt_take hf.1
    have c0 : f.2 < 2 ^ 60 := by
      have := cnt_le (fs := [f]) (fun g hg => by
        rw [List.mem_singleton] at hg
        subst hg
        exact row.pr _ hfm)
      have h5 : f.1 ^ f.2 ≤ prodL gs := by
        have h6 : (f.1, f.2) ∈ sortF gs := (sortF_perm row.nd).mem_iff.mpr hfm
        have := (good_bits hgs h6).1
        omega
      have h7 : cntP [f] = f.2 + 1 := by
        show (f.2 + 1) * 1 = _
        omega
      rw [h7] at this
      simp at this
      omega
    simp only [keyF, ofKey, wE_gN, List.set_cons_succ, List.set_cons_zero, wS_set, wE_bin, wE_varS, wE_var0, wE_c, ixD_lk hlk, lk, oneD_some, wE_ok, addD_int, mulD_int (i := ((cntP (gs.take j) : Nat) : Int)) (j := (f.2 : Int) + 1) (by omega) (by omega)]
    refine ⟨_, by rw [ct, Int.natCast_mul]; rfl, by simp⟩
  obtain ⟨x13, rfl, rfl⟩ := hI
  rw [set_back hR2, List.length_map, List.take_length]
  clear hR2
  -- told
  have g1 : 1 ≤ prodL gs := by
    rw [← hpr]
    exact prodL_pos hgs
  have dc := divs_count hgs
  rw [hpr, cntP_perm (sortF_perm row.nd)] at dc
  have hgl : (sortF gs).length ≤ 6 := by
    rw [(sortF_perm row.nd).length_eq]
    exact row.few
  generalize hc : cntP gs = c at hcn dc ⊢
  generalize hgr : prodL gs = g at hle hpr g1 hcn dc ⊢
  obtain ⟨pt, G16, e16, f16, told, _⟩ := divisors_ok (n := g) (G := G15) g1 (by omega)
  rw [wS_seq]
  simp only [wS_set, wE_fn, wE_consA, wE_varS, wE_var0, wE_nilA, List.append_nil, e16, wE_ok, List.set_cons_succ, List.set_cons_zero]
  have due16 := f16.get due (by simp)
  clear e16 f16 due
  obtain ⟨hs, ehs, hhs, phs, _⟩ := primes_ok (n := g) (G := G16) g1 (by omega)
  obtain rfl : hs = sortF gs := hhs.unique hgs (phs.trans hpr.symm)
  have i0 : atI ((divs g).map natD) 0 = some (.int 1) := atI_nat (j := 0) (by rw [List.getElem?_map, divs_head g1] <;> rfl)
  have i1 : atI ((divs g).map natD) (-1) = some (.int (g : Int)) := by
    obtain ⟨r, er⟩ := divs_last g1
    rw [er, List.map_append]
    exact atI_last _ _
  have told17 := (Fr.new (S := []) (c := .lst ((sortF gs).map pcD))).get told (by simp)
  have due17 := (Fr.new (S := []) (c := .lst ((sortF gs).map pcD))).get due16 (by simp)
  have pr17 : (G16 ++ [SX.C.lst ((sortF gs).map pcD)])[G16.length]? = some (.lst ((sortF gs).map pcD)) := at_last
  rw [wS_seq]
  simp only [wS_if, wE_notT, wE_truth, wE_fn, wE_consA, wE_lst, wE_call, wE_bin, wE_un, wE_c, wE_varS, wE_var0, wE_nilA, List.append_nil, ehs, wE_ok]
  generalize G16 ++ [SX.C.lst ((sortF gs).map pcD)] = G17 at told17 due17 pr17 ⊢
  generalize G16.length = W at pr17 ⊢
  simp only [lenD_of (lstOf_lst told17), wE_ok, ixD_lst told17, i0, oneD_some, negD_int, i1, List.length_map, dc]
  have f18 : Fr [] G17 (G17 ++ [SX.C.lst [.ref W, .int (c : Int), .int 1, .int (g : Int)]] ++ [SX.C.lst [.ref E, .int (c : Int), .int 1, .int (g : Int)]]) := Fr.new.trans Fr.new
  have aA : (G17 ++ [SX.C.lst [.ref W, .int (c : Int), .int 1, .int (g : Int)]] ++ [SX.C.lst [.ref E, .int (c : Int), .int 1, .int (g : Int)]])[G17.length]? = some (.lst [.ref W, .int (c : Int), .int 1, .int (g : Int)]) := by
    rw [List.getElem?_append_left (by simp)]
    exact at_last
  have aB : (G17 ++ [SX.C.lst [.ref W, .int (c : Int), .int 1, .int (g : Int)]] ++ [SX.C.lst [.ref E, .int (c : Int), .int 1, .int (g : Int)]])[(G17 ++ [SX.C.lst [.ref W, .int (c : Int), .int 1, .int (g : Int)]]).length]? = some (.lst [.ref E, .int (c : Int), .int 1, .int (g : Int)]) := at_last
  generalize G17 ++ [SX.C.lst [.ref W, .int (c : Int), .int 1, .int (g : Int)]] ++ [SX.C.lst [.ref E, .int (c : Int), .int 1, .int (g : Int)]] = G18 at f18 aA aB ⊢
  generalize (G17 ++ [SX.C.lst [.ref W, .int (c : Int), .int 1, .int (g : Int)]]).length = B at aB ⊢
  have okB := pyB_ok hgs hpr (by omega) (by omega) hcn
  have tA : toPy G18 24 (.ref G17.length) = some (pyB (sortF gs) c g) := toPy_lst aA (toPyL_cons (toPy_facs (f18.get pr17 (by simp))) (toPyL_cons toPy_int (toPyL_cons toPy_int (toPyL_cons toPy_int toPyL_nil))))
  have tB : toPy G18 24 (.ref B) = some (pyB (sortF gs) c g) := toPy_lst aB (toPyL_cons (toPy_facs (f18.get due17 (by simp))) (toPyL_cons toPy_int (toPyL_cons toPy_int (toPyL_cons toPy_int toPyL_nil))))
  rw [is_same tA tB okB.1 okB.2.1 okB.2.2, wE_ok]
  simp only [truthD, wE_ok, Bool.not_true, Bool.false_eq_true, if_false, wS_pass]
  have told18 := f18.get told17 (by simp)
  clear tA tB aA aB okB f18 told17 due17 pr17 told due16 i0 i1 ehs
  -- the last row
  have hdl : (divs g).length ≤ 16777216 := by
    have := few_dvs g1 (by omega) ((up_divs g).imp (fun h => Nat.ne_of_lt h)) fun k hk => (mem_divs g1).mp hk
    omega
  have trues : ∀ (α : Type) (l : List α) (G : Hq) (p : Nat), G[p]? = some (.lst (l.map fun _ => D.bl true)) → allD [.ref p] G = .ok (.bl true) G := fun α l G p h => by
    have e3 : l.map (fun _ => D.bl true) = (l.map fun _ => true).map D.bl := by
      rw [List.map_map] <;> rfl
    unfold allD
    simp only [lstOf_lst h, e3, Option.bind_some, blsD_trues]
    have : (l.map fun _ => true).all id = true := by simp
    rw [this]
  simp only [wS_ret, wE_andC, wE_call (g := allD), wE_consA, wE_nilA, wE_lc, wE_iter, wE_varS, wE_var0, iterD_ref (lstOf_lst told18), wE_ok]
  refine lc_map (divs g) natD (fun _ => .bl true) hdl (fun j acc => src_itL (lstOf_lst (by rw [List.getElem?_append_left (lt_of_at told18)]; exact told18))) (fun a ha acc => ?_) ?_ (fun a ha acc => ?_)
  · have hd := (mem_divs g1).mp ha
    have ha0 := Nat.pos_of_dvd_of_pos hd g1
    have hm : ((g % a : Nat) : Int) = 0 := by
      rw [Nat.mod_eq_zero_of_dvd hd] <;> rfl
    simp only [wE_gN, wipeD, List.set_cons_succ, List.set_cons_zero, wE_yes, wE_bin, wE_call, wE_consA, wE_nilA, wE_varS, wE_var0, wE_c, intD_int, wE_ok, modD_int (j := (a : Int)) (by omega), eqD_int, int_mod, hm]
    simp
  rotate_left
  · simp only [wE_gN, wipeD, List.set_cons_succ, List.set_cons_zero, wE_yes]
  rw [trues _ _ _ _ at_last, wE_ok]
  have told19 := (Fr.new (S := []) (c := .lst ((divs g).map fun _ => D.bl true))).get told18 (by simp)
  generalize G18 ++ [SX.C.lst ((divs g).map fun _ => D.bl true)] = G19 at told19 ⊢
  simp only [wE_src, wE_consA, wE_bin, wE_call, wE_varS, wE_var0, wE_nilA, lenD_of (lstOf_lst told19), wE_ok, wE_c, subD_int, List.length_map]
  rw [rangeD1 (small_of (by omega) (by omega)), wE_ok]
  have en : (((divs g).length : Int) - 1).toNat = (divs g).length - 1 := by omega
  have e1 : (fun k : Nat => D.int (0 + (k : Int) * 1)) = fun k : Nat => natD k := by
    funext k
    have : 0 + (k : Int) * 1 = (k : Int) := by omega
    rw [this]
  rw [en]
  refine lc_map (List.range ((divs g).length - 1)) natD (fun _ => .bl true) (by rw [List.length_range]; omega) (fun j acc => by rw [src_itR, e1]) (fun a ha acc => ?_) ?_ (fun a ha acc => ?_)
  · have hal := List.mem_range.mp ha
    have h1 : a < (divs g).length := by omega
    have h2 : a + 1 < (divs g).length := by omega
    have lt : (divs g)[a] < (divs g)[a + 1] := List.pairwise_iff_getElem.mp (up_divs g) a (a + 1) h1 h2 (by omega)
    have t20 := (Fr.new (S := []) (c := .lst acc)).get told19 (by simp)
    have j0 : atI ((divs g).map natD) (a : Int) = some (natD (divs g)[a]) := atI_nat (by rw [List.getElem?_map, List.getElem?_eq_getElem h1] <;> rfl)
    have ea : (a : Int) + 1 = ((a + 1 : Nat) : Int) := by omega
    have j1 : atI ((divs g).map natD) ((a + 1 : Nat) : Int) = some (natD (divs g)[a + 1]) := atI_nat (by rw [List.getElem?_map, List.getElem?_eq_getElem h2] <;> rfl)
    have dl : decide (((divs g)[a] : Int) < ((divs g)[a + 1] : Int)) = true := decide_eq_true (by omega)
    simp only [wE_gN, wipeD, List.set_cons_succ, List.set_cons_zero, wE_yes, wE_bin, wE_varS, wE_var0, wE_c, ixD_lst t20, j0, oneD_some, wE_ok, addD_int, ea, j1, cmpD_int, dl]
    simp
  rotate_left
  · simp only [wE_gN, wipeD, List.set_cons_succ, List.set_cons_zero, wE_yes]
  rw [trues _ _ _ _ at_last, wE_ok]
theorem told (ns : List Int) : Told law_c ns := by
  constructor
  · obtain ⟨v, G, e, h⟩ := wE_get (law_first (u := .ref 0) (G := [.ro (ns.map .int)]) (lstOf_ro rfl))
    subst h
    exact ⟨G, e⟩
  · obtain ⟨v, G, e, h⟩ := wE_get (law_first (u := .kl (ns.map .int)) (G := []) rfl)
    subst h
    exact ⟨G, e⟩
end Yk02
theorem PySem.Challenge.cw_everyterm_k02_divisors_holds : PySem.Challenge.rw_everyterm_k02_divisors.Holds := by
  exact Yk02.ends fun ns _ _ => Yk02.told ns

