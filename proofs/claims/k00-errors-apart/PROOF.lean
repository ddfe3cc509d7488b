import PyProof.Rows.All
import Wide.All
import OpenK.AllK
import Wide.FinOn
import HandS.ForMost
import HandS.Exc
import HandS.Wide
import HandS.HeadHook1
import HandS.CallSlots
import HandS.WordsExc
import HandS.Defaults
import HandS.SortInts
import HandS.RaiseMore
import PyProof.ReprRoads
import HandS.Zip
import HandS.Flow
import HandS.Style
import HandS.More
import HandS.Ends
import HandS.EndBits
import HandS.Head0
import HandS.Head1
import HandS.Head2
import HandS.HeadEnd
import HandS.HeadHook2
import HandS.IsInst
import HandS.Deep
import HandS.TupAny
import HandS.List
import HandS.Iter
import HandS.TryOnly
import PyProof.IsRules
import HandS.ExcInit
import HandS.ClsMeth
import HandS.ExcOwn
import KE.KExcSuper
import HandS.TryMany
import HandS.ExcField
import HandS.ExcIs
import KE.KExcIs
import HandS.HotCalls
import PyProof.P3Eq
import PySem.Challenge.RW_everyterm_k00_errors_apart
set_option Elab.async false
set_option linter.all false
set_option maxRecDepth 100000
set_option maxHeartbeats 1000000
namespace SX
open PySem PySem.Spec PyProof.Rows L2

/-- deep values: tuples are data, all else that can change is a cell -/
inductive D where
  | non | bl (b : Bool) | int (i : Int) | str (x : Str) | tup (xs : List D) | ref (i : Nat) | kt (xs : List D) | kl (xs : List D)
inductive C where
  | lst (xs : List D) | ro (xs : List D) | dK (kvs : List (Key × D)) | dT (kvs : List (List Key × D))
  | ins (c : Str) (fs : List (Str × D)) | xd (fs : List (Str × D)) | lk (kvs : List (Key × D)) | lkT (kvs : List (List Key × D)) | gone
abbrev Hq := List C
abbrev Eq' := List (Option D)
inductive Rs (α : Type) where
  | ok (a : α) (G : Hq) | ex (c : Str) (i : Nat) (G : Hq) | bad
def Rs.bind {α β : Type} : Rs α → (α → Hq → Rs β) → Rs β
  | .ok a G, k => k a G
  | .ex c i G, _ => .ex c i G
  | .bad, _ => .bad
@[simp] theorem Rs.bind_ok {α β : Type} {a : α} {G : Hq} {k : α → Hq → Rs β} : (Rs.ok a G).bind k = k a G := rfl
@[simp] theorem Rs.bind_ex {α β : Type} {c : Str} {i : Nat} {G : Hq} {k : α → Hq → Rs β} : (Rs.ex c i G : Rs α).bind k = .ex c i G := rfl
@[simp] theorem Rs.bind_bad {α β : Type} {k : α → Hq → Rs β} : (Rs.bad : Rs α).bind k = .bad := rfl
abbrev EF := Eq' → Hq → Rs D
abbrev TF := Eq' → Hq → Rs Bool
abbrev AF := Eq' → Hq → Rs (List D)

/-- a list of the written part -/
def KLst (K : PySem.W.Frag) (a : Addr) (vs : List V) : Prop := ∃ (o : Obj) (its : Array Value) (n : Nat), K.lookup a = some o ∧ o.cls = .type "list" ∧ o.dict = none ∧ o.data = .seq its n ∧ its.size ≤ sizeLine ∧ Vals vs its.toList
section
variable (K : PySem.W.Frag)
mutual
inductive VR (m : List Addr) (H : Hp) : D → V → Prop
  | non : VR m H .non .non
  | bl (b : Bool) : VR m H (.bl b) (.bl b)
  | int (i : Int) : VR m H (.int i) (.int i)
  | str (x : Str) : VR m H (.str x) (.str x)
  | tup {a : Addr} {xs : List D} {vs : List V} : H a = some (.tup vs) → VRs m H xs vs → VR m H (.tup xs) (.ref a)
  | ref {i : Nat} {a : Addr} : m[i]? = some a → VR m H (.ref i) (.ref a)
  | kt {a : Addr} {xs : List D} {vs : List V} : SqT K H a vs → VRs m H xs vs → VR m H (.kt xs) (.ref a)
  | kl {a : Addr} {xs : List D} {vs : List V} : KLst K a vs → VRs m H xs vs → VR m H (.kl xs) (.ref a)
inductive VRs (m : List Addr) (H : Hp) : List D → List V → Prop
  | nil : VRs m H [] []
  | cons {x : D} {v : V} {xs : List D} {vs : List V} : VR m H x v → VRs m H xs vs → VRs m H (x :: xs) (v :: vs)
end
/-- pairs, the keys equal -/
inductive VRk {κ : Type} (m : List Addr) (H : Hp) : List (κ × D) → List (κ × V) → Prop
  | nil : VRk m H [] []
  | cons {k : κ} {x : D} {v : V} {xs : List (κ × D)} {vs : List (κ × V)} : VR K m H x v → VRk m H xs vs → VRk m H ((k, x) :: xs) ((k, v) :: vs)
/-- an error that stands: its class C, its dict at dd -/
def exi (a C dd : Addr) : HO := .ext fun h => ∃ (oe : Obj) (vs : Array Value), h.get? a = some oe ∧ oe.cls = .ref C ∧ oe.dict = some dd ∧ oe.data = .fields vs
def CR (m : List Addr) (H : Hp) (a : Addr) : C → Prop
  | .lst xs => ∃ vs, H a = some (.lst vs) ∧ VRs K m H xs vs
  | .ro xs => ∃ vs o, H a = some (.frz o (.lst vs)) ∧ VRs K m H xs vs
  | .dK kvs => ∃ vs, H a = some (.dK vs) ∧ VRk K m H kvs vs
  | .dT kvs => ∃ vs, H a = some (.dT vs) ∧ VRk K m H kvs vs
  | .ins c fs => ∃ dd i : Nat, fs = [((Str.empty : Str), D.ref i)] ∧ m[i]? = some dd ∧ H a = some (exi a (He.ga K c) dd)
  | .xd fs => ∃ vs, H a = some (.xd vs) ∧ VRk K m H fs vs
  | .lk kvs => ∃ vs o, H a = some (.frz o (.dK vs)) ∧ VRk K m H kvs vs
  | .lkT kvs => ∃ vs o, H a = some (.frz o (.dT vs)) ∧ VRk K m H kvs vs
  | .gone => True
structure Sim (m : List Addr) (G : Hq) (H : Hp) : Prop where
  len : m.length = G.length
  inj : ∀ (i j : Nat) (a : Addr), m[i]? = some a → m[j]? = some a → i = j
  cell : ∀ (i : Nat) (a : Addr) (c : C), m[i]? = some a → G[i]? = some c → CR K m H a c
  trk : ∀ (i : Nat) (a : Addr), m[i]? = some a → (H a).isSome = true
structure Xw (m : List Addr) (H : Hp) (m' : List Addr) (H' : Hp) : Prop where
  pre : ∃ l, m' = m ++ l
  tup : ∀ (a : Addr) (xs : List V), H a = some (.tup xs) → H' a = some (.tup xs)
  seq : ∀ (a : Addr) (xs : List V), SqT K H a xs → SqT K H' a xs
structure Xt (m : List Addr) (H : Hp) (m' : List Addr) (H' : Hp) : Prop extends Xw K m H m' H' where
  frz : ∀ (a : Addr) (o : Obj) (u : HO), H a = some (.frz o u) → H' a = some (.frz o u)
def SR (m : List Addr) (H : Hp) (σ' : Eq') (σ : L2.St) : Prop :=
  σ'.length = σ.length ∧ ∀ (i : Nat) (d : D), σ'[i]? = some (some d) → ∃ v, σ[i]? = some (some v) ∧ VR K m H d v
end

section
variable {K : PySem.W.Frag} {m m1 m2 m' : List Addr} {H H1 H2 H' : Hp} {G G1 G2 G' : Hq} {σ' : Eq'} {σ : L2.St}
theorem Xt.refl : Xt K m H m H := ⟨⟨⟨[], (List.append_nil m).symm⟩, fun _ _ h => h, fun _ _ h => h⟩, fun _ _ _ h => h⟩
theorem Xt.trans (a : Xt K m H m1 H1) (b : Xt K m1 H1 m2 H2) : Xt K m H m2 H2 := by
  obtain ⟨l, e⟩ := a.pre
  obtain ⟨l', e'⟩ := b.pre
  exact ⟨⟨⟨l ++ l', by rw [e', e, List.append_assoc]⟩, fun c xs h => b.tup c xs (a.tup c xs h), fun c xs h => b.seq c xs (a.seq c xs h)⟩, fun c o u h => b.frz c o u (a.frz c o u h)⟩
theorem Xw.at (a : Xw K m H m1 H1) {i : Nat} {b : Addr} (h : m[i]? = some b) : m1[i]? = some b := by
  obtain ⟨l, rfl⟩ := a.pre
  obtain ⟨hi, _⟩ := List.getElem?_eq_some_iff.mp h
  rw [List.getElem?_append_left hi]
  exact h
mutual
theorem VR.monoW (e : Xw K m H m1 H1) : ∀ {d : D} {v : V}, VR K m H d v → VR K m1 H1 d v
  | _, _, .non => .non
  | _, _, .bl b => .bl b
  | _, _, .int i => .int i
  | _, _, .str x => .str x
  | _, _, .tup h r => .tup (e.tup _ _ h) (VRs.monoW e r)
  | _, _, .ref h => .ref (e.at h)
  | _, _, .kt h r => .kt (e.seq _ _ h) (VRs.monoW e r)
  | _, _, .kl h r => .kl h (VRs.monoW e r)
theorem VRs.monoW (e : Xw K m H m1 H1) : ∀ {d : List D} {v : List V}, VRs K m H d v → VRs K m1 H1 d v
  | _, _, .nil => .nil
  | _, _, .cons r t => .cons (VR.monoW e r) (VRs.monoW e t)
end
theorem VR.mono (e : Xt K m H m1 H1) {d : D} {v : V} (h : VR K m H d v) : VR K m1 H1 d v := h.monoW e.toXw
theorem VRs.mono (e : Xt K m H m1 H1) {d : List D} {v : List V} (h : VRs K m H d v) : VRs K m1 H1 d v := h.monoW e.toXw
theorem Xt.at (a : Xt K m H m1 H1) {i : Nat} {b : Addr} (h : m[i]? = some b) : m1[i]? = some b := a.toXw.at h
theorem VRk.monoW {κ : Type} (e : Xw K m H m1 H1) : ∀ {d : List (κ × D)} {v : List (κ × V)}, VRk K m H d v → VRk K m1 H1 d v
  | _, _, .nil => .nil
  | _, _, .cons r t => .cons (r.monoW e) (VRk.monoW e t)
theorem VRk.mono {κ : Type} (e : Xt K m H m1 H1) : ∀ {d : List (κ × D)} {v : List (κ × V)}, VRk K m H d v → VRk K m1 H1 d v
  | _, _, .nil => .nil
  | _, _, .cons r t => .cons (r.mono e) (VRk.mono e t)
theorem SR.mono (e : Xt K m H m1 H1) (h : SR K m H σ' σ) : SR K m1 H1 σ' σ :=
  ⟨h.1, fun i d q => let ⟨v, a, b⟩ := h.2 i d q; ⟨v, a, b.mono e⟩⟩
theorem VRs.length : ∀ {d : List D} {v : List V}, VRs K m H d v → d.length = v.length
  | _, _, .nil => rfl
  | _, _, .cons _ t => by rw [List.length_cons, List.length_cons, VRs.length t]
theorem VRs.get : ∀ {d : List D} {v : List V} {i : Nat} {x : D}, VRs K m H d v → d[i]? = some x → ∃ w, v[i]? = some w ∧ VR K m H x w
  | _, _, _, _, .nil, h => by simp at h
  | _, _, 0, _, .cons r _, h => by simp at h; subst h; exact ⟨_, rfl, r⟩
  | _, _, i + 1, _, .cons _ t, h => by
    obtain ⟨w, a, b⟩ := VRs.get (i := i) t (by simpa using h)
    exact ⟨w, by simpa using a, b⟩
theorem VRs.getV : ∀ {d : List D} {v : List V} {i : Nat} {w : V}, VRs K m H d v → v[i]? = some w → ∃ x, d[i]? = some x ∧ VR K m H x w
  | _, _, _, _, .nil, h => by simp at h
  | _, _, 0, _, .cons r _, h => by simp at h; subst h; exact ⟨_, rfl, r⟩
  | _, _, i + 1, _, .cons _ t, h => by
    obtain ⟨w, a, b⟩ := VRs.getV (i := i) t (by simpa using h)
    exact ⟨w, by simpa using a, b⟩
theorem VRs.append : ∀ {d d' : List D} {v v' : List V}, VRs K m H d v → VRs K m H d' v' → VRs K m H (d ++ d') (v ++ v')
  | _, _, _, _, .nil, q => q
  | _, _, _, _, .cons r t, q => .cons r (VRs.append t q)
theorem VRs.set : ∀ {d : List D} {v : List V} {x : D} {w : V} (i : Nat), VRs K m H d v → VR K m H x w → VRs K m H (d.set i x) (v.set i w)
  | _, _, _, _, _, .nil, _ => .nil
  | _, _, _, _, 0, .cons _ t, q => .cons q t
  | _, _, _, _, i + 1, .cons r t, q => .cons r (VRs.set i t q)
theorem VRs.take : ∀ {d : List D} {v : List V} (i : Nat), VRs K m H d v → VRs K m H (d.take i) (v.take i)
  | _, _, 0, _ => .nil
  | _, _, _ + 1, .nil => .nil
  | _, _, i + 1, .cons r t => .cons r (VRs.take i t)
theorem VRs.drop : ∀ {d : List D} {v : List V} (i : Nat), VRs K m H d v → VRs K m H (d.drop i) (v.drop i)
  | _, _, 0, r => r
  | _, _, _ + 1, .nil => .nil
  | _, _, i + 1, .cons _ t => VRs.drop i t
theorem VRs.reverse {d : List D} {v : List V} (h : VRs K m H d v) : VRs K m H d.reverse v.reverse := by
  have aux : ∀ {d : List D} {v : List V}, VRs K m H d v → ∀ {a : List D} {b : List V}, VRs K m H a b → VRs K m H (d.reverseAux a) (v.reverseAux b) := by
    intro d v h
    induction d generalizing v with
    | nil => cases h; intro a b q; exact q
    | cons x d ih =>
      cases h with
      | cons r t => intro a b q; exact ih t (.cons r q)
  exact aux h .nil

theorem Sim.idx (S : Sim K m G H) {i : Nat} {c : C} (h : G[i]? = some c) : ∃ a, m[i]? = some a := by
  obtain ⟨hi, _⟩ := List.getElem?_eq_some_iff.mp h
  exact ⟨m[i]'(by rw [S.len]; exact hi), List.getElem?_eq_getElem _⟩
/-- a cell's own words stay where its address and the tuples stay -/
theorem CR.stayW {a : Addr} {c : C} (h : CR K m H a c) (e : Xw K m H m1 H1) (ha : H1 a = H a) : CR K m1 H1 a c := by
  cases c with
  | lst xs => obtain ⟨vs, q, r⟩ := h; exact ⟨vs, ha.trans q, r.monoW e⟩
  | ro xs => obtain ⟨vs, o, q, r⟩ := h; exact ⟨vs, o, ha.trans q, r.monoW e⟩
  | dK kvs => obtain ⟨vs, q, r⟩ := h; exact ⟨vs, ha.trans q, r.monoW e⟩
  | dT kvs => obtain ⟨vs, q, r⟩ := h; exact ⟨vs, ha.trans q, r.monoW e⟩
  | ins _ _ => obtain ⟨dd, i, e1, e2, e3⟩ := h; exact ⟨dd, i, e1, e.at e2, ha.trans e3⟩
  | xd fs => obtain ⟨vs, q, r⟩ := h; exact ⟨vs, ha.trans q, r.monoW e⟩
  | lk kvs => obtain ⟨vs, o, q, r⟩ := h; exact ⟨vs, o, ha.trans q, r.monoW e⟩
  | lkT kvs => obtain ⟨vs, o, q, r⟩ := h; exact ⟨vs, o, ha.trans q, r.monoW e⟩
  | gone => trivial

theorem CR.stay {a : Addr} {c : C} (h : CR K m H a c) (e : Xt K m H m1 H1) (ha : H1 a = H a) : CR K m1 H1 a c := h.stayW e.toXw ha
def NoTup (H : Hp) (p : Addr) : Prop := (∀ xs, ¬ Rd H p (.tup xs)) ∧ ∀ o u, H p ≠ some (.frz o u)
theorem xt_upd {p : Addr} {o : HO} {l : List Addr} (h : NoTup H p) : Xt K m H (m ++ l) (upd H p o) := by
  refine ⟨⟨⟨l, rfl⟩, fun a xs q => ?_, fun a xs q => ?_⟩, fun a ob u q => ?_⟩
  · rw [upd_ne (fun e => h.1 xs (by rw [← e]; exact .inl q))]
    exact q
  · rcases q with q | q
    · have ne : a ≠ p := fun e => h.1 xs (by rw [← e]; exact q)
      rcases q with q | ⟨ob, q⟩
      · exact .inl (.inl (by rw [upd_ne ne]; exact q))
      · exact .inl (.inr ⟨ob, by rw [upd_ne ne]; exact q⟩)
    · exact .inr q
  · rw [upd_ne (fun e => h.2 ob u (by rw [← e]; exact q))]
    exact q
theorem noTup_none {p : Addr} (h : H p = none) : NoTup H p := by
  refine ⟨fun xs q => ?_, fun o u q => ?_⟩
  · rcases q with q | ⟨o, q⟩ <;> · rw [h] at q; cases q
  · rw [h] at q; cases q
theorem noTup_mut {p : Addr} (h : Mut (H p)) : NoTup H p := by
  refine ⟨fun xs q => ?_, fun o u q => ?_⟩
  · rcases q with q | ⟨o, q⟩ <;> · rw [q] at h; exact h
  · rw [q] at h; exact h

/-- a new tuple (or any untracked thing) at a free place -/
theorem Sim.ne {p : Addr} (S : Sim K m G H) (hp : H p = none) {i : Nat} {a : Addr} (h : m[i]? = some a) : a ≠ p := fun e => by
  have z := S.trk i a h
  rw [e, hp] at z; cases z
theorem Sim.more {p : Addr} {o : HO} (S : Sim K m G H) (hp : H p = none) : Sim K m G (upd H p o) := by
  have x : Xt K m H m (upd H p o) := by simpa using xt_upd (K := K) (m := m) (o := o) (l := []) (noTup_none hp)
  refine ⟨S.len, S.inj, fun i a c h1 h2 => (S.cell i a c h1 h2).stay x (upd_ne (S.ne hp h1)), fun i a h => ?_⟩
  rw [upd_ne (S.ne hp h)]
  exact S.trk i a h
theorem xt_more {p : Addr} {o : HO} (hp : H p = none) : Xt K m H m (upd H p o) := by
  simpa using xt_upd (K := K) (m := m) (o := o) (l := []) (noTup_none hp)
theorem xt_push {p : Addr} {o : HO} (hp : H p = none) : Xt K m H (m ++ [p]) (upd H p o) := xt_upd (noTup_none hp)
/-- a new cell -/
theorem Sim.push {p : Addr} {o : HO} {c : C} (S : Sim K m G H) (hp : H p = none) (hc : CR K (m ++ [p]) (upd H p o) p c) : Sim K (m ++ [p]) (G ++ [c]) (upd H p o) := by
  have x := xt_push (K := K) (m := m) (o := o) hp
  have old : ∀ {i : Nat} {a : Addr}, (m ++ [p])[i]? = some a → (i < m.length ∧ m[i]? = some a) ∨ (i = m.length ∧ a = p) := fun {i a} h => by
    by_cases hi : i < m.length
    · rw [List.getElem?_append_left hi] at h; exact .inl ⟨hi, h⟩
    · obtain ⟨h1, _⟩ := List.getElem?_eq_some_iff.mp h
      rw [List.length_append, List.length_singleton] at h1
      have e : i = m.length := by omega
      subst e
      rw [List.getElem?_append_right (Nat.le_refl _)] at h
      simp at h
      exact .inr ⟨rfl, h.symm⟩
  refine ⟨by simp [S.len], fun i j a h1 h2 => ?_, fun i a c' h1 h2 => ?_, fun i a h => ?_⟩
  · rcases old h1 with ⟨_, h1⟩ | ⟨h1, e1⟩ <;> rcases old h2 with ⟨_, h2⟩ | ⟨h2, e2⟩
    · exact S.inj i j a h1 h2
    · exact absurd e2 (S.ne hp h1)
    · exact absurd e1 (S.ne hp h2)
    · omega
  · rcases old h1 with ⟨hi, z1⟩ | ⟨z1, e1⟩
    · rw [List.getElem?_append_left (by rw [← S.len]; exact hi)] at h2
      exact (S.cell i a c' z1 h2).stay x (upd_ne (S.ne hp z1))
    · subst e1; subst z1
      rw [List.getElem?_append_right (by rw [S.len]; exact Nat.le_refl _)] at h2
      simp [S.len] at h2
      subst h2
      exact hc
  · rcases old h with ⟨_, h⟩ | ⟨_, e⟩
    · rw [upd_ne (S.ne hp h)]; exact S.trk i a h
    · subst e; rw [upd_same]; rfl
/-- a cell is written -/
theorem Sim.wr {i : Nat} {a : Addr} {o : HO} {c : C} (S : Sim K m G H) (hi : m[i]? = some a) (hm : Mut (H a)) (hc : CR K m (upd H a o) a c) : Sim K m (G.set i c) (upd H a o) := by
  have x : Xt K m H m (upd H a o) := by simpa using xt_upd (K := K) (m := m) (o := o) (l := []) (noTup_mut hm)
  refine ⟨by rw [List.length_set]; exact S.len, S.inj, fun j b c' h1 h2 => ?_, fun j b h => ?_⟩
  · by_cases hb : j = i
    · subst hb
      rw [hi] at h1; cases h1
      have hl : j < G.length := by
        obtain ⟨q, _⟩ := List.getElem?_eq_some_iff.mp h2
        rw [List.length_set] at q; exact q
      rw [List.getElem?_set_self hl] at h2
      cases h2
      exact hc
    · rw [List.getElem?_set_ne (Ne.symm hb)] at h2
      have ne : b ≠ a := fun e => hb (S.inj j i a (e ▸ h1) hi)
      exact (S.cell j b c' h1 h2).stay x (upd_ne ne)
  · by_cases hb : b = a
    · subst hb; rw [upd_same]; rfl
    · rw [upd_ne hb]; exact S.trk j b h
theorem xt_wr {a : Addr} {o : HO} (hm : Mut (H a)) : Xt K m H m (upd H a o) := by
  simpa using xt_upd (K := K) (m := m) (o := o) (l := []) (noTup_mut hm)
end
end SX

set_option Elab.async false
set_option linter.all false
set_option maxRecDepth 100000
set_option maxHeartbeats 1000000
namespace SX
open PySem PySem.Spec PyProof.Rows L2

/-- what is wanted of an exception: class, its dict, the heap -/
abbrev XW := Value → Option Addr → Hp → Prop
def PostR {α β : Type} (K : PySem.W.Frag) (mg : Str → Option Value) (R : List Addr → Hp → α → β → Prop) (W : XW) (m : List Addr) (H : Hp) : Rs α → (β → Hp → Prop) → Prop
  | .ok x G', Q => ∀ m' H' b, Xt K m H m' H' → Sim K m' G' H' → R m' H' x b → Q b H'
  | .ex c i G', _ => ∀ m' H' Ca a, Xt K m H m' H' → Sim K m' G' H' → mg c = some (.ref Ca) → m'[i]? = some a → W (.ref Ca) (some a) H'
  | .bad, _ => False
abbrev W0 : XW := fun _ _ _ => False
section
variable {α β γ δ : Type} {K : PySem.W.Frag} {mg : Str → Option Value} {R : List Addr → Hp → α → β → Prop} {R' : List Addr → Hp → γ → δ → Prop} {W W' : XW} {m m1 : List Addr} {H H1 : Hp} {G G1 : Hq}
theorem PostR.shift {r : Rs α} {Q : β → Hp → Prop} (h : PostR K mg R W m H r Q) (e : Xt K m H m1 H1) : PostR K mg R W m1 H1 r Q := by
  cases r with
  | ok x G' => exact fun m' H' b x s r => h m' H' b (e.trans x) s r
  | ex c i G' => exact fun m' H' Ca a x s z q => h m' H' Ca a (e.trans x) s z q
  | bad => exact h
theorem PostR.wish {r : Rs α} {Q : β → Hp → Prop} (h : PostR K mg R W m H r Q) (hw : ∀ a b c, W a b c → W' a b c) : PostR K mg R W' m H r Q := by
  cases r with
  | ok x G' => exact h
  | ex c i G' => exact fun m' H' Ca a x s z q => hw _ _ _ (h m' H' Ca a x s z q)
  | bad => exact h
theorem PostR.imp {r : Rs α} {Q Q' : β → Hp → Prop} (h : PostR K mg R W m H r Q) (hq : ∀ b H', Q b H' → Q' b H') : PostR K mg R W m H r Q' := by
  cases r with
  | ok x G' => exact fun m' H' b x s r => hq _ _ (h m' H' b x s r)
  | ex c i G' => exact h
  | bad => exact h
/-- behind the first: what is known, and the rest -/
theorem PostR.bnd {r : Rs α} {k : α → Hq → Rs γ} {Q : δ → Hp → Prop} (h : PostR K mg R' W m H (r.bind k) Q) :
    PostR K mg R W m H r fun b H1 => ∃ m1 G1 x, Xt K m H m1 H1 ∧ Sim K m1 G1 H1 ∧ R m1 H1 x b ∧ r = .ok x G1 ∧ PostR K mg R' W m1 H1 (k x G1) Q := by
  cases r with
  | ok x G' => exact fun m' H' b e s r => ⟨m', G', x, e, s, r, rfl, PostR.shift (r := k x G') h e⟩
  | ex c i G' => exact h
  | bad => exact h
theorem PostR.here {x : α} {b : β} {Q : β → Hp → Prop} (h : PostR K mg R W m H (.ok x G) Q) (S : Sim K m G H) (r : R m H x b) : Q b H := h m H b .refl S r
end

abbrev RB : List Addr → Hp → Bool → Bool → Prop := fun _ _ a b => a = b
section
variable (X : Cx) (W : L2.St → XW)
/-- an expression means f -/
def tE (f : EF) : TE := fun σ H Q => ∃ m σ' G, Sim X.K m G H ∧ SR X.K m H σ' σ ∧ PostR X.K X.mg (VR X.K) (W σ) m H (f σ' G) Q
def tT (f : TF) : TT := fun σ H Q => ∃ m σ' G, Sim X.K m G H ∧ SR X.K m H σ' σ ∧ PostR X.K X.mg RB (W σ) m H (f σ' G) Q
def tA (f : AF) : TA := fun σ H Q => ∃ m σ' G, Sim X.K m G H ∧ SR X.K m H σ' σ ∧ PostR X.K X.mg (VRs X.K) (W σ) m H (f σ' G) Q
/-- operations by values -/
def OpF (f : Value → Value → Sem Value) (g : D → D → Hq → Rs D) : Prop :=
  ∀ (pins : List (Addr × Obj)) (s : Shared) (σ : L2.St) (m : List Addr) (G : Hq) (H : Hp) (x y : D) (v w : V) (u z : Value) (Q : VK) (Wx : XW), Inv X pins σ H s → Sim X.K m G H → VR X.K m H x v → VR X.K m H y w → RelV v u → RelV w z →
    PostR X.K X.mg (VR X.K) Wx m H (g x y G) Q → wpAny (model X.prog X.w) X.A (f u z) (EP X pins σ Q) X.xe s
def UnF (f : Value → Sem Value) (g : D → Hq → Rs D) : Prop :=
  ∀ (pins : List (Addr × Obj)) (s : Shared) (σ : L2.St) (m : List Addr) (G : Hq) (H : Hp) (x : D) (v : V) (u : Value) (Q : VK) (Wx : XW), Inv X pins σ H s → Sim X.K m G H → VR X.K m H x v → RelV v u →
    PostR X.K X.mg (VR X.K) Wx m H (g x G) Q → wpAny (model X.prog X.w) X.A (f u) (EP X pins σ Q) X.xe s
def CallF (f : Value) (g : List D → Hq → Rs D) : Prop :=
  ∀ (pins : List (Addr × Obj)) (s : Shared) (σ : L2.St) (m : List Addr) (G : Hq) (H : Hp) (xs : List D) (vs : List V) (us : List Value) (Q : VK) (Wx : XW), Inv X pins σ H s → Sim X.K m G H → VRs X.K m H xs vs → Vals vs us →
    PostR X.K X.mg (VR X.K) Wx m H (g xs G) Q → wpAny (model X.prog X.w) X.A (call f us) (EP X pins σ Q) X.xe s
end

/-! ### the combinators -/
def varC (i : Nat) : EF := fun σ G => match σ[i]? with | some (some d) => .ok d G | _ => .bad
def cC (d : D) : EF := fun _ G => .ok d G
def binC (g : D → D → Hq → Rs D) (a b : EF) : EF := fun σ G => (a σ G).bind fun x G1 => (b σ G1).bind fun y G2 => g x y G2
def unC (g : D → Hq → Rs D) (a : EF) : EF := fun σ G => (a σ G).bind fun x G1 => g x G1
def nilA : AF := fun _ G => .ok [] G
def consA (a : EF) (r : AF) : AF := fun σ G => (a σ G).bind fun x G1 => (r σ G1).bind fun xs G2 => .ok (x :: xs) G2
def callC (g : List D → Hq → Rs D) (a : AF) : EF := fun σ G => (a σ G).bind fun xs G1 => g xs G1
def tupC (a : AF) : EF := fun σ G => (a σ G).bind fun xs G1 => .ok (.tup xs) G1
def lstC (a : AF) : EF := fun σ G => (a σ G).bind fun xs G1 => .ok (.ref G1.length) (G1 ++ [.lst xs])
def toB (d : D) (G : Hq) : Rs Bool := match d with | .bl b => .ok b G | _ => .bad
def valT (a : EF) : TF := fun σ G => (a σ G).bind toB
def andT (a b : TF) : TF := fun σ G => (a σ G).bind fun x G1 => if x then b σ G1 else .ok false G1
def orT (a b : TF) : TF := fun σ G => (a σ G).bind fun x G1 => if x then .ok true G1 else b σ G1
def notT (a : TF) : TF := fun σ G => (a σ G).bind fun x G1 => .ok (!x) G1
def ifC (c : TF) (a b : EF) : EF := fun σ G => (c σ G).bind fun x G1 => if x then a σ G1 else b σ G1

section
variable {X : Cx} {W : L2.St → XW} {e a b : Expr} {es : List Expr} {fa fb : EF} {ta tb : TF} {fr : AF} {pos p : Pos}
theorem SR.get {K : PySem.W.Frag} {m : List Addr} {H : Hp} {σ' : Eq'} {σ : L2.St} (h : SR K m H σ' σ) {i : Nat} {d : D} (e : σ'[i]? = some (some d)) : ∃ v, σ[i]? = some (some v) ∧ VR K m H d v := h.2 i d e
theorem xe_var (i : Nat) {x : Str} (hN : X.N[i]? = some x := by rfl) (hv : Vis X.env.scope x := by first | exact Or.inl rfl | exact Or.inr (Or.inl rfl) | exact Or.inr (Or.inr rfl)) (hd : (x == ("__debug__" : Str)) = false := by decide)
    (hcd : (x == ("__classdict__" : Str)) = false := by decide) : PE X (.Name x pos) (tE X W (varC i)) := by
  refine ⟨fun pins s σ H Q I h => (pe_var (i := i) hN hv hd hcd).run pins s σ H Q I ?_⟩
  obtain ⟨m, σ', G, S, R, h⟩ := h
  unfold varC at h
  cases e : σ'[i]? with
  | none => rw [e] at h; exact h.elim
  | some o =>
    cases o with
    | none => rw [e] at h; exact h.elim
    | some d =>
      rw [e] at h
      obtain ⟨v, ev, r⟩ := R.get e
      exact ⟨v, ev, h.here S r⟩
theorem xe_of {d : D} {v : V} (h : PE X e (tC v)) (r : ∀ m H, VR X.K m H d v) : PE X e (tE X W (cC d)) := by
  refine ⟨fun pins s σ H Q I q => h.run pins s σ H Q I ?_⟩
  obtain ⟨m, σ', G, S, R, q⟩ := q
  exact q.here S (r _ _)
theorem xe_int {i : Int} {j} : PE X (.Constant (.int i) j pos) (tE X W (cC (.int i))) := xe_of pe_int fun _ _ => .int i
theorem xe_bl {i : Bool} {j} : PE X (.Constant (.bool i) j pos) (tE X W (cC (.bl i))) := xe_of pe_bl fun _ _ => .bl i
theorem xe_non {j} : PE X (.Constant .none j pos) (tE X W (cC .non)) := xe_of pe_non fun _ _ => .non
theorem xe_str {x : Str} {j} : PE X (.Constant (.str x) j pos) (tE X W (cC (.str x))) := xe_of pe_str fun _ _ => .str x
/-- two in a row -/
theorem tE_two {g : D → D → Hq → Rs D} {σ : L2.St} {H : Hp} {Q : VK} (h : tE X W (binC g fa fb) σ H Q) :
    tE X W fa σ H fun v H1 => tE X W fb σ H1 fun w H2 => ∃ m2 G2 x y, Sim X.K m2 G2 H2 ∧ VR X.K m2 H2 x v ∧ VR X.K m2 H2 y w ∧ PostR X.K X.mg (VR X.K) (W σ) m2 H2 (g x y G2) Q := by
  obtain ⟨m, σ', G, S, R, h⟩ := h
  refine ⟨m, σ', G, S, R, (PostR.bnd (R := VR X.K) h).imp fun v H1 ⟨m1, G1, x, e1, S1, r1, _, h1⟩ => ⟨m1, σ', G1, S1, R.mono e1, (PostR.bnd (R := VR X.K) h1).imp fun w H2 ⟨m2, G2, y, e2, S2, r2, _, h2⟩ => ⟨m2, G2, x, y, S2, r1.mono e2, r2, h2⟩⟩⟩
end
end SX

set_option Elab.async false
set_option linter.all false
set_option maxRecDepth 100000
set_option maxHeartbeats 1000000
namespace SX
open PySem PySem.Spec PyProof.Rows L2

inductive Sr where
  | nx (σ : Eq') (G : Hq) | rt (d : D) (G : Hq) | bk (σ : Eq') (G : Hq) | ct (σ : Eq') (G : Hq) | ex (c : Str) (i : Nat) (σ : Eq') (G : Hq) | bad
abbrev SF := Eq' → Hq → Sr
abbrev GF := D → Eq' → Hq → Rs Eq'
def PostS (K : PySem.W.Frag) (mg : Str → Option Value) (W : L2.St → XW) (m : List Addr) (H : Hp) : Sr → Ends → Prop
  | .nx σ1 G1, D => ∀ m' H' σ, Xt K m H m' H' → Sim K m' G1 H' → SR K m' H' σ1 σ → D.nx σ H'
  | .rt d G1, D => ∀ m' H' v, Xt K m H m' H' → Sim K m' G1 H' → VR K m' H' d v → D.rt v H'
  | .bk σ1 G1, D => ∀ m' H' σ, Xt K m H m' H' → Sim K m' G1 H' → SR K m' H' σ1 σ → D.bk σ H'
  | .ct σ1 G1, D => ∀ m' H' σ, Xt K m H m' H' → Sim K m' G1 H' → SR K m' H' σ1 σ → D.ct σ H'
  | .ex c i σ1 G1, _ => ∀ m' H' σ Ca a, Xt K m H m' H' → Sim K m' G1 H' → SR K m' H' σ1 σ → mg c = some (.ref Ca) → m'[i]? = some a → W σ (.ref Ca) (some a) H'
  | .bad, _ => False
def onE {α : Type} (r : Rs α) (σ : Eq') (k : α → Hq → Sr) : Sr := match r with
  | .ok a G => k a G
  | .ex c i G => .ex c i σ G
  | .bad => .bad
@[simp] theorem onE_ok {α : Type} {a : α} {G : Hq} {σ : Eq'} {k : α → Hq → Sr} : onE (.ok a G) σ k = k a G := rfl
@[simp] theorem onE_ex {α : Type} {c : Str} {i : Nat} {G : Hq} {σ : Eq'} {k : α → Hq → Sr} : onE (.ex c i G : Rs α) σ k = .ex c i σ G := rfl
@[simp] theorem onE_bad {α : Type} {σ : Eq'} {k : α → Hq → Sr} : onE (.bad : Rs α) σ k = .bad := rfl
def onG (r : Rs Eq') (k : SF) : Sr := match r with
  | .ok σ1 G => k σ1 G
  | _ => .bad
@[simp] theorem onG_ok {a : Eq'} {G : Hq} {k : SF} : onG (.ok a G) k = k a G := rfl
@[simp] theorem onG_ex {c : Str} {i : Nat} {G : Hq} {k : SF} : onG (.ex c i G) k = .bad := rfl
@[simp] theorem onG_bad {k : SF} : onG .bad k = .bad := rfl
section
variable {α β : Type} {K : PySem.W.Frag} {mg : Str → Option Value} {R : List Addr → Hp → α → β → Prop} {W : L2.St → XW} {m m1 : List Addr} {H H1 : Hp} {σ' : Eq'} {σ : L2.St}
theorem PostS.shift {r : Sr} {D : Ends} (h : PostS K mg W m H r D) (e : Xt K m H m1 H1) : PostS K mg W m1 H1 r D := by
  cases r with
  | nx a b => exact fun m' H' σ x s r => h m' H' σ (e.trans x) s r
  | rt a b => exact fun m' H' σ x s r => h m' H' σ (e.trans x) s r
  | bk a b => exact fun m' H' σ x s r => h m' H' σ (e.trans x) s r
  | ct a b => exact fun m' H' σ x s r => h m' H' σ (e.trans x) s r
  | ex c i a b => exact fun m' H' σ Ca q x s r z y => h m' H' σ Ca q (e.trans x) s r z y
  | bad => exact h
theorem PostS.bnd {r : Rs α} {k : α → Hq → Sr} {D : Ends} (hr : SR K m H σ' σ) (h : PostS K mg W m H (onE r σ' k) D) :
    PostR K mg R (W σ) m H r fun b H1 => ∃ m1 G1 x, Xt K m H m1 H1 ∧ Sim K m1 G1 H1 ∧ R m1 H1 x b ∧ r = .ok x G1 ∧ PostS K mg W m1 H1 (k x G1) D := by
  cases r with
  | ok x G' => exact fun m' H' b e s r => ⟨m', G', x, e, s, r, rfl, PostS.shift (r := k x G') h e⟩
  | ex c i G' => exact fun m' H' Ca a e s z q => h m' H' σ Ca a e s (hr.mono e) z q
  | bad => exact h
end
section
variable (X : Cx) (W : L2.St → XW)
def tS (f : SF) : TS := fun D σ H => ∃ m σ' G, Sim X.K m G H ∧ SR X.K m H σ' σ ∧ PostS X.K X.mg W m H (f σ' G) D
def tG (g : GF) : TG := fun v σ H Q => ∃ m σ' G d, Sim X.K m G H ∧ SR X.K m H σ' σ ∧ VR X.K m H d v ∧ PostR X.K X.mg (SR X.K) W0 m H (g d σ' G) Q
def tGs (g : List D → Eq' → Hq → Rs Eq') : TGs := fun vs σ H Q => ∃ m σ' G ds, Sim X.K m G H ∧ SR X.K m H σ' σ ∧ VRs X.K m H ds vs ∧ PostR X.K X.mg (SR X.K) W0 m H (g ds σ' G) Q
/-- what the context must bear -/
structure Ctx (k : Nat) : Prop where
  calm : X.calm = true
  nd : X.N.Nodup
  hx : ∀ σ, PassesAt (L2.CX X.prog X.w) X σ (W σ)
  hp : PassesOwn (model X.prog X.w) X.A X.env X.xe
  room : Room k X.A
  gd : X.A.guards = some []
end

def setC (i : Nat) (e : EF) : SF := fun σ G => onE (e σ G) σ fun d G1 => .nx (σ.set i (some d)) G1
def asgC (e : EF) (g : GF) : SF := fun σ G => onE (e σ G) σ fun d G1 => onG (g d σ G1) fun σ1 G2 => .nx σ1 G2
def exprC (e : EF) : SF := fun σ G => onE (e σ G) σ fun _ G1 => .nx σ G1
def retC (e : EF) : SF := fun σ G => onE (e σ G) σ fun d G1 => .rt d G1
def retN : SF := fun _ G => .rt .non G
def passC : SF := fun σ G => .nx σ G
def breakC : SF := fun σ G => .bk σ G
def contC : SF := fun σ G => .ct σ G
def ifS (c : TF) (a b : SF) : SF := fun σ G => onE (c σ G) σ fun x G1 => if x then a σ G1 else b σ G1
def Sr.then (r : Sr) (k : SF) : Sr := match r with
  | .nx σ1 G1 => k σ1 G1
  | r => r
def seqC (a b : SF) : SF := fun σ G => (a σ G).then b
def augC (i : Nat) (g : D → D → Hq → Rs D) (e : EF) : SF := fun σ G => match σ[i]? with
  | some (some x) => onE (e σ G) σ fun y G1 => onE (g x y G1) σ fun z G2 => .nx (σ.set i (some z)) G2
  | _ => .bad
/-- one turn's end: on, or out -/
def Sr.turn (r : Sr) (k : SF) : Sr := match r with
  | .nx σ G => k σ G
  | .ct σ G => k σ G
  | .bk σ G => .nx σ G
  | r => r
def whileN (c : TF) (b : SF) : Nat → SF
  | 0 => fun _ _ => .bad
  | n + 1 => fun σ G => onE (c σ G) σ fun x G1 => if x then (b σ G1).turn (whileN c b n) else .nx σ G1
theorem whileN_s {c : TF} {b : SF} {n : Nat} {σ : Eq'} {G : Hq} : whileN c b (n + 1) σ G = onE (c σ G) σ fun x G1 => if x then (b σ G1).turn (whileN c b n) else .nx σ G1 := rfl
noncomputable def lim (f : Nat → Sr) : Sr := by
  classical exact if h : ∃ n, f n ≠ .bad then f (Classical.choose h) else .bad
theorem lim_eq {f : Nat → Sr} (mono : ∀ n, f n ≠ .bad → f (n + 1) = f n) {n : Nat} (h : f n ≠ .bad) : lim f = f n := by
  classical
  have up : ∀ k n, f n ≠ .bad → f (n + k) = f n := by
    intro k
    induction k with
    | zero => intro n _; rfl
    | succ k ih =>
      intro n h
      have e := ih n h
      rw [← Nat.add_assoc, mono _ (by rw [e]; exact h), e]
  have ex : ∃ n, f n ≠ .bad := ⟨n, h⟩
  unfold lim
  rw [dif_pos ex]
  have hc := Classical.choose_spec ex
  generalize Classical.choose ex = c at hc ⊢
  rcases Nat.le_total c n with hl | hl
  · obtain ⟨k, rfl⟩ := Nat.exists_eq_add_of_le hl
    exact (up k c hc).symm
  · obtain ⟨k, rfl⟩ := Nat.exists_eq_add_of_le hl
    exact up k n h
theorem lim_ex {f : Nat → Sr} (h : lim f ≠ .bad) : ∃ n, f n = lim f := by
  classical
  unfold lim at h ⊢
  split at h
  · rename_i e; rw [dif_pos e]; exact ⟨_, rfl⟩
  · exact absurd rfl h
noncomputable def whileC (c : TF) (b : SF) : SF := fun σ G => lim fun n => whileN c b n σ G
theorem Sr.turn_ne {r : Sr} {k : SF} (h : r.turn k ≠ .bad) {k' : SF} (e : ∀ σ G, k σ G ≠ .bad → k' σ G = k σ G) : r.turn k' = r.turn k := by
  cases r with
  | nx σ G => exact e σ G h
  | ct σ G => exact e σ G h
  | _ => rfl
theorem whileN_mono {c : TF} {b : SF} : ∀ n σ G, whileN c b n σ G ≠ .bad → whileN c b (n + 1) σ G = whileN c b n σ G
  | 0, _, _, h => absurd rfl h
  | n + 1, σ, G, h => by
    rw [whileN_s] at h ⊢
    rw [whileN_s]
    cases e : c σ G with
    | ok x G1 =>
      rw [e] at h
      simp only [onE_ok] at h ⊢
      cases x with
      | true =>
        simp only [if_true] at h ⊢
        exact Sr.turn_ne h (fun σ G h => whileN_mono n σ G h)
      | false => rfl
    | ex _ _ _ => rfl
    | bad => rfl
/-- the while's own equation -/
theorem whileC_eq {c : TF} {b : SF} (σ : Eq') (G : Hq) : whileC c b σ G = onE (c σ G) σ fun x G1 => if x then (b σ G1).turn (whileC c b) else .nx σ G1 := by
  have mono : ∀ σ G n, whileN c b n σ G ≠ .bad → whileN c b (n + 1) σ G = whileN c b n σ G := fun σ G n => whileN_mono n σ G
  by_cases hb : whileC c b σ G = .bad
  · rw [hb]
    -- then every turn's is bad
    have all : ∀ n, whileN c b n σ G = .bad := fun n => by
      by_cases h : whileN c b n σ G = .bad
      · exact h
      · exact absurd ((lim_eq (mono σ G) h).symm.trans hb) h
    cases e : c σ G with
    | ok x G1 =>
      simp only [onE_ok]
      cases x with
      | true =>
        simp only [if_true]
        have step : ∀ n, (b σ G1).turn (whileN c b n) = .bad := fun n => by
          have z := all (n + 1)
          rw [whileN_s, e] at z
          simpa using z
        cases eb : b σ G1 with
        | nx σ2 G2 =>
          rw [eb] at step
          show Sr.bad = whileC c b σ2 G2
          by_cases h : whileC c b σ2 G2 = .bad
          · exact h.symm
          · obtain ⟨n, hn⟩ := lim_ex h
            exact (step n).symm.trans hn
        | ct σ2 G2 =>
          rw [eb] at step
          show Sr.bad = whileC c b σ2 G2
          by_cases h : whileC c b σ2 G2 = .bad
          · exact h.symm
          · obtain ⟨n, hn⟩ := lim_ex h
            exact (step n).symm.trans hn
        | rt _ _ => rw [eb] at step; exact (step 0).symm
        | bk _ _ => rw [eb] at step; exact (step 0).symm
        | ex _ _ _ _ => rw [eb] at step; exact (step 0).symm
        | bad => rfl
      | false =>
        have z := all 1
        rw [whileN_s, e] at z
        simp at z
    | ex _ _ _ =>
      have z := all 1
      rw [whileN_s, e] at z
      cases z
    | bad => rfl
  · obtain ⟨n, hn⟩ := lim_ex hb
    have hn' : whileN c b n σ G = whileC c b σ G := hn
    cases n with
    | zero => exact absurd hn'.symm hb
    | succ n =>
      rw [← hn', whileN_s]
      rw [← hn', whileN_s] at hb
      cases e : c σ G with
      | ok x G1 =>
        rw [e] at hb
        simp only [onE_ok] at hb ⊢
        cases x with
        | true =>
          simp only [if_true] at hb ⊢
          exact (Sr.turn_ne hb fun σ G h => lim_eq (mono σ G) h).symm
        | false => rfl
      | ex _ _ _ => rfl
      | bad => rfl
/-! ### for -/
inductive Nx where
  | item (d : D) | stop | bad
abbrev Src := Nat → Hq → Nx
abbrev IF := Eq' → Hq → Rs Src
def forN (s : Src) (g : GF) (b : SF) : Nat → Nat → SF
  | 0, _ => fun _ _ => .bad
  | n + 1, k => fun σ G => match s k G with
    | .item d => onG (g d σ G) fun σ1 G1 => (b σ1 G1).turn (forN s g b n (k + 1))
    | .stop => .nx σ G
    | .bad => .bad
theorem forN_s {s : Src} {g : GF} {b : SF} {n k : Nat} {σ : Eq'} {G : Hq} : forN s g b (n + 1) k σ G = match s k G with
    | .item d => onG (g d σ G) fun σ1 G1 => (b σ1 G1).turn (forN s g b n (k + 1))
    | .stop => .nx σ G
    | .bad => .bad := rfl
noncomputable def forL (s : Src) (g : GF) (b : SF) (k : Nat) : SF := fun σ G => lim fun n => forN s g b n k σ G
noncomputable def forC (i : IF) (g : GF) (b : SF) : SF := fun σ G => onE (i σ G) σ fun s G1 => forL s g b 0 σ G1
theorem forN_mono {s : Src} {g : GF} {b : SF} : ∀ n k σ G, forN s g b n k σ G ≠ .bad → forN s g b (n + 1) k σ G = forN s g b n k σ G
  | 0, _, _, _, h => absurd rfl h
  | n + 1, k, σ, G, h => by
    rw [forN_s] at h ⊢
    rw [forN_s]
    cases e : s k G with
    | item d =>
      rw [e] at h
      simp only at h ⊢
      cases eg : g d σ G with
      | ok σ1 G1 =>
        rw [eg] at h
        simp only [onG_ok] at h ⊢
        exact Sr.turn_ne h (fun σ G h => forN_mono n (k + 1) σ G h)
      | ex _ _ _ => rfl
      | bad => rfl
    | stop => rfl
    | bad => rfl
theorem forL_eq {s : Src} {g : GF} {b : SF} (k : Nat) (σ : Eq') (G : Hq) : forL s g b k σ G = match s k G with
    | .item d => onG (g d σ G) fun σ1 G1 => (b σ1 G1).turn (forL s g b (k + 1))
    | .stop => .nx σ G
    | .bad => .bad := by
  have mono : ∀ k σ G n, forN s g b n k σ G ≠ .bad → forN s g b (n + 1) k σ G = forN s g b n k σ G := fun k σ G n => forN_mono n k σ G
  by_cases hb : forL s g b k σ G = .bad
  · rw [hb]
    have all : ∀ n, forN s g b n k σ G = .bad := fun n => by
      by_cases h : forN s g b n k σ G = .bad
      · exact h
      · exact absurd ((lim_eq (mono k σ G) h).symm.trans hb) h
    cases e : s k G with
    | item d =>
      simp only
      cases eg : g d σ G with
      | ok σ1 G1 =>
        simp only [onG_ok]
        have step : ∀ n, (b σ1 G1).turn (forN s g b n (k + 1)) = .bad := fun n => by
          have z := all (n + 1)
          rw [forN_s, e] at z
          simp only [eg, onG_ok] at z
          exact z
        cases eb : b σ1 G1 with
        | nx σ2 G2 =>
          rw [eb] at step
          show Sr.bad = forL s g b (k + 1) σ2 G2
          by_cases h : forL s g b (k + 1) σ2 G2 = .bad
          · exact h.symm
          · obtain ⟨n, hn⟩ := lim_ex h
            exact (step n).symm.trans hn
        | ct σ2 G2 =>
          rw [eb] at step
          show Sr.bad = forL s g b (k + 1) σ2 G2
          by_cases h : forL s g b (k + 1) σ2 G2 = .bad
          · exact h.symm
          · obtain ⟨n, hn⟩ := lim_ex h
            exact (step n).symm.trans hn
        | rt _ _ => rw [eb] at step; exact (step 0).symm
        | bk _ _ => rw [eb] at step; exact (step 0).symm
        | ex _ _ _ _ => rw [eb] at step; exact (step 0).symm
        | bad => rfl
      | ex _ _ _ => rfl
      | bad => rfl
    | stop =>
      have z := all 1
      rw [forN_s, e] at z
      cases z
    | bad => rfl
  · obtain ⟨n, hn⟩ := lim_ex hb
    have hn' : forN s g b n k σ G = forL s g b k σ G := hn
    cases n with
    | zero => exact absurd hn'.symm hb
    | succ n =>
      rw [← hn', forN_s]
      rw [← hn', forN_s] at hb
      cases e : s k G with
      | item d =>
        rw [e] at hb
        simp only at hb ⊢
        cases eg : g d σ G with
        | ok σ1 G1 =>
          rw [eg] at hb
          simp only [onG_ok] at hb ⊢
          exact (Sr.turn_ne hb fun σ G h => lim_eq (mono (k + 1) σ G) h).symm
        | ex _ _ _ => rfl
        | bad => rfl
      | stop => rfl
      | bad => rfl
end SX

set_option Elab.async false
set_option linter.all false
set_option maxRecDepth 100000
set_option maxHeartbeats 1000000
namespace SX
open PySem PySem.Spec PyProof.Rows L2

section
variable {X : Cx} {W : L2.St → XW} {k : Nat} {e a b : Expr} {es : List Expr} {fa fb : EF} {ta tb : TF} {fr : AF} {pos p : Pos} {st : Stmt} {sts : List Stmt} {f1 f2 : SF} {gf : GF}
theorem xe_bin {op : Operator} {g : D → D → Hq → Rs D} (ho : OpF X (binaryOp op) g) (ha : PE X a (tE X W fa)) (hb : PE X b (tE X W fb)) : PE X (.BinOp a op b pos) (tE X W (binC g fa fb)) := by
  refine ⟨fun pins s σ H Q I h => wpAny_BinOp (binT ha hb I (tE_two h) fun u z s2 v w H2 I2 rv rw_ q => ?_)⟩
  obtain ⟨m2, G2, x, y, S2, r1, r2, q⟩ := q
  exact ho pins s2 σ m2 G2 H2 x y v w u z Q (W σ) I2 S2 r1 r2 rv rw_ q
theorem tE_one {g : D → Hq → Rs D} {σ : L2.St} {H : Hp} {Q : VK} (h : tE X W (unC g fa) σ H Q) :
    tE X W fa σ H fun v H1 => ∃ m1 G1 x, Sim X.K m1 G1 H1 ∧ VR X.K m1 H1 x v ∧ PostR X.K X.mg (VR X.K) (W σ) m1 H1 (g x G1) Q := by
  obtain ⟨m, σ', G, S, R, h⟩ := h
  exact ⟨m, σ', G, S, R, (PostR.bnd (R := VR X.K) h).imp fun v H1 ⟨m1, G1, x, e1, S1, r1, _, h1⟩ => ⟨m1, G1, x, S1, r1, h1⟩⟩
theorem xe_un {op : UnaryOp} {g : D → Hq → Rs D} (ho : UnF X (unaryOp op) g) (ha : PE X a (tE X W fa)) : PE X (.UnaryOp op a pos) (tE X W (unC g fa)) := by
  refine ⟨fun pins s σ H Q I h => UnaryOp_ (thn (ha.run pins s σ H _ I (tE_one h)) fun u s1 ⟨v, H1, I1, rv, q⟩ => ?_)⟩
  obtain ⟨m1, G1, x, S1, r1, q⟩ := q
  exact ho pins s1 σ m1 G1 H1 x v u Q (W σ) I1 S1 r1 rv q
theorem xe_cmp {op : CmpOp} {g : D → D → Hq → Rs D} (ho : OpF X (compareOp op) g) (ha : PE X a (tE X W fa)) (hb : PE X b (tE X W fb)) (hm : behindInMarks op b = false) : PE X (.Compare a [op] [b] pos) (tE X W (binC g fa fb)) := by
  refine ⟨fun pins s σ H Q I h => wpAny_Compare1 (binT ha hb I (tE_two h) fun u z s2 v w H2 I2 rv rw_ q => ?_) hm⟩
  obtain ⟨m2, G2, x, y, S2, r1, r2, q⟩ := q
  exact ho pins s2 σ m2 G2 H2 x y v w u z Q (W σ) I2 S2 r1 r2 rv rw_ q
/-! arguments -/
theorem xa_nil : PA X [] (tA X W nilA) := ⟨fun ps pins s σ H Q I ⟨m, σ', G, S, R, h⟩ => pa_nil.run ps pins s σ H Q I (PostR.here (b := []) h S .nil)⟩
theorem xa_cons (ha : PE X e (tE X W fa)) (hr : PA X es (tA X W fr)) (hs : starEach (e :: es) X.env = (false, eval e X.env) :: starEach es X.env := by rfl) : PA X (e :: es) (tA X W (consA fa fr)) := by
  refine ⟨fun ps pins s σ H Q I ⟨m, σ', G, S, R, h⟩ => (pa_cons ha hr hs).run ps pins s σ H Q I ?_⟩
  refine ⟨m, σ', G, S, R, (PostR.bnd (R := VR X.K) h).imp fun v H1 ⟨m1, G1, x, e1, S1, r1, _, h1⟩ => ⟨m1, σ', G1, S1, R.mono e1, (PostR.bnd (R := VRs X.K) h1).imp fun vs H2 ⟨m2, G2, xs, e2, S2, r2, _, h2⟩ => ?_⟩⟩
  exact h2.here S2 (.cons (r1.mono e2) r2)
theorem argsLen {f : AF} {n : Nat} (h : ∀ σ G xs G', f σ G = .ok xs G' → xs.length = n) {f0 : EF} : ∀ σ G xs G', consA f0 f σ G = .ok xs G' → xs.length = n + 1 := by
  intro σ G xs G' e
  unfold consA at e
  cases e0 : f0 σ G with
  | ok x G1 =>
    rw [e0] at e
    simp only [Rs.bind_ok] at e
    cases e1 : f σ G1 with
    | ok ys G2 => rw [e1] at e; simp only [Rs.bind_ok] at e; cases e; rw [List.length_cons, h _ _ _ _ e1]
    | ex _ _ _ => rw [e1] at e; cases e
    | bad => rw [e1] at e; cases e
  | ex _ _ _ => rw [e0] at e; cases e
  | bad => rw [e0] at e; cases e
/-- how many values an argument function gives -/
def ALen (f : AF) (n : Nat) : Prop := ∀ σ G xs G', f σ G = .ok xs G' → xs.length = n
theorem aLen_nil : ALen nilA 0 := fun σ G xs G' e => by cases e; rfl
theorem aLen_cons {f : AF} {n : Nat} {f0 : EF} (h : ALen f n) : ALen (consA f0 f) (n + 1) := argsLen h
theorem xe_tup {n : Nat} {kk} (h : PA X es (tA X W fr)) (hl : ALen fr n) (hz : n ≤ sizeLine := by show _ ≤ 16777216; decide) : PE X (.Tuple es kk pos) (tE X W (tupC fr)) := by
  refine ⟨fun pins s σ H Q I ⟨m, σ', G, S, R, q⟩ => (pe_tup h).run pins s σ H Q I ?_⟩
  refine ⟨m, σ', G, S, R, (PostR.bnd (R := VRs X.K) q).imp fun vs H1 ⟨m1, G1, xs, e1, S1, r1, er, h1⟩ => ⟨by rw [← r1.length, hl _ _ _ _ er]; exact hz, fun pp hp => ?_⟩⟩
  exact h1 m1 (upd H1 pp (.tup vs)) (.ref pp) (xt_more hp) (S1.more hp) (.tup upd_same (r1.mono (xt_more hp)))
theorem xe_lst {n : Nat} (h : PA X es (tA X W fr)) (hl : ALen fr n) (hz : n ≤ sizeLine := by show _ ≤ 16777216; decide) : PE X (.List es pos) (tE X W (lstC fr)) := by
  refine ⟨fun pins s σ H Q I ⟨m, σ', G, S, R, q⟩ => (pe_lst h).run pins s σ H Q I ?_⟩
  refine ⟨m, σ', G, S, R, (PostR.bnd (R := VRs X.K) q).imp fun vs H1 ⟨m1, G1, xs, e1, S1, r1, er, h1⟩ => ⟨by rw [← r1.length, hl _ _ _ _ er]; exact hz, fun pp hp => ?_⟩⟩
  exact h1 (m1 ++ [pp]) (upd H1 pp (.lst vs)) (.ref pp) (xt_push hp) (S1.push hp ⟨vs, upd_same, r1.mono (xt_push hp)⟩) (.ref (by rw [← S1.len]; simp))
/-! tests -/
theorem xt_val (h : PE X e (tE X W fa)) (he : ∀ whole, isTrue e X.env whole = (do let v ← whole; standAt e.pos; holding [v] (truthy v)) := by intro _; rfl) : PT X e (tT X W (valT fa)) := by
  refine ⟨fun pins s σ H Q I ⟨m, σ', G, S, R, q⟩ => (pt_val h he).run pins s σ H Q I ?_⟩
  refine ⟨m, σ', G, S, R, (PostR.bnd (R := VR X.K) q).imp fun v H1 ⟨m1, G1, x, e1, S1, r1, er, h1⟩ => ?_⟩
  cases x with
  | bl c => cases r1; exact ⟨c, rfl, h1.here S1 rfl⟩
  | _ => exact h1.elim
theorem xt_cmp {op : CmpOp} (h : PE X (.Compare a [op] [b] pos) (tE X W fa)) (hc : PC X op a b (tE X W fa)) (h1 : behindInMarks op b = false) : PT X (.Compare a [op] [b] pos) (tT X W (valT fa)) := by
  refine ⟨fun pins s σ H Q I ⟨m, σ', G, S, R, q⟩ => (pt_cmp hc h1).run pins s σ H Q I ?_⟩
  refine ⟨m, σ', G, S, R, (PostR.bnd (R := VR X.K) q).imp fun v H1 ⟨m1, G1, x, e1, S1, r1, er, h1⟩ => ?_⟩
  cases x with
  | bl c => cases r1; exact ⟨c, rfl, h1.here S1 rfl⟩
  | _ => exact h1.elim
theorem xt_cmpR {op : CmpOp} {g : D → D → Hq → Rs D} (ho : OpF X (compareOp op) g) (ha : PE X a (tE X W fa)) (hb : PE X b (tE X W fb)) (hm : behindInMarks op b = false) : PT X (.Compare a [op] [b] pos) (tT X W (valT (binC g fa fb))) := by
  refine xt_cmp (xe_cmp ho ha hb hm) ⟨fun pins s σ H Q I h => binT ha hb I (tE_two h) fun u z s2 v w H2 I2 rv rw_ q => ?_⟩ hm
  obtain ⟨m2, G2, x, y, S2, r1, r2, q⟩ := q
  exact ho pins s2 σ m2 G2 H2 x y v w u z Q (W σ) I2 S2 r1 r2 rv rw_ q
theorem xw_and (ha : PT X a (tT X W ta)) (hb : PW X (.BoolOp .And (b :: es) pos) (tT X W tb)) : PW X (.BoolOp .And (a :: b :: es) pos) (tT X W (andT ta tb)) := by
  refine ⟨fun wh pins s σ H Q I ⟨m, σ', G, S, R, q⟩ => (pw_and ha hb).run wh pins s σ H Q I ?_⟩
  refine ⟨m, σ', G, S, R, (PostR.bnd (R := RB) q).imp fun x H1 ⟨m1, G1, y, e1, S1, r1, _, h1⟩ => ?_⟩
  cases r1
  cases x with
  | true => exact iteT ⟨m1, σ', G1, S1, R.mono e1, h1⟩
  | false => exact iteF (PostR.here h1 S1 rfl)
theorem xw_or (ha : PT X a (tT X W ta)) (hb : PW X (.BoolOp .Or (b :: es) pos) (tT X W tb)) : PW X (.BoolOp .Or (a :: b :: es) pos) (tT X W (orT ta tb)) := by
  refine ⟨fun wh pins s σ H Q I ⟨m, σ', G, S, R, q⟩ => (pw_or ha hb).run wh pins s σ H Q I ?_⟩
  refine ⟨m, σ', G, S, R, (PostR.bnd (R := RB) q).imp fun x H1 ⟨m1, G1, y, e1, S1, r1, _, h1⟩ => ?_⟩
  cases r1
  cases x with
  | true => exact iteT (PostR.here h1 S1 rfl)
  | false => exact iteF ⟨m1, σ', G1, S1, R.mono e1, h1⟩
theorem xw_and1 (ha : PT X a (tT X W ta)) : PW X (.BoolOp .And [a] pos) (tT X W ta) := pw_and1 ha
theorem xw_or1 (ha : PT X a (tT X W ta)) : PW X (.BoolOp .Or [a] pos) (tT X W ta) := pw_or1 ha
theorem xt_not (ha : PT X a (tT X W ta)) : PT X (.UnaryOp .Not a pos) (tT X W (notT ta)) := by
  refine ⟨fun pins s σ H Q I ⟨m, σ', G, S, R, q⟩ => (pt_not ha).run pins s σ H Q I ?_⟩
  refine ⟨m, σ', G, S, R, (PostR.bnd (R := RB) q).imp fun x H1 ⟨m1, G1, y, e1, S1, r1, _, h1⟩ => ?_⟩
  cases r1
  exact h1.here S1 rfl
theorem xe_if {c : Expr} (hc : PT X c (tT X W ta)) (ha : PE X a (tE X W fa)) (hb : PE X b (tE X W fb)) : PE X (.IfExp c a b pos) (tE X W (ifC ta fa fb)) := by
  refine ⟨fun pins s σ H Q I ⟨m, σ', G, S, R, q⟩ => (pe_ifExp hc ha hb).run pins s σ H Q I ?_⟩
  refine ⟨m, σ', G, S, R, (PostR.bnd (R := RB) q).imp fun x H1 ⟨m1, G1, y, e1, S1, r1, _, h1⟩ => ?_⟩
  cases r1
  cases x with
  | true => exact iteT ⟨m1, σ', G1, S1, R.mono e1, h1⟩
  | false => exact iteF ⟨m1, σ', G1, S1, R.mono e1, h1⟩
/-! statements -/
theorem xs_expr (he : PE X e (tE X W fa)) (hs : swapsWith e none pos.line X.env = pure false := by rfl) : PS X (.Expr e pos) (tS X W (exprC fa)) := by
  refine ⟨fun pins s σ H Dd I ⟨m, σ', G, S, R, q⟩ => (ps_expr he hs).run pins s σ H Dd I ?_⟩
  exact ⟨m, σ', G, S, R, (PostS.bnd (R := VR X.K) R q).imp fun v H1 ⟨m1, G1, x, e1, S1, r1, _, h1⟩ => h1 m1 H1 σ .refl S1 (R.mono e1)⟩
theorem xs_ret (he : PE X e (tE X W fa)) : PS X (.Return (some e) pos) (tS X W (retC fa)) := by
  refine ⟨fun pins s σ H Dd I ⟨m, σ', G, S, R, q⟩ => (ps_ret he).run pins s σ H Dd I ?_⟩
  exact ⟨m, σ', G, S, R, (PostS.bnd (R := VR X.K) R q).imp fun v H1 ⟨m1, G1, x, e1, S1, r1, _, h1⟩ => h1 m1 H1 v .refl S1 r1⟩
theorem xs_retN : PS X (.Return none pos) (tS X W retN) :=
  ⟨fun pins s σ H Dd I ⟨m, σ', G, S, R, q⟩ => ps_retN.run pins s σ H Dd I (q m H .non .refl S .non)⟩
theorem xs_pass : PS X (.Pass pos) (tS X W passC) := ⟨fun pins s σ H Dd I ⟨m, σ', G, S, R, q⟩ => ps_pass.run pins s σ H Dd I (q m H σ .refl S R)⟩
theorem xs_break : PS X (.Break pos) (tS X W breakC) := ⟨fun pins s σ H Dd I ⟨m, σ', G, S, R, q⟩ => ps_break.run pins s σ H Dd I (q m H σ .refl S R)⟩
theorem xs_cont : PS X (.Continue pos) (tS X W contC) := ⟨fun pins s σ H Dd I ⟨m, σ', G, S, R, q⟩ => ps_continue.run pins s σ H Dd I (q m H σ .refl S R)⟩
theorem xs_if {c : Expr} {s1 s2 : List Stmt} (hc : PT X c (tT X W ta)) (h1 : PSs X s1 (tS X W f1)) (h2 : PSs X s2 (tS X W f2)) : PS X (.If c s1 s2 pos) (tS X W (ifS ta f1 f2)) := by
  refine ⟨fun pins s σ H Dd I ⟨m, σ', G, S, R, q⟩ => (ps_if hc h1 h2).run pins s σ H Dd I ?_⟩
  refine ⟨m, σ', G, S, R, (PostS.bnd (R := RB) R q).imp fun x H1 ⟨m1, G1, y, e1, S1, r1, _, h1⟩ => ?_⟩
  cases r1
  cases x with
  | true => exact iteT ⟨m1, σ', G1, S1, R.mono e1, h1⟩
  | false => exact iteF ⟨m1, σ', G1, S1, R.mono e1, h1⟩
theorem xss_nil : PSs X [] (tS X W passC) := ⟨fun pins s σ H Dd I ⟨m, σ', G, S, R, q⟩ => pss_nil.run pins s σ H Dd I (q m H σ .refl S R)⟩
theorem xss_one (h : PS X st (tS X W f1)) : PSs X [st] (tS X W f1) := pss_one h
theorem xss_cons (h1 : PS X st (tS X W f1)) (h2 : PSs X sts (tS X W f2)) : PSs X (st :: sts) (tS X W (seqC f1 f2)) := by
  refine ⟨fun pins s σ H Dd I ⟨m, σ', G, S, R, q⟩ => (pss_cons h1 h2).run pins s σ H Dd I ?_⟩
  refine ⟨m, σ', G, S, R, ?_⟩
  unfold seqC at q
  cases e : f1 σ' G with
  | nx σ1 G1 => rw [e] at q; exact fun m1 H1 σ2 x S1 R1 => ⟨m1, σ1, G1, S1, R1, q.shift x⟩
  | rt d G1 => rw [e] at q; exact q
  | bk σ1 G1 => rw [e] at q; exact q
  | ct σ1 G1 => rw [e] at q; exact q
  | ex c i σ1 G1 => rw [e] at q; exact q
  | bad => rw [e] at q; exact q.elim
/-! stores -/
theorem SR.put {K : PySem.W.Frag} {m : List Addr} {H : Hp} {σ' : Eq'} {σ : L2.St} (R : SR K m H σ' σ) (i : Nat) {d : D} {v : V} (r : VR K m H d v) : SR K m H (σ'.set i (some d)) (σ.set i (some v)) := by
  refine ⟨by rw [List.length_set, List.length_set]; exact R.1, fun j x e => ?_⟩
  by_cases hj : j = i
  · subst hj
    obtain ⟨hl, _⟩ := List.getElem?_eq_some_iff.mp e
    rw [List.length_set] at hl
    rw [List.getElem?_set_self hl] at e
    cases e
    exact ⟨v, List.getElem?_set_self (by rw [← R.1]; exact hl), r⟩
  · rw [List.getElem?_set_ne (Ne.symm hj)] at e
    rw [List.getElem?_set_ne (Ne.symm hj)]
    exact R.2 j x e
theorem xs_set (i : Nat) {x : Str} {pos' : Pos} (hN : X.N.Nodup) (he : PE X e (tE X W fa)) (hi : X.N[i]? = some x := by rfl) (hx : Loc X.env.scope x := by first | exact Or.inl rfl | exact Or.inr rfl) (hs : swapsWith e (some (.Name x pos')) pos.line X.env = pure false := by rfl)
    (hf : X.fn x = true ∨ X.env.scope.names.lookup x = some .local := by first | exact .inl rfl | exact .inr rfl) : PS X (.Assign [.Name x pos'] e pos) (tS X W (setC i fa)) := by
  refine ⟨fun pins s σ H Dd I ⟨m, σ', G, S, R, q⟩ => (ps_set (i := i) hN hi hx he hs hf).run pins s σ H Dd I ?_⟩
  exact ⟨m, σ', G, S, R, (PostS.bnd (R := VR X.K) R q).imp fun v H1 ⟨m1, G1, y, e1, S1, r1, _, h1⟩ => h1 m1 H1 _ .refl S1 ((R.mono e1).put i r1)⟩
def gN (i : Nat) : GF := fun d σ G => .ok (σ.set i (some d)) G
def gNl : List D → Eq' → Hq → Rs Eq' := fun ds σ G => match ds with | [] => .ok σ G | _ => .bad
def gCs (g : GF) (r : List D → Eq' → Hq → Rs Eq') : List D → Eq' → Hq → Rs Eq' := fun ds σ G => match ds with
  | [] => .bad
  | d :: ds => (g d σ G).bind fun σ1 G1 => r ds σ1 G1
def gTp (n : Nat) (g : List D → Eq' → Hq → Rs Eq') : GF := fun d σ G => match d with
  | .tup xs => if xs.length = n then g xs σ G else .bad
  | _ => .bad
theorem xg_name (i : Nat) {x : Str} (hN : X.N.Nodup) (hi : X.N[i]? = some x := by rfl) (hx : Loc X.env.scope x := by first | exact Or.inl rfl | exact Or.inr rfl)
    (hf : X.fn x = true ∨ X.env.scope.names.lookup x = some .local := by first | exact .inl rfl | exact .inr rfl) : PG X (.Name x pos) (tG X (gN i)) := by
  refine ⟨fun pins s σ H v u Q I r ⟨m, σ', G, d, S, R, rd, q⟩ => (pg_name (i := i) hN hi hx hf).run pins s σ H v u Q I r ?_⟩
  exact q.here S (R.put i rd)
theorem xgs_nil : PGs X [] (tGs X gNl) := by
  refine ⟨fun pins s σ H vs us Q I r ⟨m, σ', G, ds, S, R, rd, q⟩ => pgs_nil.run pins s σ H vs us Q I r ?_⟩
  cases rd with
  | nil => exact ⟨rfl, q.here S R⟩
  | cons _ _ => exact q.elim
theorem xgs_cons {gr : List D → Eq' → Hq → Rs Eq'} (h1 : PG X e (tG X gf)) (h2 : PGs X es (tGs X gr)) (hs : (assignEach (e :: es) X.env).map (·.2) = assign e X.env :: (assignEach es X.env).map (·.2) := by rfl):
    PGs X (e :: es) (tGs X (gCs gf gr)) := by
  refine ⟨fun pins s σ H vs us Q I r ⟨m, σ', G, ds, S, R, rd, q⟩ => (pgs_cons h1 h2 hs).run pins s σ H vs us Q I r ?_⟩
  cases rd with
  | nil => exact q.elim
  | cons r1 rr =>
    refine ⟨_, _, rfl, m, σ', G, _, S, R, r1, (PostR.bnd (R := SR X.K) q).imp fun σ1 H1 ⟨m1, G1, y, e1, S1, R1, _, h1⟩ => ⟨m1, y, G1, _, S1, R1, rr.mono e1, h1⟩⟩
end
end SX

set_option Elab.async false
set_option linter.all false
set_option maxRecDepth 100000
set_option maxHeartbeats 1000000
namespace SX
open PySem PySem.Spec PyProof.Rows L2

/-- o[i] = v -/
def SetF (X : Cx) (g : D → D → D → Hq → Rs Unit) : Prop :=
  ∀ (pins : List (Addr × Obj)) (s : Shared) (σ : L2.St) (m : List Addr) (G : Hq) (H : Hp) (x y z : D) (v w t : V) (ov iv u : Value) (Q : Hp → Prop), Inv X pins σ H s → Sim X.K m G H → VR X.K m H x v → VR X.K m H y w → VR X.K m H z t →
    RelV v ov → RelV w iv → RelV t u → PostR X.K X.mg (fun _ _ (_ : Unit) (_ : Unit) => True) W0 m H (g x y z G) (fun _ H' => Q H') →
    wpAny (model X.prog X.w) X.A (setItem ov iv u) (fun _ s' => ∃ H', Inv X pins σ H' s' ∧ Q H') X.xe s
abbrev RU : List Addr → Hp → Unit → Unit → Prop := fun _ _ _ _ => True
def gSubC (g : D → D → D → Hq → Rs Unit) (o i : EF) : GF := fun d σ G => match o σ G with
  | .ok x G1 => match i σ G1 with
    | .ok y G2 => match g x y d G2 with
      | .ok _ G3 => .ok σ G3
      | _ => .bad
    | _ => .bad
  | _ => .bad
def onU (r : Rs Unit) (k : Hq → Sr) : Sr := match r with
  | .ok _ G => k G
  | _ => .bad
def augSubC (get : D → D → Hq → Rs D) (op : D → D → Hq → Rs D) (g : D → D → D → Hq → Rs Unit) (o i e : EF) : SF := fun σ G => onE (o σ G) σ fun x G1 => onE (i σ G1) σ fun y G2 => onE (get x y G2) σ fun old G3 => onE (e σ G3) σ fun d G4 =>
  onE (op old d G4) σ fun new G5 => onU (g x y new G5) fun G6 => .nx σ G6
section
variable {X : Cx} {W : L2.St → XW} {k : Nat} {e a b tg o i : Expr} {es : List Expr} {fa fb fo fi : EF} {ta tb : TF} {fr : AF} {pos p : Pos} {st : Stmt} {sts body : List Stmt} {f1 f2 fbd : SF} {gf : GF}
theorem xg_tup {n kk : Nat} {gr : List D → Eq' → Hq → Rs Eq'} (hc : X.calm = true) (h : PGs X es (tGs X gr)) (hn : (assignEach es X.env).length = n := by rfl) (hst : (assignEach es X.env).findIdx? (·.1) = none := by rfl) : PG X (.Tuple es kk pos) (tG X (gTp n gr)) := by
  refine ⟨fun pins s σ H v u Q I r ⟨m, σ', G, d, S, R, rd, q⟩ => (pg_tup hc h hn hst).run pins s σ H v u Q I r ?_⟩
  cases rd with
  | @tup aa xs vs hs hr =>
    by_cases hl : xs.length = n
    · refine ⟨aa, vs, rfl, SqT.of hs, by rw [← hr.length]; exact hl, m, σ', G, xs, S, R, hr, ?_⟩
      have e : gTp n gr (.tup xs) σ' G = gr xs σ' G := if_pos hl
      rw [← e]; exact q
    · have e : gTp n gr (.tup xs) σ' G = .bad := if_neg hl
      rw [e] at q; exact q.elim
  | _ => exact q.elim
theorem xs_asg (he : PE X e (tE X W fa)) (hg : PG X tg (tG X gf)) (hs : swapsWithSole [tg] e pos.line X.env = pure false := by rfl) (hw : swappedStores [tg] e X.env = pure none := by rfl)
    (h1 : (assignEach [tg] X.env).map (·.2) = [assign tg X.env] := by rfl) : PS X (.Assign [tg] e pos) (tS X W (asgC fa gf)) := by
  refine ⟨fun pins s σ H Dd I ⟨m, σ', G, S, R, q⟩ => (ps_asg he hg hs hw h1).run pins s σ H Dd I ?_⟩
  refine ⟨m, σ', G, S, R, (PostS.bnd (R := VR X.K) R q).imp fun v H1 ⟨m1, G1, x, e1, S1, r1, _, h1⟩ => ⟨m1, σ', G1, x, S1, R.mono e1, r1, ?_⟩⟩
  cases eg : gf x σ' G1 with
  | ok σ2 G2 => rw [eg] at h1; exact h1
  | ex c j G2 => rw [eg] at h1; exact h1.elim
  | bad => rw [eg] at h1; exact h1.elim
theorem xs_aug (i : Nat) {x : Str} {op : Operator} {pos' : Pos} {g : D → D → Hq → Rs D} (hN : X.N.Nodup) (ho : OpF X (inplaceOp op) g) (he : PE X e (tE X W fa)) (hi : X.N[i]? = some x := by rfl) (hx : Loc X.env.scope x := by first | exact Or.inl rfl | exact Or.inr rfl)
    (hf : X.fn x = true ∨ X.env.scope.names.lookup x = some .local := by first | exact .inl rfl | exact .inr rfl) : PS X (.AugAssign (.Name x pos') op e pos) (tS X W (augC i g fa)) := by
  have hp : PIp X op (fun v w H Q => ∃ m G d z, Sim X.K m G H ∧ VR X.K m H d v ∧ VR X.K m H z w ∧ ∃ Wx, PostR X.K X.mg (VR X.K) Wx m H (g d z G) Q) := by
    intro pins s σ H v w u z Q I r1 r2 ⟨m, G, d, z', S, h1, h2, Wx, h3⟩
    exact ho pins s σ m G H d z' v w u z Q Wx I S h1 h2 r1 r2 h3
  refine ⟨fun pins s σ H Dd I ⟨m, σ', G, S, R, q⟩ => (ps_aug (i := i) hN hi hx he hp hf).run pins s σ H Dd I ?_⟩
  unfold augC at q
  cases es : σ'[i]? with
  | none => rw [es] at q; exact q.elim
  | some o =>
    cases o with
    | none => rw [es] at q; exact q.elim
    | some d =>
      rw [es] at q
      obtain ⟨v, ev, rv⟩ := R.get es
      refine ⟨v, ev, m, σ', G, S, R, (PostS.bnd (R := VR X.K) R q).imp fun w H1 ⟨m1, G1, y, e1, S1, r1, _, h1⟩ => ⟨m1, G1, d, y, S1, rv.mono e1, r1, W σ, ?_⟩⟩
      exact (PostS.bnd (R := VR X.K) (R.mono e1) h1).imp fun t H2 ⟨m2, G2, z, e2, S2, r2, _, h2⟩ => h2 m2 H2 _ .refl S2 (((R.mono e1).mono e2).put i r2)
theorem xg_sub {g : D → D → D → Hq → Rs Unit} (hs : SetF X g) (ho : PE X o (tE X W fo)) (hi : PE X i (tE X W fi))
    (ha : ∀ v, assign (.Subscript o i pos) X.env v = (do
      let ov ← holding [v] (eval o X.env)
      let iv ← holding [v, ov] (eval i X.env)
      standAt pos
      holding [v, ov, iv] (setItem ov iv v)
      release [v, ov, iv] []) := by intro _; rfl) : PG X (.Subscript o i pos) (tG X (gSubC g fo fi)) := by
  have ps : PSet X (fun v w t H Q => ∃ m G x y z, Sim X.K m G H ∧ VR X.K m H x v ∧ VR X.K m H y w ∧ VR X.K m H z t ∧ PostR X.K X.mg RU W0 m H (g x y z G) (fun _ H' => Q H')) := by
    intro pins s σ H v w t ov iv u Q I r1 r2 r3 ⟨m, G, x, y, z, S, h1, h2, h3, h4⟩
    exact hs pins s σ m G H x y z v w t ov iv u Q I S h1 h2 h3 r1 r2 r3 h4
  refine ⟨fun pins s σ H v u Q I r ⟨m, σ', G, d, S, R, rd, q⟩ => (pg_sub ho hi ps ha).run pins s σ H v u Q I r ?_⟩
  unfold gSubC at q
  cases e1 : fo σ' G with
  | ok x G1 =>
    rw [e1] at q
    simp only at q
    refine ⟨m, σ', G, S, R, ?_⟩
    rw [e1]
    intro m1 H1 xv x1 S1 r1
    cases e2 : fi σ' G1 with
    | ok y G2 =>
      rw [e2] at q
      simp only at q
      refine ⟨m1, σ', G1, S1, R.mono x1, ?_⟩
      rw [e2]
      intro m2 H2 yv x2 S2 r2
      cases e3 : g x y d G2 with
      | ok _ G3 =>
        rw [e3] at q
        simp only at q
        refine ⟨m2, G2, x, y, d, S2, r1.mono x2, r2, (rd.mono x1).mono x2, ?_⟩
        rw [e3]
        intro m3 H3 _ x3 S3 _
        exact q m3 H3 σ ((x1.trans x2).trans x3) S3 (((R.mono x1).mono x2).mono x3)
      | ex _ _ _ => rw [e3] at q; exact q.elim
      | bad => rw [e3] at q; exact q.elim
    | ex _ _ _ => rw [e2] at q; exact q.elim
    | bad => rw [e2] at q; exact q.elim
  | ex _ _ _ => rw [e1] at q; exact q.elim
  | bad => rw [e1] at q; exact q.elim
theorem xs_augSub {op : Operator} {tpos : Pos} {get og : D → D → Hq → Rs D} {g : D → D → D → Hq → Rs Unit} (hg : OpF X getItem get) (hop : OpF X (inplaceOp op) og) (hst : SetF X g) (ho : PE X o (tE X W fo)) (hi : PE X i (tE X W fi)) (he : PE X e (tE X W fa))
    (ha : ∀ ov iv new, augStore i ov iv new = (do holding [new, ov, iv] (setItem ov iv new); release [new, ov, iv] []; pure .next) := by intros; rfl) : PS X (.AugAssign (.Subscript o i tpos) op e pos) (tS X W (augSubC get og g fo fi fa)) := by
  have ps : PSet X (fun v w t H Q => ∃ m G x y z, Sim X.K m G H ∧ VR X.K m H x v ∧ VR X.K m H y w ∧ VR X.K m H z t ∧ PostR X.K X.mg RU W0 m H (g x y z G) (fun _ H' => Q H')) := by
    intro pins s σ H v w t ov iv u Q I r1 r2 r3 ⟨m, G, x, y, z, S, h1, h2, h3, h4⟩
    exact hst pins s σ m G H x y z v w t ov iv u Q I S h1 h2 h3 r1 r2 r3 h4
  have pg : PGet X (fun v w H Q => ∃ m G d z, Sim X.K m G H ∧ VR X.K m H d v ∧ VR X.K m H z w ∧ ∃ Wx, PostR X.K X.mg (VR X.K) Wx m H (get d z G) Q) := by
    intro pins s σ H v w u z Q I r1 r2 ⟨m, G, d, z', S, h1, h2, Wx, h3⟩
    exact hg pins s σ m G H d z' v w u z Q Wx I S h1 h2 r1 r2 h3
  have hp : PIp X op (fun v w H Q => ∃ m G d z, Sim X.K m G H ∧ VR X.K m H d v ∧ VR X.K m H z w ∧ ∃ Wx, PostR X.K X.mg (VR X.K) Wx m H (og d z G) Q) := by
    intro pins s σ H v w u z Q I r1 r2 ⟨m, G, d, z', S, h1, h2, Wx, h3⟩
    exact hop pins s σ m G H d z' v w u z Q Wx I S h1 h2 r1 r2 h3
  refine ⟨fun pins s σ H Dd I ⟨m, σ', G, S, R, q⟩ => (ps_augS ho hi pg he hp ps ha).run pins s σ H Dd I ?_⟩
  refine ⟨m, σ', G, S, R, (PostS.bnd (R := VR X.K) R q).imp fun v1 H1 ⟨m1, G1, x, e1, S1, r1, _, h1⟩ => ?_⟩
  refine ⟨m1, σ', G1, S1, R.mono e1, (PostS.bnd (R := VR X.K) (R.mono e1) h1).imp fun v2 H2 ⟨m2, G2, y, e2, S2, r2, _, h2⟩ => ?_⟩
  have R2 := (R.mono e1).mono e2
  refine ⟨m2, G2, x, y, S2, r1.mono e2, r2, W σ, (PostS.bnd (R := VR X.K) R2 h2).imp fun v3 H3 ⟨m3, G3, old, e3, S3, r3, _, h3⟩ => ?_⟩
  refine ⟨m3, σ', G3, S3, R2.mono e3, (PostS.bnd (R := VR X.K) (R2.mono e3) h3).imp fun v4 H4 ⟨m4, G4, d, e4, S4, r4, _, h4⟩ => ?_⟩
  have R4 := (R2.mono e3).mono e4
  refine ⟨m4, G4, old, d, S4, r3.mono e4, r4, W σ, (PostS.bnd (R := VR X.K) R4 h4).imp fun v5 H5 ⟨m5, G5, new, e5, S5, r5, _, h5⟩ => ?_⟩
  have x5 := (e3.trans e4).trans e5
  refine ⟨m5, G5, x, y, new, S5, (r1.mono e2).mono x5, r2.mono x5, r5, ?_⟩
  cases eg : g x y new G5 with
  | ok _ G6 =>
    rw [eg] at h5
    intro m6 H6 _ e6 S6 _
    exact h5 m6 H6 σ e6 S6 ((R4.mono e5).mono e6)
  | ex c j G6 => rw [eg] at h5; exact h5.elim
  | bad => rw [eg] at h5; exact h5.elim
/-! while -/
theorem whileN_pos {c : TF} {b : SF} {D' : Ends} {K : PySem.W.Frag} {mg : Str → Option Value} {m : List Addr} {H : Hp} {σ' : Eq'} {G : Hq} (h : PostS K mg W m H (whileC c b σ' G) D') : ∃ n, PostS K mg W m H (whileN c b n σ' G) D' := by
  have nb : whileC c b σ' G ≠ .bad := fun z => by rw [z] at h; exact h
  obtain ⟨n, hn⟩ := lim_ex nb
  refine ⟨n, ?_⟩
  have : whileN c b n σ' G = whileC c b σ' G := hn
  rw [this]; exact h
theorem xs_while {c : Expr} (hp : PassesOwn (model X.prog X.w) X.A X.env X.xe) (hc : PT X c (tT X W ta)) (hb : PSs X body (tS X W fbd)) : PS X (.While c body [] pos) (tS X W (whileC ta fbd)) := by
  refine ⟨fun pins s σ H Dd I ⟨m, σ', G, S, R, q⟩ => (ps_while hp hc hb).run pins s σ H Dd I ?_⟩
  obtain ⟨n, q⟩ := whileN_pos q
  refine ⟨fun n σ H => ∃ m σ' G, Sim X.K m G H ∧ SR X.K m H σ' σ ∧ PostS X.K X.mg W m H (whileN ta fbd n σ' G) Dd, ⟨n, m, σ', G, S, R, q⟩, ?_⟩
  rintro n σ1 H1 ⟨m1, σ1', G1, S1, R1, q1⟩
  cases n with
  | zero => exact q1.elim
  | succ n =>
    refine ⟨m1, σ1', G1, S1, R1, (PostS.bnd (R := RB) R1 q1).imp fun x H2 ⟨m2, G2, y, e2, S2, r2, _, q2⟩ => ?_⟩
    cases r2
    cases x with
    | false => exact iteF (q2 m2 H2 σ1 .refl S2 (R1.mono e2))
    | true =>
      refine iteT ⟨fun σ3 H3 => ∃ m σ' G, Sim X.K m G H3 ∧ SR X.K m H3 σ' σ3 ∧ PostS X.K X.mg W m H3 (whileN ta fbd n σ' G) Dd, fun σ3 H3 z => ⟨n, by omega, z⟩, m2, σ1', G2, S2, R1.mono e2, ?_⟩
      simp only [if_true] at q2
      cases eb : fbd σ1' G2 with
      | nx σ3 G3 => rw [eb] at q2; exact fun m3 H3 s3 x3 S3 R3 => ⟨m3, σ3, G3, S3, R3, PostS.shift (r := whileN ta fbd n σ3 G3) q2 x3⟩
      | ct σ3 G3 => rw [eb] at q2; exact fun m3 H3 s3 x3 S3 R3 => ⟨m3, σ3, G3, S3, R3, PostS.shift (r := whileN ta fbd n σ3 G3) q2 x3⟩
      | bk σ3 G3 => rw [eb] at q2; exact q2
      | rt d G3 => rw [eb] at q2; exact q2
      | ex c i σ3 G3 => rw [eb] at q2; exact q2
      | bad => rw [eb] at q2; exact q2.elim
end

/-! ### for -/
/-- an iterator of the layer yields what s says -/
def ItOk (K : PySem.W.Frag) : List Addr → Hp → Src → It → Prop := fun m0 H0 s J => ∀ (k : Nat) (m : List Addr) (G : Hq) (H : Hp), Xt K m0 H0 m H → Sim K m G H → match s k G with
  | .item d => J.go k H ∧ ∀ v H', J.yld k H v H' → Xt K m H m H' ∧ Sim K m G H' ∧ VR K m H' d v
  | .stop => J.stop k H
  | .bad => True
def tI (X : Cx) (W : L2.St → XW) (f : IF) : TI := fun σ H R' => ∃ m σ' G, Sim X.K m G H ∧ SR X.K m H σ' σ ∧ PostR X.K X.mg (ItOk X.K) (W σ) m H (f σ' G) R'
section
variable {X : Cx} {W : L2.St → XW} {tg iter : Expr} {body : List Stmt} {fi : IF} {gf : GF} {fbd : SF} {pos : Pos}
theorem forL_pos {s : Src} {g : GF} {b : SF} {k : Nat} {D' : Ends} {K : PySem.W.Frag} {mg : Str → Option Value} {m : List Addr} {H : Hp} {σ' : Eq'} {G : Hq} (h : PostS K mg W m H (forL s g b k σ' G) D') : ∃ n, PostS K mg W m H (forN s g b n k σ' G) D' := by
  have nb : forL s g b k σ' G ≠ .bad := fun z => by rw [z] at h; exact h
  obtain ⟨n, hn⟩ := lim_ex nb
  refine ⟨n, ?_⟩
  have : forN s g b n k σ' G = forL s g b k σ' G := hn
  rw [this]; exact h
theorem xs_for (hp : PassesOwn (model X.prog X.w) X.A X.env X.xe) (hc : X.calm = true) (hi : PI X tg iter (tI X W fi)) (hg : PG X tg (tG X gf)) (hb : PSs X body (tS X W fbd)) (hs : ∀ x, foldedSetIterable iter X.env x = pure x := by intro _; rfl) :
    PS X (.For tg iter body [] pos) (tS X W (forC fi gf fbd)) := by
  refine ⟨fun pins s σ H Dd I ⟨m, σ', G, S, R, q⟩ => (ps_for hp hc hi hg hb hs).run pins s σ H Dd I ?_⟩
  refine ⟨m, σ', G, S, R, (PostS.bnd (R := ItOk X.K) R q).imp fun J H1 ⟨m1, G1, src, e1, S1, r1, _, q1⟩ => ?_⟩
  obtain ⟨n, q1⟩ := forL_pos q1
  refine ⟨fun k n σ H => ∃ m σ' G, Xt X.K m1 H1 m H ∧ Sim X.K m G H ∧ SR X.K m H σ' σ ∧ PostS X.K X.mg W m H (forN src gf fbd n k σ' G) Dd, ⟨n, m1, σ', G1, .refl, S1, R.mono e1, q1⟩, ?_⟩
  rintro k n σ2 H2 ⟨m2, σ2', G2, x2, S2, R2, q2⟩
  cases n with
  | zero => exact q2.elim
  | succ n =>
    have it := r1 k m2 G2 H2 x2 S2
    rw [forN_s] at q2
    cases es : src k G2 with
    | bad => rw [es] at q2; exact q2.elim
    | stop => rw [es] at q2 it; exact .inl ⟨it, q2 m2 H2 σ2 .refl S2 R2⟩
    | item d =>
      rw [es] at q2 it
      obtain ⟨go, yl⟩ := it
      refine .inr ⟨go, fun σ3 H3 => ∃ m σ' G, Xt X.K m1 H1 m H3 ∧ Sim X.K m G H3 ∧ SR X.K m H3 σ' σ3 ∧ PostS X.K X.mg W m H3 (forN src gf fbd n (k + 1) σ' G) Dd, fun σ3 H3 z => ⟨n, by omega, z⟩, fun v H3 hy => ?_⟩
      obtain ⟨x3, S3, r3⟩ := yl v H3 hy
      refine ⟨m2, σ2', G2, d, S3, R2.mono x3, r3, ?_⟩
      simp only at q2
      cases eg : gf d σ2' G2 with
      | ok σ4 G4 =>
        rw [eg] at q2
        simp only [onG_ok] at q2
        intro m4 H4 s4 x4 S4 R4
        refine ⟨m4, σ4, G4, S4, R4, ?_⟩
        have xx := (x2.trans x3).trans x4
        have q4 : PostS X.K X.mg W m4 H4 ((fbd σ4 G4).turn (forN src gf fbd n (k + 1))) Dd := PostS.shift (r := (fbd σ4 G4).turn (forN src gf fbd n (k + 1))) q2 (x3.trans x4)
        cases eb : fbd σ4 G4 with
        | nx σ5 G5 => rw [eb] at q4; exact fun m5 H5 s5 x5 S5 R5 => ⟨m5, σ5, G5, xx.trans x5, S5, R5, PostS.shift (r := forN src gf fbd n (k + 1) σ5 G5) q4 x5⟩
        | ct σ5 G5 => rw [eb] at q4; exact fun m5 H5 s5 x5 S5 R5 => ⟨m5, σ5, G5, xx.trans x5, S5, R5, PostS.shift (r := forN src gf fbd n (k + 1) σ5 G5) q4 x5⟩
        | bk σ5 G5 => rw [eb] at q4; exact q4
        | rt d5 G5 => rw [eb] at q4; exact q4
        | ex c i σ5 G5 => rw [eb] at q4; exact q4
        | bad => rw [eb] at q4; exact q4.elim
      | ex c i G4 => rw [eg] at q2; exact q2.elim
      | bad => rw [eg] at q2; exact q2.elim
end

/-! ### defs -/
abbrev FF := List D → Hq → Rs D
/-- a def's body, by its slots -/
def bodyC (n : Nat) (b : SF) : FF := fun ds G => match b (ds.map some ++ List.replicate (n - ds.length) none) G with
  | .nx _ G1 => .ok .non G1
  | .rt d G1 => .ok d G1
  | .ex c i _ G1 => .ex c i G1
  | _ => .bad
/-- the promise of a def that means f -/
def spF (K : PySem.W.Frag) (mg : Str → Option Value) (n : Nat) (f : FF) : Sp := fun vs H Q E => vs.length = n ∧ ∃ m ds G, Sim K m G H ∧ VRs K m H ds vs ∧ PostR K mg (VR K) E m H (f ds G) Q
section
variable {P : Program} {w : World} {K : PySem.W.Frag} {mg : Str → Option Value} {base : Heap}
theorem start_sr {m : List Addr} {H : Hp} {N : List Str} {ds : List D} {vs : List V} (r : VRs K m H ds vs) : SR K m H (ds.map some ++ List.replicate (N.length - ds.length) none) (L2.start N vs) := by
  have hl := r.length
  refine ⟨by simp [L2.start, hl], fun i d e => ?_⟩
  by_cases hi : i < ds.length
  · rw [List.getElem?_append_left (by simpa using hi)] at e
    rw [List.getElem?_map] at e
    cases ed : ds[i]? with
    | none => rw [ed] at e; cases e
    | some d' =>
      rw [ed] at e
      cases e
      obtain ⟨v, ev, rv⟩ := r.get ed
      refine ⟨v, ?_, rv⟩
      unfold L2.start
      rw [List.getElem?_append_left (by simpa [← hl] using hi), List.getElem?_map, ev]
      rfl
  · rw [List.getElem?_append_right (by simpa using hi)] at e
    rw [List.getElem?_replicate] at e
    split at e <;> cases e
/-- a def keeps its promise where nothing is being shown (for repr: no guard stands) -/
structure FnG (P : Program) (w : World) (K : PySem.W.Frag) (mg : Str → Option Value) (base : Heap) (k : Nat) (f : Addr) (fd : FuncData) (ps : List Str) (sp : Sp) : Prop where
  len : ∀ vs H Q E, sp vs H Q E → vs.length = ps.length
  go : ∀ (A : Around) (out : List Env) (s : Shared) (H : Hp) (args : Args) (us : List Value) (vs : List V) (Q : VK) (E : XK),
    A.guards = some [] → Room k A → Env0 P w K mg base A out s H → BindsTo s fd args (ps.zip us) → Vals vs us → sp vs H Q E → codeAny (model P w) A (.call (.ref f) args) (L2.CR (L2.CX P w) out P w H s Q E) s
theorem FnG.mono {j k : Nat} {f : Addr} {fd : FuncData} {ps : List Str} {sp : Sp} (F : FnG P w K mg base j f fd ps sp) (h : j ≤ k) : FnG P w K mg base k f fd ps sp :=
  ⟨F.len, fun A out s H args us vs Q E g r => F.go A out s H args us vs Q E g (r.mono h)⟩
theorem defOk {x qual : Str} {st : Stmt} {f : Addr} {fd : FuncData} {N ps : List Str} {k : Nat} {b : SF} {dvs : List V} {kws : List (Str × V)} (F : L2.FunD K x qual (defArgs st) (defBody st) (defScope st) dvs kws f fd) (Sc : FnScope N ps (defScope st))
    (h : ∀ (cdv : Value) (A : Around) (out : List Env) (s : Shared) (H : Hp) (E : XK),
      Ctx (cxOf (L2.CX P w) P w K mg base N qual (defScope st) f cdv A out s H E) (fun _ => E) k →
      PSs (cxOf (L2.CX P w) P w K mg base N qual (defScope st) f cdv A out s H E) (defBody st) (tS (cxOf (L2.CX P w) P w K mg base N qual (defScope st) f cdv A out s H E) (fun _ => E) b)) :
    FnG P w K mg base (k + 1) f fd ps (spF K mg ps.length (bodyC N.length b)) := by
  obtain ⟨oc, od, dV, kV, doc, pm, an, cdv, ct, osl, rfl, lk, hcd, _, _⟩ := F.ex
  refine ⟨fun vs H Q E q => q.1, fun A out s H args us vs Q E hgd hro en bt rv q => ?_⟩
  obtain ⟨hl, m, ds, G, S, r, q⟩ := q
  have kin : K.In s.heap := en.mod.kin.keeps fun c o z => (en.bs c o z).1
  have lim : s.heap.NoLimit := en.mod.nolimit.keeps fun c o z => (en.bs c o z).1
  have kinds : ∀ y ∈ ps.zip us, (defScope st).names.lookup y.1 = some .local ∨ ((defScope st).names.lookup y.1 = some .cell ∧ ((cellsFrom (s.heap.objs.size + 1) (defScope st).names []).lookup y.1).isSome = true) := by
    rintro ⟨n, v⟩ hy
    rcases Sc.par n (List.of_mem_zip hy).1 with z | z
    · exact .inl z
    · exact .inr ⟨z, PySem.W.cellsFrom_some _ _ _ (.inl z)⟩
  refine codeAny_call_function hro.depth (kin _ _ lk) rfl Sc.co Sc.gen rfl (PySem.W.codeRec_of kin hcd) (bt _ _ _ _ ?_)
  refine wpAny_newFunctionEnv_cells Sc.kind kinds fun env henv s1 ic => ?_
  subst henv
  refine ⟨lim.keeps ic.toInCall.keep, codeAny_func ?_⟩
  have I : Inv (cxOf (L2.CX P w) P w K mg base N qual (defScope st) f cdv A out s H E) [] (L2.start N vs) H s1 := inv_start Sc hro.hd en hl rv ic
  have tk : Takes (cxOf (L2.CX P w) P w K mg base N qual (defScope st) f cdv A out s H E) (fun cls d _ H => E cls d H) := takes_of rfl rfl rfl rfl
  have C : Ctx (cxOf (L2.CX P w) P w K mg base N qual (defScope st) f cdv A out s H E) (fun _ => E) k := ⟨rfl, Sc.nd, fun σ => L2.passAt tk σ, passes_of rfl, hro.deeper _, hgd⟩
  have pre : tS (cxOf (L2.CX P w) P w K mg base N qual (defScope st) f cdv A out s H E) (fun _ => E) b { nx := fun _ H1 => Q .non H1, rt := Q } (L2.start N vs) H := by
    refine ⟨m, _, G, S, start_sr (N := N) r, ?_⟩
    unfold bodyC at q
    cases eb : b (ds.map some ++ List.replicate (N.length - ds.length) none) G with
    | nx σ1 G1 => rw [eb] at q; exact fun m1 H1 s1 x1 S1 R1 => q m1 H1 .non x1 S1 .non
    | rt d G1 => rw [eb] at q; exact q
    | bk _ _ => rw [eb] at q; exact q.elim
    | ct _ _ => rw [eb] at q; exact q.elim
    | ex c i σ1 G1 => rw [eb] at q; exact fun m1 H1 s1 Ca aa x1 S1 R1 z1 z2 => q m1 H1 Ca aa x1 S1 z1 z2
    | bad => rw [eb] at q; exact q.elim
  refine wpAny_mono ((h cdv A out s H E C).run [] s1 _ H _ I pre) (fun fl s2 z => ?_) fun _ _ z => z
  cases fl with
  | ret u => obtain ⟨v, σ2, H2, J, r2, z⟩ := z; exact ⟨v, H2, J.os, J.bare, J.base, J.hok, r2, z⟩
  | next => obtain ⟨σ2, H2, J, z⟩ := z; exact ⟨.non, H2, J.os, J.bare, J.base, J.hok, rfl, z⟩
  | brk => obtain ⟨_, _, _, z⟩ := z; exact z.elim
  | cont => obtain ⟨_, _, _, z⟩ := z; exact z.elim
end
section
variable {X : Cx} {W : L2.St → XW} {k : Nat} {x : Str} {p pos : Pos} {e : Expr} {es : List Expr} {fr : AF} {ff : FF} {f : Addr} {fd : FuncData} {ps : List Str} {dvs : List D} {ds : List Value}
/-- defaults: values without cells -/
inductive DefV : D → Value → Prop
  | non : DefV .non .none
  | bl (b : Bool) : DefV (.bl b) (.bool b)
  | int (i : Int) (t : Tok) : DefV (.int i) (.int i t)
  | str (i : Str) (t : Tok) : DefV (.str i) (.str i t)
theorem defV_rel {K : PySem.W.Frag} {m : List Addr} {H : Hp} : ∀ {ds : List D} {us : List Value}, Paired DefV ds us → ∃ vs, VRs K m H ds vs ∧ Vals vs us
  | _, _, .nil => ⟨[], .nil, .nil⟩
  | _, _, .cons r t => by
    obtain ⟨vs, h1, h2⟩ := defV_rel t
    cases r with
    | non => exact ⟨.non :: vs, .cons .non h1, .cons rfl h2⟩
    | bl b => exact ⟨.bl b :: vs, .cons (.bl b) h1, .cons rfl h2⟩
    | int i t => exact ⟨.int i :: vs, .cons (.int i) h1, .cons ⟨t, rfl⟩ h2⟩
    | str i t => exact ⟨.str i :: vs, .cons (.str i) h1, .cons ⟨t, rfl⟩ h2⟩
def fnC (ff : FF) (dvs : List D) (a : AF) : EF := fun σ G => (a σ G).bind fun xs G1 => ff (xs ++ dvs) G1
/-- the callee runs -/
theorem run_G {pins : List (Addr × Obj)} {σ : L2.St} {H : Hp} {s : Shared} {Q : VK} {us : List Value} {vs vs0 : List V} {sp : Sp} (C : Ctx X W k) (F : FnG X.prog X.w X.K X.mg X.base k f fd ps sp) (hb : Binds X.K fd ps ds) (hd : Vals vs0 ds)
    (I : Inv X pins σ H s) (r : Vals vs us) (h : sp (vs ++ vs0) H Q (W σ)) : wpAny (model X.prog X.w) X.A (call (.ref f) us) (EP X pins σ Q) X.xe s := by
  have rr : Vals (vs ++ vs0) (us ++ ds) := Vals.append r hd
  have hl : (us ++ ds).length = ps.length := rr.length.symm.trans (F.len _ _ _ _ h)
  refine wpAny_call (codeAny_mono (F.go X.A X.stack s H ⟨us, []⟩ _ _ Q (W σ) C.gd C.room I.env0 (hb s us I.kIn hl) rr h) ?_)
  intro res s2 z
  match res, z with
  | .error e, z => exact C.hx σ pins H s e s2 I z
  | .ok (.ret u), z => exact I.after z
  | .ok .next, z => exact z.elim
  | .ok .brk, z => exact z.elim
  | .ok .cont, z => exact z.elim
theorem xe_call {n : Nat} (C : Ctx X W k) (F : FnG X.prog X.w X.K X.mg X.base k f fd ps (spF X.K X.mg ps.length ff)) (hm : X.mg x = some (.ref f)) (hk : PySem.W.keepIn X.K (.ref f) = true) (hb : Binds X.K fd ps ds) (hd : Paired DefV dvs ds)
    (ha : PA X (e :: es) (tA X W fr)) (hl : ALen fr n) (hn : n + dvs.length = ps.length := by rfl) (hg : Gl X x := by rfl) (hdb : (x == ("__debug__" : Str)) = false := by decide) (he : starEach (e :: es) X.env = (false, eval e X.env) :: starEach es X.env := by rfl) (hpl : (backTo pos (starEach es X.env)).any (·.1) = false := by rfl) :
    PE X (.Call (.Name x p) (e :: es) [] pos) (tE X W (fnC ff dvs fr)) := by
  refine ⟨fun pins s σ H Q I ⟨m, σ', G, S, R, q⟩ => wpAny_Call_Name_kw (ld_glob I hg hm ?_ hdb)⟩
  have q' : tA X W fr σ H fun vs H1 => ∃ vs0, Vals vs0 ds ∧ spF X.K X.mg ps.length ff (vs ++ vs0) H1 Q (W σ) := by
    refine ⟨m, σ', G, S, R, (PostR.bnd (R := VRs X.K) q).imp fun vs H1 ⟨m1, G1, xs, e1, S1, r1, er, h1⟩ => ?_⟩
    obtain ⟨vs0, r0, hv0⟩ := defV_rel (K := X.K) (m := m1) (H := H1) hd
    have rr := r1.append r0
    refine ⟨vs0, hv0, ?_, m1, xs ++ dvs, G1, S1, rr, h1⟩
    rw [← rr.length, List.length_append, hl _ _ _ _ er]
    exact hn
  refine PySem.W.callWith_K (h₀ := X.base) I.ok.mod.kin hk (thn (ha.run pos pins s σ H _ I q') fun us s1 z => ?_) he hpl
  obtain ⟨vs, H1, I1, r, vs0, hv0, z⟩ := z
  exact ⟨I1.kIn, run_G C F hb hv0 I1 r z⟩
theorem xe_call0 (C : Ctx X W k) (F : FnG X.prog X.w X.K X.mg X.base k f fd ps (spF X.K X.mg ps.length ff)) (hm : X.mg x = some (.ref f)) (hk : PySem.W.keepIn X.K (.ref f) = true) (hb : Binds X.K fd ps ds) (hd : Paired DefV dvs ds)
    (hn : dvs.length = ps.length := by rfl) (hg : Gl X x := by rfl) (hdb : (x == ("__debug__" : Str)) = false := by decide) : PE X (.Call (.Name x p) [] [] pos) (tE X W (fnC ff dvs nilA)) := by
  refine ⟨fun pins s σ H Q I ⟨m, σ', G, S, R, q⟩ => wpAny_Call_Name_kw (ld_glob I hg hm ?_ hdb)⟩
  obtain ⟨vs0, r0, hv0⟩ := defV_rel (K := X.K) (m := m) (H := H) hd
  refine PySem.W.callWith_K0 I.kIn hk (run_G (us := []) (vs := []) C F hb hv0 I .nil ⟨?_, m, dvs, G, S, r0, q⟩)
  show ([] ++ vs0).length = _
  rw [List.nil_append, ← r0.length]
  exact hn
/-- a call of a builtin function, of a builtin class -/
theorem xe_callB {id : String} {g : List D → Hq → Rs D} (hc : CallF X (.builtin id) g) (hm : X.mg x = none) (ha : PA X (e :: es) (tA X W fr)) (hv : bootBuiltins x = some (.builtin id) := by decide +kernel) (hg : Gl X x := by rfl) (hn : x ≠ "__name__" := by decide) (hdb : (x == ("__debug__" : Str)) = false := by decide)
    (he : starEach (e :: es) X.env = (false, eval e X.env) :: starEach es X.env := by rfl) (hpl : (backTo pos (starEach es X.env)).any (·.1) = false := by rfl) : PE X (.Call (.Name x p) (e :: es) [] pos) (tE X W (callC g fr)) := by
  have cr : CallR X (.builtin id) (fun vs H Q => ∃ m G xs, Sim X.K m G H ∧ VRs X.K m H xs vs ∧ ∃ Wx, PostR X.K X.mg (VR X.K) Wx m H (g xs G) Q) := by
    intro pins s σ H vs us Q I r ⟨m, G, xs, S, h1, Wx, h2⟩
    exact hc pins s σ m G H xs vs us Q Wx I S h1 r h2
  refine ⟨fun pins s σ H Q I ⟨m, σ', G, S, R, q⟩ => (pe_callB cr hg hm hv ha hn hdb he hpl).run pins s σ H Q I ?_⟩
  exact ⟨m, σ', G, S, R, (PostR.bnd (R := VRs X.K) q).imp fun vs H1 ⟨m1, G1, xs, e1, S1, r1, er, h1⟩ => ⟨m1, G1, xs, S1, r1, W σ, h1⟩⟩
theorem xe_callT {id : String} {g : List D → Hq → Rs D} (hc : CallF X (.type id) g) (hm : X.mg x = none) (ha : PA X (e :: es) (tA X W fr)) (hv : bootBuiltins x = some (.type id) := by decide +kernel) (hg : Gl X x := by rfl) (hn : x ≠ "__name__" := by decide) (hdb : (x == ("__debug__" : Str)) = false := by decide)
    (he : starEach (e :: es) X.env = (false, eval e X.env) :: starEach es X.env := by rfl) (hpl : (backTo pos (starEach es X.env)).any (·.1) = false := by rfl) : PE X (.Call (.Name x p) (e :: es) [] pos) (tE X W (callC g fr)) := by
  have cr : CallR X (.type id) (fun vs H Q => ∃ m G xs, Sim X.K m G H ∧ VRs X.K m H xs vs ∧ ∃ Wx, PostR X.K X.mg (VR X.K) Wx m H (g xs G) Q) := by
    intro pins s σ H vs us Q I r ⟨m, G, xs, S, h1, Wx, h2⟩
    exact hc pins s σ m G H xs vs us Q Wx I S h1 r h2
  refine ⟨fun pins s σ H Q I ⟨m, σ', G, S, R, q⟩ => (pe_callTy cr hg hm hv ha hn hdb he hpl).run pins s σ H Q I ?_⟩
  exact ⟨m, σ', G, S, R, (PostR.bnd (R := VRs X.K) q).imp fun vs H1 ⟨m1, G1, xs, e1, S1, r1, er, h1⟩ => ⟨m1, G1, xs, S1, r1, W σ, h1⟩⟩
end
end SX

set_option Elab.async false
set_option linter.all false
set_option maxRecDepth 100000
set_option maxHeartbeats 1000000
namespace SX
open PySem PySem.Spec PyProof.Rows L2

/-! ### comprehensions -/
def wipeD (σ : Eq') : List Nat → Eq'
  | [] => σ
  | v :: vs => (wipeD σ vs).set v none
/-- into the list at p -/
def appAt (p : Nat) (d : D) (G : Hq) : Option Hq := match G[p]? with
  | some (.lst acc) => if acc.length < 16777216 then some (G.set p (.lst (acc ++ [d]))) else none
  | _ => none
/-- what a comprehension's turn makes, over the heap alone -/
abbrev Cr := Option Hq
def lcTurn (g : GF) (t : TF) (e : EF) (σ0 : Eq') (p : Nat) (d : D) (G : Hq) : Cr := match g d σ0 G with
  | .ok σ1 G1 => match t σ1 G1 with
    | .ok true G2 => match e σ1 G2 with
      | .ok y G3 => appAt p y G3
      | _ => none
    | .ok false G2 => some G2
    | _ => none
  | _ => none
/-- over the turns, by a turn's function -/
def lcN (s : Src) (turn : D → Hq → Cr) : Nat → Nat → Hq → Cr
  | 0, _, _ => none
  | n + 1, k, G => match s k G with
    | .item d => (turn d G).bind (lcN s turn n (k + 1))
    | .stop => some G
    | .bad => none
noncomputable def limO (f : Nat → Cr) : Cr := by
  classical exact if h : ∃ n, f n ≠ none then f (Classical.choose h) else none
theorem limO_eq {f : Nat → Cr} (mono : ∀ n, f n ≠ none → f (n + 1) = f n) {n : Nat} (h : f n ≠ none) : limO f = f n := by
  classical
  have up : ∀ k n, f n ≠ none → f (n + k) = f n := by
    intro k
    induction k with
    | zero => intro n _; rfl
    | succ k ih =>
      intro n h
      have e := ih n h
      rw [← Nat.add_assoc, mono _ (by rw [e]; exact h), e]
  have ex : ∃ n, f n ≠ none := ⟨n, h⟩
  unfold limO
  rw [dif_pos ex]
  have hc := Classical.choose_spec ex
  generalize Classical.choose ex = c at hc ⊢
  rcases Nat.le_total c n with hl | hl
  · obtain ⟨k, rfl⟩ := Nat.exists_eq_add_of_le hl
    exact (up k c hc).symm
  · obtain ⟨k, rfl⟩ := Nat.exists_eq_add_of_le hl
    exact up k n h
theorem limO_ex {f : Nat → Cr} (h : limO f ≠ none) : ∃ n, f n = limO f := by
  classical
  unfold limO at h ⊢
  split at h
  · rename_i e; rw [dif_pos e]; exact ⟨_, rfl⟩
  · exact absurd rfl h
noncomputable def lcL (s : Src) (turn : D → Hq → Cr) (k : Nat) (G : Hq) : Cr := limO fun n => lcN s turn n k G
theorem lcN_s {s : Src} {turn : D → Hq → Cr} {n k : Nat} {G : Hq} : lcN s turn (n + 1) k G = match s k G with
    | .item d => (turn d G).bind (lcN s turn n (k + 1))
    | .stop => some G
    | .bad => none := rfl
theorem lcN_mono {s : Src} {turn : D → Hq → Cr} : ∀ n k G, lcN s turn n k G ≠ none → lcN s turn (n + 1) k G = lcN s turn n k G
  | 0, _, _, h => absurd rfl h
  | n + 1, k, G, h => by
    rw [lcN_s] at h ⊢
    rw [lcN_s]
    cases e : s k G with
    | item d =>
      rw [e] at h
      simp only at h ⊢
      cases et : turn d G with
      | none => rfl
      | some G1 =>
        rw [et] at h
        exact lcN_mono n (k + 1) G1 h
    | stop => rfl
    | bad => rfl
theorem lcL_eq {s : Src} {turn : D → Hq → Cr} (k : Nat) (G : Hq) : lcL s turn k G = match s k G with
    | .item d => (turn d G).bind (lcL s turn (k + 1))
    | .stop => some G
    | .bad => none := by
  have mono : ∀ k G n, lcN s turn n k G ≠ none → lcN s turn (n + 1) k G = lcN s turn n k G := fun k G n => lcN_mono n k G
  by_cases hb : lcL s turn k G = none
  · rw [hb]
    have all : ∀ n, lcN s turn n k G = none := fun n => by
      by_cases h : lcN s turn n k G = none
      · exact h
      · exact absurd ((limO_eq (mono k G) h).symm.trans hb) h
    cases e : s k G with
    | item d =>
      simp only
      cases et : turn d G with
      | none => rfl
      | some G1 =>
        have step : ∀ n, lcN s turn n (k + 1) G1 = none := fun n => by
          have z := all (n + 1)
          rw [lcN_s, e] at z
          simp only [et] at z
          exact z
        show none = lcL s turn (k + 1) G1
        by_cases h : lcL s turn (k + 1) G1 = none
        · exact h.symm
        · obtain ⟨n, hn⟩ := limO_ex h
          exact (step n).symm.trans hn
    | stop =>
      have z := all 1
      rw [lcN_s, e] at z
      cases z
    | bad => rfl
  · obtain ⟨n, hn⟩ := limO_ex hb
    have hn' : lcN s turn n k G = lcL s turn k G := hn
    cases n with
    | zero => exact absurd hn'.symm hb
    | succ n =>
      rw [← hn', lcN_s]
      rw [← hn', lcN_s] at hb
      cases e : s k G with
      | item d =>
        rw [e] at hb
        simp only at hb ⊢
        cases et : turn d G with
        | none => rfl
        | some G1 =>
          rw [et] at hb
          exact (limO_eq (mono (k + 1) G1) hb).symm
      | stop => rfl
      | bad => rfl
def ofCr (r : Cr) (d : D) : Rs D := match r with
  | some G => .ok d G
  | none => .bad
/-- [e for g in i if t]; vs: the block's slots -/
noncomputable def lcC (i : IF) (g : GF) (t : TF) (e : EF) (vs : List Nat) : EF := fun σ G => (i σ G).bind fun s G1 =>
  ofCr (lcL s (lcTurn g t e (wipeD σ vs) G1.length) 0 (G1 ++ [.lst []])) (.ref G1.length)
def yesT : TF := fun _ G => .ok true G
theorem wipe_sr {K : PySem.W.Frag} {m : List Addr} {H : Hp} {σ' : Eq'} {σ : L2.St} (R : SR K m H σ' σ) : ∀ vs : List Nat, SR K m H (wipeD σ' vs) (wipe σ vs)
  | [] => R
  | v :: vs => by
    have ih := wipe_sr R vs
    refine ⟨by rw [wipeD, wipe, List.length_set, List.length_set]; exact ih.1, fun j x e => ?_⟩
    rw [wipeD] at e
    rw [wipe]
    by_cases hj : j = v
    · subst hj
      obtain ⟨hl, _⟩ := List.getElem?_eq_some_iff.mp e
      rw [List.length_set] at hl
      rw [List.getElem?_set_self hl] at e
      cases e
    · rw [List.getElem?_set_ne (Ne.symm hj)] at e ⊢
      exact ih.2 j x e
theorem wipe_set {x : Option V} {i : Nat} : ∀ {vs : List Nat} {σ : L2.St}, i ∈ vs → wipe (σ.set i x) vs = wipe σ vs
  | v :: vs, σ, h => by
    rw [wipe, wipe]
    by_cases hv : i ∈ vs
    · rw [wipe_set hv]
    · have e : i = v := by
        rcases List.mem_cons.mp h with e | e
        · exact e
        · exact absurd e hv
      subst e
      have out : ∀ {vs : List Nat} {σ : L2.St}, i ∉ vs → wipe (σ.set i x) vs = (wipe σ vs).set i x := by
        intro vs
        induction vs with
        | nil => intro σ _; rfl
        | cons u us ih =>
          intro σ h
          simp only [List.mem_cons, not_or] at h
          rw [wipe, wipe, ih h.2]
          exact List.set_comm _ _ h.1
      rw [out hv, List.set_set]
theorem wipe_wipe (σ : L2.St) (vs : List Nat) : wipe (wipe σ vs) vs = wipe σ vs := by
  have aux : ∀ us : List Nat, (∀ u ∈ us, u ∈ vs) → wipe (wipe σ us) vs = wipe σ vs := by
    intro us
    induction us with
    | nil => intro _; rfl
    | cons u us ih =>
      intro h
      rw [show wipe σ (u :: us) = (wipe σ us).set u none from rfl, wipe_set (h u List.mem_cons_self)]
      exact ih fun w hw => h w (List.mem_cons_of_mem _ hw)
  exact aux vs fun u h => h
section
variable (X : Cx) (vs : List Nat)
/-- a target that stores in the block's own slots -/
def tGw (g : GF) : TG := fun v σ H Q => ∃ m σ' G d, Sim X.K m G H ∧ SR X.K m H σ' σ ∧ VR X.K m H d v ∧ PostR X.K X.mg (fun m H a b => SR X.K m H a b ∧ wipe b vs = wipe σ vs) W0 m H (g d σ' G) Q
def tGsw (g : List D → Eq' → Hq → Rs Eq') : TGs := fun ws σ H Q => ∃ m σ' G ds, Sim X.K m G H ∧ SR X.K m H σ' σ ∧ VRs X.K m H ds ws ∧ PostR X.K X.mg (fun m H a b => SR X.K m H a b ∧ wipe b vs = wipe σ vs) W0 m H (g ds σ' G) Q
end
section
variable {X : Cx} {vs : List Nat} {e : Expr} {es : List Expr} {gf : GF} {pos : Pos}
theorem xgw_name (i : Nat) {x : Str} (hN : X.N.Nodup) (hiv : i ∈ vs := by decide) (hi : X.N[i]? = some x := by rfl) (hx : Loc X.env.scope x := by first | exact Or.inl rfl | exact Or.inr rfl)
    (hf : X.fn x = true ∨ X.env.scope.names.lookup x = some .local := by first | exact .inl rfl | exact .inr rfl) : PG X (.Name x pos) (tGw X vs (gN i)) := by
  refine ⟨fun pins s σ H v u Q I r ⟨m, σ', G, d, S, R, rd, q⟩ => (pg_name (i := i) hN hi hx hf).run pins s σ H v u Q I r ?_⟩
  exact q.here S ⟨R.put i rd, wipe_set hiv⟩
theorem xgsw_nil : PGs X [] (tGsw X vs gNl) := by
  refine ⟨fun pins s σ H ws us Q I r ⟨m, σ', G, ds, S, R, rd, q⟩ => pgs_nil.run pins s σ H ws us Q I r ?_⟩
  cases rd with
  | nil => exact ⟨rfl, q.here S ⟨R, rfl⟩⟩
  | cons _ _ => exact q.elim
theorem xgsw_cons {gr : List D → Eq' → Hq → Rs Eq'} (h1 : PG X e (tGw X vs gf)) (h2 : PGs X es (tGsw X vs gr)) (hs : (assignEach (e :: es) X.env).map (·.2) = assign e X.env :: (assignEach es X.env).map (·.2) := by rfl) :
    PGs X (e :: es) (tGsw X vs (gCs gf gr)) := by
  refine ⟨fun pins s σ H ws us Q I r ⟨m, σ', G, ds, S, R, rd, q⟩ => (pgs_cons h1 h2 hs).run pins s σ H ws us Q I r ?_⟩
  cases rd with
  | nil => exact q.elim
  | cons r1 rr =>
    refine ⟨_, _, rfl, m, σ', G, _, S, R, r1, ?_⟩
    refine (PostR.bnd (R := fun m H a b => SR X.K m H a b ∧ wipe b vs = wipe σ vs) q).imp fun σ1 H1 ⟨m1, G1, y, e1, S1, ⟨R1, w1⟩, _, h1⟩ => ⟨m1, y, G1, _, S1, R1, rr.mono e1, ?_⟩
    rw [w1]
    exact h1
theorem xgw_tup {n kk : Nat} {gr : List D → Eq' → Hq → Rs Eq'} (hc : X.calm = true) (h : PGs X es (tGsw X vs gr)) (hn : (assignEach es X.env).length = n := by rfl) (hst : (assignEach es X.env).findIdx? (·.1) = none := by rfl) : PG X (.Tuple es kk pos) (tGw X vs (gTp n gr)) := by
  refine ⟨fun pins s σ H v u Q I r ⟨m, σ', G, d, S, R, rd, q⟩ => (pg_tup hc h hn hst).run pins s σ H v u Q I r ?_⟩
  cases rd with
  | @tup aa xs ws hs hr =>
    by_cases hl : xs.length = n
    · refine ⟨aa, ws, rfl, SqT.of hs, by rw [← hr.length]; exact hl, m, σ', G, xs, S, R, hr, ?_⟩
      have e : gTp n gr (.tup xs) σ' G = gr xs σ' G := if_pos hl
      rw [← e]; exact q
    · have e : gTp n gr (.tup xs) σ' G = .bad := if_neg hl
      rw [e] at q; exact q.elim
  | _ => exact q.elim
end
section
variable {X : Cx} {W : L2.St → XW} {elt tg iter : Expr} {ifs : List Expr} {fi : IF} {gf : GF} {tf : TF} {ef : EF} {scope : Scope} {own : List (Str × Nat)} {pos : Pos}
theorem lcL_pos {s : Src} {turn : D → Hq → Cr} {k : Nat} {G G' : Hq} (h : lcL s turn k G = some G') : ∃ n, lcN s turn n k G = some G' := by
  have nb : lcL s turn k G ≠ none := fun z => by rw [z] at h; cases h
  obtain ⟨n, hn⟩ := limO_ex nb
  exact ⟨n, (show lcN s turn n k G = lcL s turn k G from hn).trans h⟩
theorem app_sim {K : PySem.W.Frag} {m : List Addr} {G G' : Hq} {H : Hp} {p : Nat} {a : Addr} {y : D} {v : V} (S : Sim K m G H) (ha : m[p]? = some a) (r : VR K m H y v) (e : appAt p y G = some G') :
    ∃ acc, H a = some (.lst acc) ∧ acc.length < sizeLine ∧ Sim K m G' (upd H a (.lst (acc ++ [v]))) ∧ Xt K m H m (upd H a (.lst (acc ++ [v]))) := by
  unfold appAt at e
  split at e
  · rename_i acc hg
    obtain ⟨ws, hw, rw_⟩ := S.cell p a _ ha hg
    split at e
    · rename_i hz
      cases e
      have hm : Mut (H a) := by rw [hw]; trivial
      have xx : Xt K m H m (upd H a (.lst (ws ++ [v]))) := xt_wr hm
      refine ⟨ws, hw, by rw [← rw_.length]; show _ < 16777216; exact hz, S.wr ha hm ⟨_, upd_same, ?_⟩, xx⟩
      exact (rw_.mono xx).append (.cons (r.mono xx) .nil)
    · cases e
  · cases e
/-- the reading of a comprehension -/
theorem lc_read {σ : L2.St} {H : Hp} {Q : VK} {vs : List Nat} (h : tE X W (lcC fi gf tf ef vs) σ H Q) :
    tLc (tI X W fi) (tGw X vs gf) (tT X (fun _ => W0) tf) (tE X (fun _ => W0) ef) vs σ H Q := by
  obtain ⟨m, σ', G, S, R, q⟩ := h
  refine ⟨m, σ', G, S, R, (PostR.bnd (R := ItOk X.K) q).imp fun J H1 ⟨m1, G1, src, x1, S1, it, _, q1⟩ => fun a hD => ?_⟩
  cases el : lcL src (lcTurn gf tf ef (wipeD σ' vs) G1.length) 0 (G1 ++ [.lst []]) with
  | none => rw [el] at q1; exact q1.elim
  | some Gz =>
    rw [el] at q1
    obtain ⟨n, hn⟩ := lcL_pos el
    have x2 : Xt X.K m1 H1 (m1 ++ [a]) (upd H1 a (.lst [])) := xt_push hD
    have S2 : Sim X.K (m1 ++ [a]) (G1 ++ [.lst []]) (upd H1 a (.lst [])) := S1.push hD ⟨[], upd_same, .nil⟩
    have ha : (m1 ++ [a])[G1.length]? = some a := by rw [← S1.len]; simp
    refine ⟨fun k n H => ∃ m G, Xt X.K (m1 ++ [a]) (upd H1 a (.lst [])) m H ∧ Sim X.K m G H ∧ lcN src (lcTurn gf tf ef (wipeD σ' vs) G1.length) n k G = some Gz, ⟨n, _, _, .refl, S2, hn⟩, ?_⟩
    rintro k n H3 ⟨m3, G3, x3, S3, h3⟩
    have ha3 := x3.at ha
    cases n with
    | zero => cases h3
    | succ n =>
      rw [lcN_s] at h3
      have itk := it k m3 G3 H3 (x2.trans x3) S3
      cases es : src k G3 with
      | bad => rw [es] at h3; cases h3
      | stop =>
        rw [es] at h3 itk
        cases h3
        exact .inl ⟨itk, q1 m3 H3 _ (x2.trans x3) S3 (.ref ha3)⟩
      | item d =>
        rw [es] at h3 itk
        simp only at h3
        obtain ⟨go, yl⟩ := itk
        refine .inr ⟨go, fun H4 => ∃ m G, Xt X.K (m1 ++ [a]) (upd H1 a (.lst [])) m H4 ∧ Sim X.K m G H4 ∧ lcN src (lcTurn gf tf ef (wipeD σ' vs) G1.length) n (k + 1) G = some Gz, fun H4 z => ⟨n, by omega, z⟩, fun v H4 hy => ?_⟩
        obtain ⟨x4, S4, r4⟩ := yl v H4 hy
        have R4 : SR X.K m3 H4 (wipeD σ' vs) (wipe σ vs) := wipe_sr ((((R.mono x1).mono x2).mono x3).mono x4) vs
        cases et : lcTurn gf tf ef (wipeD σ' vs) G1.length d G3 with
        | none => rw [et] at h3; cases h3
        | some Gt =>
          rw [et] at h3
          have h3' : lcN src (lcTurn gf tf ef (wipeD σ' vs) G1.length) n (k + 1) Gt = some Gz := h3
          unfold lcTurn at et
          refine ⟨m3, wipeD σ' vs, G3, d, S4, R4, r4, ?_⟩
          cases eg : gf d (wipeD σ' vs) G3 with
          | ok σ5 G5 =>
            rw [eg] at et
            simp only at et
            intro m5 H5 s5 x5 S5 ⟨R5, w5⟩
            refine ⟨by rw [w5, wipe_wipe], m5, σ5, G5, S5, R5, ?_⟩
            cases eb : tf σ5 G5 with
            | ok b G6 =>
              rw [eb] at et
              intro m6 H6 b6 x6 S6 r6
              cases r6
              have xx := ((x3.trans x4).trans x5).trans x6
              cases b with
              | false =>
                cases et
                exact iteF ⟨m6, _, xx, S6, h3'⟩
              | true =>
                simp only at et
                refine iteT ⟨m6, σ5, G6, S6, R5.mono x6, ?_⟩
                cases ee : ef σ5 G6 with
                | ok y G7 =>
                  rw [ee] at et
                  intro m7 H7 y7 x7 S7 r7
                  have ha7 := (xx.trans x7).at ha
                  obtain ⟨acc, h71, h72, S8, x8⟩ := app_sim S7 ha7 r7 et
                  exact ⟨acc, h71, h72, m7, Gt, (xx.trans x7).trans x8, S8, h3'⟩
                | ex _ _ _ => rw [ee] at et; cases et
                | bad => rw [ee] at et; cases et
            | ex _ _ _ => rw [eb] at et; cases et
            | bad => rw [eb] at et; cases et
          | ex _ _ _ => rw [eg] at et; cases et
          | bad => rw [eg] at et; cases et
/-- a block's context -/
theorem Ctx.blk {k : Nat} (C : Ctx X W k) {s : Shared} {H : Hp} {cenv : Env} {fp : List Addr} : Ctx (X.blk s H scope cenv fp) (fun _ => W0) k :=
  ⟨C.calm, C.nd, fun σ pins H s e s' I h => (by obtain ⟨_, _, _, _, _, _, _, _, _, _, _, _, z⟩ := h; exact z.elim), .never, C.room, C.gd⟩
theorem xe_lc {k : Nat} (C : Ctx X W k) (hi : PI X tg iter (tI X W fi)) (hown : blkC X.N X.env.scope scope own = true)
    (hg : ∀ (s : Shared) (H : Hp) (c : Addr) (cl : List (Str × Addr)) (fp : List Addr), PG (X.blk s H scope (compEnvC scope cl c X.env) fp) tg (tGw (X.blk s H scope (compEnvC scope cl c X.env) fp) (own.map (·.2)) gf))
    (ht : ∀ (s : Shared) (H : Hp) (c : Addr) (cl : List (Str × Addr)) (fp : List Addr), Ctx (X.blk s H scope (compEnvC scope cl c X.env) fp) (fun _ => W0) k → PTs (X.blk s H scope (compEnvC scope cl c X.env) fp) ifs (tT (X.blk s H scope (compEnvC scope cl c X.env) fp) (fun _ => W0) tf))
    (he : ∀ (s : Shared) (H : Hp) (c : Addr) (cl : List (Str × Addr)) (fp : List Addr), Ctx (X.blk s H scope (compEnvC scope cl c X.env) fp) (fun _ => W0) k → PE (X.blk s H scope (compEnvC scope cl c X.env) fp) elt (tE (X.blk s H scope (compEnvC scope cl c X.env) fp) (fun _ => W0) ef))
    (hs : ∀ x, foldedSetIterable iter X.env x = pure x := by intro _; rfl) : PE X (.ListComp elt [⟨tg, iter, ifs, 0⟩] scope pos) (tE X W (lcC fi gf tf ef (own.map (·.2)))) := by
  refine ⟨fun pins s σ H Q I h => ?_⟩
  exact (pe_lc (g := tGw X (own.map fun q : Str × Nat => q.2) gf) (tt := tT X (fun _ => W0) tf) (te := tE X (fun _ => W0) ef) C.calm C.nd hi (blkOk_by hown) hg (fun s H c cl fp => ht s H c cl fp C.blk) (fun s H c cl fp => he s H c cl fp C.blk) hs).run pins s σ H Q I (lc_read h)
theorem xs_setLc {k : Nat} (i : Nat) {y : Str} {py spos : Pos} (C : Ctx X W k) (hi : PI X tg iter (tI X W fi)) (hown : blkC X.N X.env.scope scope own = true)
    (hg : ∀ (s : Shared) (H : Hp) (c : Addr) (cl : List (Str × Addr)) (fp : List Addr), PG (X.blk s H scope (compEnvC scope cl c X.env) fp) tg (tGw (X.blk s H scope (compEnvC scope cl c X.env) fp) (own.map (·.2)) gf))
    (ht : ∀ (s : Shared) (H : Hp) (c : Addr) (cl : List (Str × Addr)) (fp : List Addr), Ctx (X.blk s H scope (compEnvC scope cl c X.env) fp) (fun _ => W0) k → PTs (X.blk s H scope (compEnvC scope cl c X.env) fp) ifs (tT (X.blk s H scope (compEnvC scope cl c X.env) fp) (fun _ => W0) tf))
    (he : ∀ (s : Shared) (H : Hp) (c : Addr) (cl : List (Str × Addr)) (fp : List Addr), Ctx (X.blk s H scope (compEnvC scope cl c X.env) fp) (fun _ => W0) k → PE (X.blk s H scope (compEnvC scope cl c X.env) fp) elt (tE (X.blk s H scope (compEnvC scope cl c X.env) fp) (fun _ => W0) ef))
    (hsw : swapsWith (.ListComp elt [⟨tg, iter, ifs, 0⟩] scope pos) (some (.Name y py)) spos.line X.env = pure true) (hy : X.N[i]? = some y := by rfl) (hyl : X.env.scope.names.lookup y = some .local := by rfl)
    (hs : ∀ x, foldedSetIterable iter X.env x = pure x := by intro _; rfl) : PS X (.Assign [.Name y py] (.ListComp elt [⟨tg, iter, ifs, 0⟩] scope pos) spos) (tS X W (setC i (lcC fi gf tf ef (own.map (·.2))))) := by
  refine ⟨fun pins s σ H Dd I ⟨m, σ', G, S, R, q⟩ => ?_⟩
  refine (ps_setLc (i := i) (g := tGw X (own.map fun q : Str × Nat => q.2) gf) (tt := tT X (fun _ => W0) tf) (te := tE X (fun _ => W0) ef) C.calm C.nd hy hyl hsw hi (blkOk_by hown) hg (fun s H c cl fp => ht s H c cl fp C.blk) (fun s H c cl fp => he s H c cl fp C.blk) hs).run pins s σ H Dd I ?_
  refine lc_read ⟨m, σ', G, S, R, (PostS.bnd (R := VR X.K) R q).imp fun v H1 ⟨m1, G1, x, e1, S1, r1, _, h1⟩ => ?_⟩
  exact h1 m1 H1 _ .refl S1 ((R.mono e1).put i r1)
theorem xts_nil : PTs X [] (tT X W yesT) := ⟨fun pins s σ H Q I ⟨m, σ', G, S, R, q⟩ => (pts_nil (X := X)).run pins s σ H Q I (PostR.here q S rfl)⟩
theorem xts_one {c : Expr} (h : PT X c (tT X W tf)) : PTs X [c] (tT X W tf) := pts_one h
end
end SX

set_option Elab.async false
set_option linter.all false
set_option maxRecDepth 100000
set_option maxHeartbeats 1000000
namespace SX
open PySem PySem.Spec PyProof.Rows L2

/-! ### what the values are -/
def lstOf (G : Hq) : D → Option (List D)
  | .ref p => match G[p]? with
    | some (.lst xs) => some xs
    | some (.ro xs) => some xs
    | _ => none
  | .kl xs => some xs
  | _ => none
def tupOf : D → Option (List D)
  | .tup xs => some xs
  | .kt xs => some xs
  | _ => none
def intsD : List D → Option (List Int)
  | [] => some []
  | .int i :: r => (intsD r).map (i :: ·)
  | _ => none
def blsD : List D → Option (List Bool)
  | [] => some []
  | .bl i :: r => (blsD r).map (i :: ·)
  | _ => none
theorem intsD_eq : ∀ {xs : List D} {ns : List Int}, intsD xs = some ns → xs = ns.map D.int
  | [], ns, h => by cases h; rfl
  | x :: r, ns, h => by
    cases x <;> first
      | (simp [intsD] at h; done)
      | (simp only [intsD, Option.map_eq_some_iff] at h
         obtain ⟨ms, hm, rfl⟩ := h
         rw [intsD_eq hm]; rfl)
theorem intsD_map : ∀ ns : List Int, intsD (ns.map D.int) = some ns
  | [] => rfl
  | n :: r => by rw [List.map_cons, intsD, intsD_map r]; rfl
theorem blsD_eq : ∀ {xs : List D} {ns : List Bool}, blsD xs = some ns → xs = ns.map D.bl
  | [], ns, h => by cases h; rfl
  | x :: r, ns, h => by
    cases x <;> first
      | (simp [blsD] at h; done)
      | (simp only [blsD, Option.map_eq_some_iff] at h
         obtain ⟨ms, hm, rfl⟩ := h
         rw [blsD_eq hm]; rfl)
theorem blsD_map : ∀ ns : List Bool, blsD (ns.map D.bl) = some ns
  | [] => rfl
  | n :: r => by rw [List.map_cons, blsD, blsD_map r]; rfl
section
variable {K : PySem.W.Frag} {m : List Addr} {H : Hp} {G : Hq}
theorem vrs_ints : ∀ {ns : List Int} {vs : List V}, VRs K m H (ns.map D.int) vs → vs = ns.map V.int
  | [], _, h => by cases h; rfl
  | n :: r, _, h => by
    cases h with
    | cons a b => cases a; rw [vrs_ints b]; rfl
theorem vrs_bls : ∀ {ns : List Bool} {vs : List V}, VRs K m H (ns.map D.bl) vs → vs = ns.map V.bl
  | [], _, h => by cases h; rfl
  | n :: r, _, h => by
    cases h with
    | cons a b => cases a; rw [vrs_bls b]; rfl
theorem ints_vrs : ∀ ns : List Int, VRs K m H (ns.map D.int) (ns.map V.int)
  | [] => .nil
  | n :: r => .cons (.int n) (ints_vrs r)
theorem lst_at (S : Sim K m G H) {d : D} {v : V} (r : VR K m H d v) {xs : List D} (e : lstOf G d = some xs) : ∃ a vs, v = .ref a ∧ SqL K H a vs ∧ VRs K m H xs vs := by
  cases r with
  | @ref p a hp =>
    unfold lstOf at e
    simp only at e
    split at e
    · rename_i ys hg
      cases e
      obtain ⟨vs, h1, h2⟩ := S.cell p a _ hp hg
      exact ⟨a, vs, rfl, SqL.of h1, h2⟩
    · rename_i ys hg
      cases e
      obtain ⟨vs, o, h1, h2⟩ := S.cell p a _ hp hg
      exact ⟨a, vs, rfl, .inl (.inr ⟨o, h1⟩), h2⟩
    · cases e
  | kl h1 h2 => cases e; exact ⟨_, _, rfl, .inr h1, h2⟩
  | _ => cases e
theorem tup_at {d : D} {v : V} (r : VR K m H d v) {xs : List D} (e : tupOf d = some xs) : ∃ a vs, v = .ref a ∧ SqT K H a vs ∧ VRs K m H xs vs := by
  cases r with
  | tup h1 h2 => cases e; exact ⟨_, _, rfl, SqT.of h1, h2⟩
  | kt h1 h2 => cases e; exact ⟨_, _, rfl, h1, h2⟩
  | _ => cases e
theorem cell_lst (S : Sim K m G H) {p : Nat} {xs : List D} (hg : G[p]? = some (.lst xs)) : ∃ a vs, m[p]? = some a ∧ H a = some (.lst vs) ∧ VRs K m H xs vs := by
  obtain ⟨a, ha⟩ := S.idx hg
  obtain ⟨vs, h1, h2⟩ := S.cell p a _ ha hg
  exact ⟨a, vs, ha, h1, h2⟩
end

/-! ### arithmetic -/
def mulOk (i j : Int) : Bool := decide (i.natAbs.log2 + j.natAbs.log2 < 1000000)
def divOk (j : Int) : Bool := decide (j ≠ 0) && decide (j.natAbs.log2 < 9000)
def addD (x y : D) (G : Hq) : Rs D := match x, y with
  | .int i, .int j => .ok (.int (i + j)) G
  | .str a, .str b => if a.length + b.length ≤ 16777216 then .ok (.str (a ++ b)) G else .bad
  | .ref p, .ref q => match G[p]?, G[q]? with
    | some (.lst xs), some (.lst ys) => if xs.length + ys.length ≤ 16777216 then .ok (.ref G.length) (G ++ [.lst (xs ++ ys)]) else .bad
    | _, _ => .bad
  | _, _ => .bad
def iaddD (x y : D) (G : Hq) : Rs D := match x, y with
  | .int i, .int j => .ok (.int (i + j)) G
  | _, _ => .bad
def imulD (x y : D) (G : Hq) : Rs D := match x, y with
  | .int i, .int j => if mulOk i j then .ok (.int (i * j)) G else .bad
  | _, _ => .bad
theorem mulOk_spec {i j : Int} (h : mulOk i j = true) : CMulW i j := by
  unfold mulOk at h
  show i.natAbs.log2 + j.natAbs.log2 < 1000000
  exact of_decide_eq_true h
def subD (x y : D) (G : Hq) : Rs D := match x, y with
  | .int i, .int j => .ok (.int (i - j)) G
  | .bl a, .bl b => .ok (.int (b2i a - b2i b)) G
  | _, _ => .bad
def mulD (x y : D) (G : Hq) : Rs D := match x, y with
  | .int i, .int j => if mulOk i j then .ok (.int (i * j)) G else .bad
  | .ref p, .int k => match G[p]? with
    | some (.lst xs) => if k < 2 ^ 63 ∧ -(2 ^ 63) ≤ k ∧ xs.length * k.toNat ≤ 16777216 then .ok (.ref G.length) (G ++ [.lst (List.replicate k.toNat xs).flatten]) else .bad
    | _ => .bad
  | _, _ => .bad
def fdivD (x y : D) (G : Hq) : Rs D := match x, y with
  | .int i, .int j => if divOk j then .ok (.int (i.fdiv j)) G else .bad
  | _, _ => .bad
def modD (x y : D) (G : Hq) : Rs D := match x, y with
  | .int i, .int j => if j ≠ 0 then .ok (.int (i.fmod j)) G else .bad
  | _, _ => .bad
def powD (x y : D) (G : Hq) : Rs D := match x, y with
  | .int i, .int j => if 0 ≤ j ∧ j ≤ 1000000 ∧ i.natAbs < 2 ^ 64 then .ok (.int (i ^ j.toNat)) G else .bad
  | _, _ => .bad
def negD (x : D) (G : Hq) : Rs D := match x with
  | .int i => .ok (.int (-i)) G
  | _ => .bad
section
variable {X : Cx}
theorem lst_new {K : PySem.W.Frag} {mg : Str → Option Value} {Wx : XW} {m : List Addr} {H : Hp} {G : Hq} {xs : List D} {vs : List V} {Q : VK} {p : Addr} (S : Sim K m G H) (r : VRs K m H xs vs)
    (q : PostR K mg (VR K) Wx m H (.ok (.ref G.length) (G ++ [.lst xs])) Q) (hp : H p = none) : Q (.ref p) (upd H p (.lst vs)) :=
  q (m ++ [p]) (upd H p (.lst vs)) (.ref p) (xt_push hp) (S.push hp ⟨vs, upd_same, r.mono (xt_push hp)⟩) (.ref (by rw [← S.len]; simp))
theorem f_add : OpF X (binaryOp .Add) addD := by
  intro pins s σ m G H x y v w u z Q Wx I S rx ry ru rz q
  unfold addD at q
  split at q
  · cases rx; cases ry; exact op_add pins s σ H _ _ u z Q I ru rz ⟨_, _, rfl, rfl, q.here S (.int _)⟩
  · split at q
    · rename_i hz
      cases rx; cases ry; exact op_add_str pins s σ H _ _ u z Q I ru rz ⟨_, _, rfl, rfl, hz, q.here S (.str _)⟩
    · exact q.elim
  · split at q
    · rename_i xs ys h1 h2
      split at q
      · rename_i hz
        obtain ⟨a, vs, ha, hv, r1⟩ := cell_lst S h1
        obtain ⟨b, ws, hb, hw, r2⟩ := cell_lst S h2
        cases rx with
        | ref ha' =>
          cases ry with
          | ref hb' =>
            rw [ha] at ha'; cases ha'
            rw [hb] at hb'; cases hb'
            refine op_cat pins s σ H _ _ u z Q I ru rz ⟨a, b, vs, ws, rfl, rfl, hv, hw, by rw [← r1.length, ← r2.length]; exact hz, fun p hp => ?_⟩
            exact lst_new S (r1.append r2) q hp
      · exact q.elim
    · exact q.elim
  · exact q.elim
theorem f_iadd : OpF X (inplaceOp .Add) iaddD := by
  intro pins s σ m G H x y v w u z Q Wx I S rx ry ru rz q
  unfold iaddD at q
  split at q
  · cases rx; cases ry; exact iop_add pins s σ H _ _ u z Q I ru rz ⟨_, _, rfl, rfl, q.here S (.int _)⟩
  · exact q.elim
theorem f_sub : OpF X (binaryOp .Sub) subD := by
  intro pins s σ m G H x y v w u z Q Wx I S rx ry ru rz q
  unfold subD at q
  split at q
  · cases rx; cases ry; exact op_sub pins s σ H _ _ u z Q I ru rz ⟨_, _, rfl, rfl, q.here S (.int _)⟩
  · cases rx; cases ry; cases ru; cases rz; exact PyProof.Rows.sub_bool ⟨.int _, H, I.tok _, ⟨_, rfl⟩, q.here S (.int _)⟩
  · exact q.elim
theorem f_isub : OpF X (inplaceOp .Sub) subD := by
  intro pins s σ m G H x y v w u z Q Wx I S rx ry ru rz q
  unfold subD at q
  split at q
  · cases rx; cases ry; exact iop_sub pins s σ H _ _ u z Q I ru rz ⟨_, _, rfl, rfl, q.here S (.int _)⟩
  · cases rx; cases ry; cases ru; cases rz; exact PyProof.Rows.isub_bool ⟨.int _, H, I.tok _, ⟨_, rfl⟩, q.here S (.int _)⟩
  · exact q.elim
theorem f_mul : OpF X (binaryOp .Mult) mulD := by
  intro pins s σ m G H x y v w u z Q Wx I S rx ry ru rz q
  unfold mulD at q
  split at q
  · split at q
    · rename_i hz
      cases rx; cases ry; exact op_mulW pins s σ H _ _ u z Q I ru rz ⟨_, _, rfl, rfl, mulOk_spec hz, q.here S (.int _)⟩
    · exact q.elim
  · split at q
    · rename_i xs h1
      split at q
      · rename_i hz
        obtain ⟨a, vs, ha, hv, r1⟩ := cell_lst S h1
        cases ry
        cases rx with
        | ref ha' =>
          rw [ha] at ha'; cases ha'
          refine op_rep pins s σ H _ _ u z Q I ru rz ⟨a, _, vs, rfl, rfl, hv, hz.2.1, hz.1, by rw [← r1.length]; exact hz.2.2, fun p hp => ?_⟩
          refine lst_new S ?_ q hp
          have rep : ∀ k : Nat, VRs X.K m H (List.replicate k xs).flatten (List.replicate k vs).flatten := by
            intro k
            induction k with
            | zero => exact .nil
            | succ k ih => rw [List.replicate_succ, List.replicate_succ, List.flatten_cons, List.flatten_cons]; exact r1.append ih
          exact rep _
      · exact q.elim
    · exact q.elim
  · exact q.elim
theorem f_imul : OpF X (inplaceOp .Mult) imulD := by
  intro pins s σ m G H x y v w u z Q Wx I S rx ry ru rz q
  unfold imulD at q
  split at q
  · split at q
    · rename_i hz
      cases rx; cases ry
      obtain ⟨t, rfl⟩ := ru
      obtain ⟨t', rfl⟩ := rz
      exact imul_int ⟨.int _, H, I.tok _, ⟨_, rfl⟩, q.here S (.int _)⟩ (CMulW.ok (mulOk_spec hz))
    · exact q.elim
  · exact q.elim
theorem divOk_spec {j : Int} (h : divOk j = true) : j ≠ 0 ∧ j.natAbs.log2 < 9000 := by
  unfold divOk at h
  rw [Bool.and_eq_true] at h
  exact ⟨of_decide_eq_true h.1, of_decide_eq_true h.2⟩
theorem f_fdiv : OpF X (binaryOp .FloorDiv) fdivD := by
  intro pins s σ m G H x y v w u z Q Wx I S rx ry ru rz q
  unfold fdivD at q
  split at q
  · split at q
    · rename_i hz
      cases rx; cases ry
      obtain ⟨t, rfl⟩ := ru
      obtain ⟨t', rfl⟩ := rz
      exact floordiv_int (divOk_spec hz).1 ⟨.int _, H, I.tok _, ⟨_, rfl⟩, q.here S (.int _)⟩ (.inl (PyProof.noPylong_of_log2 (divOk_spec hz).2))
    · exact q.elim
  · exact q.elim
theorem f_ifdiv : OpF X (inplaceOp .FloorDiv) fdivD := by
  intro pins s σ m G H x y v w u z Q Wx I S rx ry ru rz q
  unfold fdivD at q
  split at q
  · split at q
    · rename_i hz
      cases rx; cases ry
      obtain ⟨t, rfl⟩ := ru
      obtain ⟨t', rfl⟩ := rz
      exact ifloordiv_int (divOk_spec hz).1 ⟨.int _, H, I.tok _, ⟨_, rfl⟩, q.here S (.int _)⟩ (.inl (PyProof.noPylong_of_log2 (divOk_spec hz).2))
    · exact q.elim
  · exact q.elim
theorem f_mod : OpF X (binaryOp .Mod) modD := by
  intro pins s σ m G H x y v w u z Q Wx I S rx ry ru rz q
  unfold modD at q
  split at q
  · split at q
    · rename_i hz
      cases rx; cases ry; exact op_modN pins s σ H _ _ u z Q I ru rz ⟨_, _, rfl, rfl, hz, q.here S (.int _)⟩
    · exact q.elim
  · exact q.elim
theorem f_imod : OpF X (inplaceOp .Mod) modD := by
  intro pins s σ m G H x y v w u z Q Wx I S rx ry ru rz q
  unfold modD at q
  split at q
  · split at q
    · rename_i hz
      cases rx; cases ry
      obtain ⟨t, rfl⟩ := ru
      obtain ⟨t', rfl⟩ := rz
      exact imod_int hz ⟨.int _, H, I.tok _, ⟨_, rfl⟩, q.here S (.int _)⟩
    · exact q.elim
  · exact q.elim
theorem f_pow : OpF X (binaryOp .Pow) powD := by
  intro pins s σ m G H x y v w u z Q Wx I S rx ry ru rz q
  unfold powD at q
  split at q
  · split at q
    · rename_i hz
      cases rx; cases ry; exact op_pow pins s σ H _ _ u z Q I ru rz ⟨_, _, rfl, rfl, hz, q.here S (.int _)⟩
    · exact q.elim
  · exact q.elim
theorem f_neg : UnF X (unaryOp .USub) negD := by
  intro pins s σ m G H x v u Q Wx I S rx ru q
  unfold negD at q
  split at q
  · cases rx; exact un_neg pins s σ H _ u Q I ru ⟨_, rfl, q.here S (.int _)⟩
  · exact q.elim
/-! ### comparisons -/
def cmpD (p : Int → Int → Bool) (x y : D) (G : Hq) : Rs D := match x, y with
  | .int i, .int j => .ok (.bl (p i j)) G
  | _, _ => .bad
theorem f_cmp {op : CmpOp} {p : Int → Int → Bool} (h : OpR X (compareOp op) (rI0 fun i j => .bl (p i j))) : OpF X (compareOp op) (cmpD p) := by
  intro pins s σ m G H x y v w u z Q Wx I S rx ry ru rz q
  unfold cmpD at q
  split at q
  · cases rx; cases ry; exact h pins s σ H _ _ u z Q I ru rz ⟨_, _, rfl, rfl, q.here S (.bl _)⟩
  · exact q.elim
theorem f_lt : OpF X (compareOp .Lt) (cmpD fun i j => decide (i < j)) := f_cmp op_lt
theorem f_le : OpF X (compareOp .LtE) (cmpD fun i j => decide (i ≤ j)) := f_cmp op_le
theorem f_gt : OpF X (compareOp .Gt) (cmpD fun i j => decide (j < i)) := f_cmp op_gt
theorem f_ge : OpF X (compareOp .GtE) (cmpD fun i j => decide (j ≤ i)) := f_cmp op_ge
/-- data, read off the cells -/
def toPyL (f : D → Option PyData) : List D → Option (List PyData)
  | [] => some []
  | x :: r => match f x, toPyL f r with
    | some a, some b => some (a :: b)
    | _, _ => none
def toPy (G : Hq) : Nat → D → Option PyData
  | _, .non => some .none
  | _, .bl b => some (.bool b)
  | _, .int i => some (.int i)
  | _, .str x => some (.str x)
  | 0, _ => none
  | n + 1, .tup xs => (toPyL (toPy G n) xs).map .tuple
  | n + 1, .kt xs => (toPyL (toPy G n) xs).map .tuple
  | n + 1, .kl xs => (toPyL (toPy G n) xs).map .list
  | n + 1, .ref p => match G[p]? with
    | some (.lst xs) => (toPyL (toPy G n) xs).map .list
    | some (.ro xs) => (toPyL (toPy G n) xs).map .list
    | _ => none
theorem toPyL_dp {K : PySem.W.Frag} {m : List Addr} {H : Hp} {f : D → Option PyData} (h : ∀ d v e, VR K m H d v → f d = some e → Dp K H v e) : ∀ {xs : List D} {vs : List V} {es : List PyData}, VRs K m H xs vs → toPyL f xs = some es → DpAll K H vs es
  | [], _, _, .nil, e => by cases e; exact .nil
  | x :: r, _, _, .cons a b, e => by
    rw [toPyL] at e
    split at e
    · rename_i h1 h2
      cases e
      exact .cons (h _ _ _ a h1) (toPyL_dp h b h2)
    · cases e
theorem toPy_dp {K : PySem.W.Frag} {m : List Addr} {H : Hp} {G : Hq} (S : Sim K m G H) : ∀ (n : Nat) (d : D) (v : V) (e : PyData), VR K m H d v → toPy G n d = some e → Dp K H v e := by
  intro n
  induction n with
  | zero =>
    intro d v e r h
    cases r <;> simp only [toPy] at h <;> cases h
    · exact .non
    · exact .bl _
    · exact .int _
    · exact .str _
  | succ n ih =>
    intro d v e r h
    cases r with
    | non => simp only [toPy] at h; cases h; exact .non
    | bl b => simp only [toPy] at h; cases h; exact .bl _
    | int i => simp only [toPy] at h; cases h; exact .int _
    | str x => simp only [toPy] at h; cases h; exact .str _
    | tup h1 h2 =>
      simp only [toPy, Option.map_eq_some_iff] at h
      obtain ⟨es, he, rfl⟩ := h
      exact .tup (SqT.of h1) (toPyL_dp ih h2 he)
    | kt h1 h2 =>
      simp only [toPy, Option.map_eq_some_iff] at h
      obtain ⟨es, he, rfl⟩ := h
      exact .tup h1 (toPyL_dp ih h2 he)
    | kl h1 h2 =>
      simp only [toPy, Option.map_eq_some_iff] at h
      obtain ⟨es, he, rfl⟩ := h
      exact .lst (.inr h1) (toPyL_dp ih h2 he)
    | @ref p a hp =>
      simp only [toPy] at h
      split at h
      · rename_i xs hg
        obtain ⟨es, he, rfl⟩ := Option.map_eq_some_iff.mp h
        obtain ⟨vs, h1, h2⟩ := S.cell p a _ hp hg
        exact .lst (SqL.of h1) (toPyL_dp ih h2 he)
      · rename_i xs hg
        obtain ⟨es, he, rfl⟩ := Option.map_eq_some_iff.mp h
        obtain ⟨vs, o, h1, h2⟩ := S.cell p a _ hp hg
        exact .lst (.inl (.inr ⟨o, h1⟩)) (toPyL_dp ih h2 he)
      · cases h
def eqD0 (neg : Bool) (x y : D) (G : Hq) : Rs D := match toPy G 24 x, toPy G 24 y with
  | some a, some b => if SeqAt.shaped a ∧ SeqAt.shaped b then .ok (.bl (if neg then !PyData.eqv a b else PyData.eqv a b)) G else .bad
  | _, _ => .bad
theorem f_eq0 {W : L2.St → XW} {k : Nat} (C : Ctx X W k) : OpF X (compareOp .Eq) (eqD0 false) := by
  intro pins s σ m G H x y v w u z Q Wx I S rx ry ru rz q
  unfold eqD0 at q
  split at q
  · rename_i a b h1 h2
    split at q
    · rename_i hs
      exact op_eqD C.room.units pins s σ H v w u z Q I ru rz ⟨a, b, toPy_dp S _ _ _ _ rx h1, toPy_dp S _ _ _ _ ry h2, hs.1, hs.2, q.here S (.bl _)⟩
    · exact q.elim
  · exact q.elim
theorem f_ne0 {W : L2.St → XW} {k : Nat} (C : Ctx X W k) : OpF X (compareOp .NotEq) (eqD0 true) := by
  intro pins s σ m G H x y v w u z Q Wx I S rx ry ru rz q
  unfold eqD0 at q
  split at q
  · rename_i a b h1 h2
    split at q
    · rename_i hs
      exact op_neD C.room.units pins s σ H v w u z Q I ru rz ⟨a, b, toPy_dp S _ _ _ _ rx h1, toPy_dp S _ _ _ _ ry h2, hs.1, hs.2, q.here S (.bl _)⟩
    · exact q.elim
  · exact q.elim
def eqD (neg : Bool) (x y : D) (G : Hq) : Rs D := match x, y with
  | .str a, .str b => .ok (.bl (if neg then !decide (a = b) else decide (a = b))) G
  | x, y => eqD0 neg x y G
theorem dec_strV {a b : Str} : decide (V.str a = V.str b) = decide (a = b) := by
  rw [Bool.eq_iff_iff]
  simp
theorem f_eq {W : L2.St → XW} {k : Nat} (C : Ctx X W k) : OpF X (compareOp .Eq) (eqD false) := by
  intro pins s σ m G H x y v w u z Q Wx I S rx ry ru rz q
  unfold eqD at q
  split at q
  · cases rx
    cases ry
    exact L2.op_eq pins s σ H _ _ u z Q I ru rz ⟨rfl, by rw [dec_strV]; exact q.here S (.bl _)⟩
  · exact f_eq0 C pins s σ m G H x y v w u z Q Wx I S rx ry ru rz q
theorem f_ne {W : L2.St → XW} {k : Nat} (C : Ctx X W k) : OpF X (compareOp .NotEq) (eqD true) := by
  intro pins s σ m G H x y v w u z Q Wx I S rx ry ru rz q
  unfold eqD at q
  split at q
  · cases rx
    cases ry
    exact L2.op_ne pins s σ H _ _ u z Q I ru rz ⟨rfl, by rw [dec_strV]; exact q.here S (.bl _)⟩
  · exact f_ne0 C pins s σ m G H x y v w u z Q Wx I S rx ry ru rz q
def isNonD (neg : Bool) (x : D) (G : Hq) : Rs D := .ok (.bl (match x with | .non => !neg | _ => neg)) G
/-! ### repr -/
def reprD (xs : List D) (G : Hq) : Rs D := match xs with
  | [x] => match toPy G 24 x with
    | some a => if a.showable = true ∧ a.hasDict = false ∧ a.depth ≤ 60 ∧ a.shown.length ≤ 16777216 then .ok (.str a.shown) G else .bad
    | none => .bad
  | _ => .bad
theorem f_repr {W : L2.St → XW} {k : Nat} (C : Ctx X W k) : CallF X (.builtin "repr") reprD := by
  intro pins s σ m G H xs vs us Q Wx I S rx ru q
  unfold reprD at q
  split at q
  · rename_i x
    split at q
    · rename_i a ha
      split at q
      · rename_i hs
        obtain ⟨h1, h2, h3, h4⟩ := hs
        cases rx with
        | cons r1 rr =>
          cases rr
          cases ru with
          | cons r2 rr =>
            cases rr
            rename_i v u
            have dp := toPy_dp S _ _ _ _ r1 ha
            obtain ⟨as, rd⟩ := Dp.reads I a v u dp r2
            have fin := q.here (b := .str a.shown) S (.str _)
            cases v with
            | non =>
              cases r2
              cases dp
              exact PySem.P.repr_of_none ⟨.str _, H, I.tok _, ⟨_, rfl⟩, by simpa only [PyData.shown] using fin⟩
            | bl b =>
              cases r2
              cases dp
              exact PySem.P.repr_of_bool ⟨.str _, H, I.tok _, ⟨_, rfl⟩, by simpa only [PyData.shown] using fin⟩
            | int i =>
              obtain ⟨t, rfl⟩ := r2
              cases dp
              exact PySem.P.repr_of_int (by simpa [PyData.showable] using h1) ⟨.str _, H, I.tok _, ⟨_, rfl⟩, by simpa only [PyData.shown] using fin⟩
            | str i =>
              obtain ⟨t, rfl⟩ := r2
              cases dp
              exact PySem.P.repr_of_str ⟨.str _, H, I.tok _, ⟨_, rfl⟩, by simpa only [PyData.shown] using fin⟩ (by simp only [PyData.shown] at h4; exact h4)
            | ref p =>
              cases r2
              refine repr_of_reads' rd h1 (PyData.noDict_hsm h2) C.gd (by have := C.room.units; omega) (fun _ _ e => e) (fun h' t tk kk => ?_) h4
              exact ⟨.str a.shown, H, I.kept kk, ⟨_, rfl⟩, fin⟩
            | byt _ => cases dp
            | flt _ => cases dp
            | ty _ => cases dp
      · exact q.elim
    · exact q.elim
  · exact q.elim
end
end SX

set_option Elab.async false
set_option linter.all false
set_option maxRecDepth 100000
set_option maxHeartbeats 1000000
namespace SX
open PySem PySem.Spec PyProof.Rows L2

/-! ### dicts -/
section
variable {κ : Type} [DecidableEq κ]
def lookD (kvs : List (κ × D)) (k : κ) : Option D := (kvs.find? fun kv => decide (kv.1 = k)).map (·.2)
def putD (kvs : List (κ × D)) (k : κ) (v : D) : List (κ × D) :=
  if (kvs.any fun kv => decide (kv.1 = k)) then kvs.map fun kv => if kv.1 = k then (kv.1, v) else kv else kvs ++ [(k, v)]
variable {K : PySem.W.Frag} {m : List Addr} {H : Hp}
theorem vrk_look : ∀ {kvs : List (κ × D)} {vs : List (κ × V)} (k : κ), VRk K m H kvs vs → (lookD kvs k = none ∧ valV vs k = none) ∨ ∃ d v, lookD kvs k = some d ∧ valV vs k = some v ∧ VR K m H d v
  | _, _, k, .nil => .inl ⟨rfl, rfl⟩
  | _, _, k, .cons (k := k') (x := x) (v := v) r t => by
    by_cases e : k' = k
    · refine .inr ⟨x, v, ?_, ?_, r⟩ <;> simp [lookD, valV, List.find?_cons, e]
    · rcases vrk_look k t with ⟨h1, h2⟩ | ⟨d, w, h1, h2, h3⟩
      · exact .inl ⟨by simpa [lookD, List.find?_cons, e] using h1, by simpa [valV, List.find?_cons, e] using h2⟩
      · exact .inr ⟨d, w, by simpa [lookD, List.find?_cons, e] using h1, by simpa [valV, List.find?_cons, e] using h2, h3⟩
theorem vrk_keys : ∀ {kvs : List (κ × D)} {vs : List (κ × V)}, VRk K m H kvs vs → kvs.map (·.1) = vs.map (·.1)
  | _, _, .nil => rfl
  | _, _, .cons r t => by rw [List.map_cons, List.map_cons, vrk_keys t]
theorem vrk_len {kvs : List (κ × D)} {vs : List (κ × V)} (h : VRk K m H kvs vs) : kvs.length = vs.length := by
  have := congrArg List.length (vrk_keys h)
  simpa using this
theorem vrk_app : ∀ {kvs : List (κ × D)} {vs : List (κ × V)} {k : κ} {d : D} {v : V}, VRk K m H kvs vs → VR K m H d v → VRk K m H (kvs ++ [(k, d)]) (vs ++ [(k, v)])
  | _, _, _, _, _, .nil, r => .cons r .nil
  | _, _, _, _, _, .cons r t, q => .cons r (vrk_app t q)
theorem vrk_repl : ∀ {kvs : List (κ × D)} {vs : List (κ × V)} {k : κ} {d : D} {v : V}, VRk K m H kvs vs → VR K m H d v → VRk K m H (kvs.map fun kv => if kv.1 = k then (kv.1, d) else kv) (vs.map fun kv => if kv.1 = k then (kv.1, v) else kv)
  | _, _, _, _, _, .nil, r => .nil
  | _, _, k, _, _, .cons (k := k') r t, q => by
    rw [List.map_cons, List.map_cons]
    by_cases e : k' = k
    · rw [if_pos e, if_pos e]; exact .cons q (vrk_repl t q)
    · rw [if_neg e, if_neg e]; exact .cons r (vrk_repl t q)
theorem vrk_any : ∀ {kvs : List (κ × D)} {vs : List (κ × V)} (k : κ), VRk K m H kvs vs → (kvs.any fun kv => decide (kv.1 = k)) = vs.any fun kv => decide (kv.1 = k)
  | _, _, _, .nil => rfl
  | _, _, k, .cons r t => by rw [List.any_cons, List.any_cons, vrk_any k t]
theorem vrk_put {kvs : List (κ × D)} {vs : List (κ × V)} {k : κ} {d : D} {v : V} (h : VRk K m H kvs vs) (r : VR K m H d v) : VRk K m H (putD kvs k d) (putK vs k v) := by
  unfold putD putK
  rw [vrk_any k h]
  split
  · exact vrk_repl h r
  · exact vrk_app h r
end
def keyOf : D → Option Key
  | .int i => some (.inl i)
  | .str x => some (.inr x)
  | _ => none
def keysOf : List D → Option (List Key)
  | [] => some []
  | x :: r => match keyOf x, keysOf r with
    | some a, some b => some (a :: b)
    | _, _ => none
def tkeyOf : D → Option (List Key)
  | .tup xs => keysOf xs
  | _ => none
def ofKey : Key → D
  | .inl i => .int i
  | .inr x => .str x
section
variable {K : PySem.W.Frag} {m : List Addr} {H : Hp} {G : Hq}
theorem key_vr {d : D} {v : V} {k : Key} (r : VR K m H d v) (h : keyOf d = some k) : v = kV k := by
  cases r <;> cases h <;> rfl
theorem keys_vr : ∀ {ds : List D} {vs : List V} {ks : List Key}, VRs K m H ds vs → keysOf ds = some ks → vs = ks.map kV
  | [], _, _, .nil, h => by cases h; rfl
  | x :: r, _, _, .cons a b, h => by
    rw [keysOf] at h
    split at h
    · rename_i h1 h2
      cases h
      rw [key_vr a h1, keys_vr b h2]; rfl
    · cases h
theorem tkey_vr {d : D} {v : V} {k : List Key} (r : VR K m H d v) (h : tkeyOf d = some k) : ∃ a, v = .ref a ∧ H a = some (.tup (k.map kV)) := by
  cases r with
  | tup h1 h2 => have e := keys_vr h2 h; subst e; exact ⟨_, rfl, h1⟩
  | _ => cases h
theorem ofKey_vr (k : Key) : VR K m H (ofKey k) (kV k) := by cases k; exact .int _; exact .str _
end
/-- an entry's value -/
def dictGet (c : C) (y : D) : Option (Option D) := match c with
  | .dK kvs => (keyOf y).map (lookD kvs)
  | .dT kvs => (tkeyOf y).map (lookD kvs)
  | .lk kvs => (keyOf y).map (lookD kvs)
  | .lkT kvs => (tkeyOf y).map (lookD kvs)
  | _ => none
def isDict : C → Bool
  | .dK _ => true
  | .dT _ => true
  | _ => false
theorem dict_at {K : PySem.W.Frag} {m : List Addr} {H : Hp} {G : Hq} (S : Sim K m G H) {p : Nat} {c : C} (hg : G[p]? = some c) {y : D} {w : V} (ry : VR K m H y w) {o : Option D} (h : dictGet c y = some o) :
    ∃ a ov, m[p]? = some a ∧ DGet H a w ov ∧ ((o = none ∧ ov = none) ∨ ∃ d v, o = some d ∧ ov = some v ∧ VR K m H d v) := by
  obtain ⟨a, ha⟩ := S.idx hg
  cases c with
  | dK kvs =>
    obtain ⟨k, hk, rfl⟩ := Option.map_eq_some_iff.mp h
    obtain ⟨vs, h1, h2⟩ := S.cell p a _ ha hg
    have e := key_vr ry hk
    subst e
    refine ⟨a, _, ha, DGet.k h1, ?_⟩
    rcases vrk_look k h2 with z | ⟨d, v, z1, z2, z3⟩
    · exact .inl z
    · exact .inr ⟨d, v, z1, z2, z3⟩
  | dT kvs =>
    obtain ⟨k, hk, rfl⟩ := Option.map_eq_some_iff.mp h
    obtain ⟨vs, h1, h2⟩ := S.cell p a _ ha hg
    obtain ⟨b, rfl, hb⟩ := tkey_vr ry hk
    refine ⟨a, _, ha, DGet.t h1 hb, ?_⟩
    rcases vrk_look k h2 with z | ⟨d, v, z1, z2, z3⟩
    · exact .inl z
    · exact .inr ⟨d, v, z1, z2, z3⟩
  | lk kvs =>
    obtain ⟨k, hk, rfl⟩ := Option.map_eq_some_iff.mp h
    obtain ⟨vs, ob, h1, h2⟩ := S.cell p a _ ha hg
    have e := key_vr ry hk
    subst e
    refine ⟨a, _, ha, .inl ⟨vs, k, .inr ⟨ob, h1⟩, rfl, rfl⟩, ?_⟩
    rcases vrk_look k h2 with z | ⟨d, v, z1, z2, z3⟩
    · exact .inl z
    · exact .inr ⟨d, v, z1, z2, z3⟩
  | lkT kvs =>
    obtain ⟨k, hk, rfl⟩ := Option.map_eq_some_iff.mp h
    obtain ⟨vs, ob, h1, h2⟩ := S.cell p a _ ha hg
    obtain ⟨b, rfl, hb⟩ := tkey_vr ry hk
    refine ⟨a, _, ha, .inr ⟨vs, k, b, .inr ⟨ob, h1⟩, rfl, hb, rfl⟩, ?_⟩
    rcases vrk_look k h2 with z | ⟨d, v, z1, z2, z3⟩
    · exact .inl z
    · exact .inr ⟨d, v, z1, z2, z3⟩
  | _ => cases h

/-! ### subscripts -/
def oneD (o : Option D) (G : Hq) : Rs D := match o with
  | some d => .ok d G
  | none => .bad
def ixD (x y : D) (G : Hq) : Rs D := match x with
  | .tup xs => match y with | .int i => oneD (atI xs i) G | _ => .bad
  | .kt xs => match y with | .int i => oneD (atI xs i) G | _ => .bad
  | .kl xs => match y with | .int i => oneD (atI xs i) G | _ => .bad
  | .str z => match y with
    | .int i => if z.length ≤ 16777216 then match atI z.cps.toList i with | some c => .ok (.str ⟨#[c]⟩) G | none => .bad else .bad
    | _ => .bad
  | .ref p => match G[p]? with
    | some (.lst xs) => match y with | .int i => oneD (atI xs i) G | _ => .bad
    | some (.ro xs) => match y with | .int i => oneD (atI xs i) G | _ => .bad
    | some c => match dictGet c y with
      | some o => oneD o G
      | none => .bad
    | none => .bad
  | _ => .bad
theorem vrs_at {K : PySem.W.Frag} {m : List Addr} {H : Hp} {xs : List D} {vs : List V} (r : VRs K m H xs vs) {i : Int} {d : D} (h : atI xs i = some d) : ∃ v, atI vs i = some v ∧ VR K m H d v := by
  unfold atI at h ⊢
  rw [← r.length]
  cases e : ixN xs.length i with
  | none => rw [e] at h; cases h
  | some j => rw [e] at h; exact r.get h
def IxF (X : Cx) (g : D → D → Hq → Rs D) : Prop :=
  ∀ (value slice : Expr) (pins : List (Addr × Obj)) (s : Shared) (σ : L2.St) (m : List Addr) (G : Hq) (H : Hp) (x y : D) (v w : V) (u z : Value) (Q : VK) (Wx : XW), Inv X pins σ H s → Sim X.K m G H → VR X.K m H x v → VR X.K m H y w → RelV v u → RelV w z →
    PostR X.K X.mg (VR X.K) Wx m H (g x y G) Q → subscripted slice false u z = operate [u, z] (getItem u z) → wpAny (model X.prog X.w) X.A (subscriptTail value slice u z) (EP X pins σ Q) X.xe s
section
variable {X : Cx} {W : L2.St → XW} {k : Nat}
theorem tail_dict {prog : Program} {w : World} {A : Around} {E : Value → Shared → Prop} {s : Shared} {value slice : Expr} {o i : Value} {T id : String} {Q : Value → Shared → Prop} (hl : typeLookup (.type T) "__getitem__" = pure (some (.builtin id)))
    (hT : s.TypeIs o T) (hs : subscripted slice false o i = operate [o, i] (getItem o i)) (h : wpAny (model prog w) A (getItem o i) Q E s) : wpAny (model prog w) A (subscriptTail value slice o i) Q E s := by
  unfold subscriptTail
  refine wpAny_bind ?_
  rw [getitemInPython_of_ne hT.not_modules]
  refine wpAny_bind (wpAny_specialOf hT hl ?_)
  have go : wpAny (model prog w) A (subscripted slice false o i) (fun r s2 => wpAny (model prog w) A (letTemporaryGo value o r >>= fun _ => pure r) Q E s2) E s := by
    rw [hs]
    exact wpAny_operating (wpAny_mono h (fun r s2 z => wpAny_bind (wpAny_letTemporaryGo (wpAny_pure z))) fun _ _ z => z)
  first
    | exact wpAny_pure (wpAny_bind go)
    | exact wpAny_bind (wpAny_pure (wpAny_bind go))
    | exact wpAny_bind go
theorem f_ix (C : Ctx X W k) : IxF X ixD := by
  intro value slice pins s σ m G H x y v w u z Q Wx I S rx ry ru rz q hs
  have hu : X.A.units + 1 < cLine := by have := C.room.units; omega
  have tupGo : ∀ {xs : List D} {i : Int}, tupOf x = some xs → y = .int i → PostR X.K X.mg (VR X.K) Wx m H (oneD (atI xs i) G) Q → wpAny (model X.prog X.w) X.A (subscriptTail value slice u z) (EP X pins σ Q) X.xe s := by
    intro xs i ht e qq
    subst e
    obtain ⟨a, vs, rfl, h1, h2⟩ := tup_at rx ht
    cases ry
    cases e : atI xs i with
    | none => rw [e] at qq; exact qq.elim
    | some d =>
      rw [e] at qq
      obtain ⟨t, ht, rt⟩ := vrs_at h2 e
      exact ix_tup value slice pins s σ H _ _ u z Q I ru rz ⟨a, vs, i, t, rfl, rfl, h1, ht, qq.here S rt⟩ hs
  have lstGo : ∀ {xs : List D} {i : Int}, lstOf G x = some xs → y = .int i → PostR X.K X.mg (VR X.K) Wx m H (oneD (atI xs i) G) Q → wpAny (model X.prog X.w) X.A (subscriptTail value slice u z) (EP X pins σ Q) X.xe s := by
    intro xs i ht e qq
    subst e
    obtain ⟨a, vs, rfl, h1, h2⟩ := lst_at S rx ht
    cases ry
    cases e : atI xs i with
    | none => rw [e] at qq; exact qq.elim
    | some d =>
      rw [e] at qq
      obtain ⟨t, ht, rt⟩ := vrs_at h2 e
      exact ix_list value slice pins s σ H _ _ u z Q I ru rz ⟨a, vs, i, t, rfl, rfl, h1, ht, qq.here S rt⟩ hs
  unfold ixD at q
  split at q
  · split at q
    · exact tupGo rfl rfl q
    · exact q.elim
  · split at q
    · exact tupGo rfl rfl q
    · exact q.elim
  · split at q
    · exact lstGo rfl rfl q
    · exact q.elim
  · split at q
    · split at q
      · rename_i hz
        split at q
        · rename_i c hc
          cases rx; cases ry
          exact ix_str value slice pins s σ H _ _ u z Q I ru rz ⟨_, _, c, rfl, rfl, hz, hc, q.here S (.str _)⟩ hs
        · exact q.elim
      · exact q.elim
    · exact q.elim
  · rename_i p
    split at q
    · rename_i xs hg
      split at q
      · exact lstGo (by simp [lstOf, hg]) rfl q
      · exact q.elim
    · rename_i xs hg
      split at q
      · exact lstGo (by simp [lstOf, hg]) rfl q
      · exact q.elim
    · rename_i c _ _ hg
      split at q
      · rename_i o ho
        obtain ⟨a, ov, ha, hd, hv⟩ := dict_at S hg ry ho
        cases rx with
        | ref ha' =>
          rw [ha] at ha'; cases ha'
          cases ru
          rcases hv with ⟨rfl, _⟩ | ⟨d, t, rfl, rfl, rt⟩
          · exact q.elim
          · refine tail_dict PySem.F.slot_dict_getitem.lookup (dict_typeIs I hd) hs (d_getItem hu I hd rz fun w' s' I' rw' => ⟨t, H, I', rw', q.here S rt⟩)
      · exact q.elim
    · exact q.elim
  · exact q.elim
theorem xe_ix {e1 e2 : Expr} {fa fb : EF} {pos : Pos} {g : D → D → Hq → Rs D} (hr : IxF X g) (ha : PE X e1 (tE X W fa)) (hb : PE X e2 (tE X W fb)) (hs : ∀ o i, subscripted e2 false o i = operate [o, i] (getItem o i) := by intro _ _; rfl) : PE X (.Subscript e1 e2 pos) (tE X W (binC g fa fb)) := by
  refine ⟨fun pins s σ H Q I h => Subscript_ (binT ha hb I (tE_two h) fun u z s2 v w H2 I2 rv rw_ q => ?_)⟩
  obtain ⟨m2, G2, x, y, S2, r1, r2, q⟩ := q
  exact hr e1 e2 pins s2 σ m2 G2 H2 x y v w u z Q (W σ) I2 S2 r1 r2 rv rw_ q (hs _ _)
/-- o[i] for o[i] op= e -/
def getD' (x y : D) (G : Hq) : Rs D := match x with
  | .ref p => match G[p]? with
    | some (.lst xs) => match y with | .int i => if 0 ≤ i then oneD (atI xs i) G else .bad | _ => .bad
    | some c => match dictGet c y with
      | some o => oneD o G
      | none => .bad
    | none => .bad
  | _ => .bad
theorem f_get (C : Ctx X W k) : OpF X getItem getD' := by
  intro pins s σ m G H x y v w u z Q Wx I S rx ry ru rz q
  have hu : X.A.units + 1 < cLine := by have := C.room.units; omega
  unfold getD' at q
  split at q
  · rename_i p
    split at q
    · rename_i xs hg
      split at q
      · rename_i i
        split at q
        · rename_i h0
          obtain ⟨a, vs, ha, hv, r⟩ := cell_lst S hg
          cases rx with
          | ref ha' =>
            rw [ha] at ha'; cases ha'
            cases ry; cases ru
            obtain ⟨t, rfl⟩ := rz
            cases e : atI xs i with
            | none => rw [e] at q; exact q.elim
            | some d =>
              rw [e] at q
              obtain ⟨tv, ht, rt⟩ := vrs_at r e
              obtain ⟨its, rv, pl, hz⟩ := I.list (SqL.of hv)
              obtain ⟨j, h1, h2, h3, h4, h5⟩ := atI_get ht
              obtain ⟨w2, ew, rw2⟩ := rv.get h2
              have hl := rv.length
              have hn := line63
              have hj : i.toNat = j := by
                rw [seqIndex_of h0 h5] at h1
                exact Option.some.inj h1
              exact wpAny_getItem_list pl.isList h0 (by omega) (by rw [hj]; simpa using ew) ⟨tv, H, I, rw2, q.here S rt⟩
        · exact q.elim
      · exact q.elim
    · rename_i c _ hg
      split at q
      · rename_i o ho
        obtain ⟨a, ov, ha, hd, hv⟩ := dict_at S hg ry ho
        cases rx with
        | ref ha' =>
          rw [ha] at ha'; cases ha'
          cases ru
          rcases hv with ⟨rfl, _⟩ | ⟨d, t, rfl, rfl, rt⟩
          · exact q.elim
          · exact d_getItem hu I hd rz fun w' s' I' rw' => ⟨t, H, I', rw', q.here S rt⟩
      · exact q.elim
    · exact q.elim
  · exact q.elim
/-- o[i] = v -/
def setD (x y d : D) (G : Hq) : Rs Unit := match x with
  | .ref p => match G[p]? with
    | some (.lst xs) => match y with
      | .int i => match ixN xs.length i with
        | some j => .ok () (G.set p (.lst (xs.set j d)))
        | none => .bad
      | _ => .bad
    | some (.dK kvs) => match keyOf y with
      | some k => if kvs.length < 16777216 then .ok () (G.set p (.dK (putD kvs k d))) else .bad
      | none => match kvs with
        | [] => match tkeyOf y with
          | some k => .bad
          | none => .bad
        | _ => .bad
    | some (.dT kvs) => match tkeyOf y with
      | some k => if kvs.length < 16777216 then .ok () (G.set p (.dT (putD kvs k d))) else .bad
      | none => .bad
    | _ => .bad
  | _ => .bad
theorem f_set (C : Ctx X W k) : SetF X setD := by
  intro pins s σ m G H x y d v w t ov iv u Q I S rx ry rd ro ri ru q
  have hu : X.A.units + 1 < cLine := by have := C.room.units; omega
  unfold setD at q
  split at q
  · rename_i p
    split at q
    · rename_i xs hg
      split at q
      · rename_i i
        split at q
        · rename_i j hj
          obtain ⟨a, vs, ha, hv, r⟩ := cell_lst S hg
          cases rx with
          | ref ha' =>
            rw [ha] at ha'; cases ha'
            cases ry
            have hm : Mut (H a) := by rw [hv]; trivial
            refine set_list pins s σ H _ _ _ ov iv u Q I ro ri ru ⟨a, vs, i, j, rfl, rfl, hv, by rw [← r.length]; exact hj, ?_⟩
            exact q m _ () (xt_wr hm) (S.wr ha hm ⟨_, upd_same, (r.mono (xt_wr hm)).set j (rd.mono (xt_wr hm))⟩) trivial
        · exact q.elim
      · exact q.elim
    · rename_i kvs hg
      obtain ⟨a, ha⟩ := S.idx hg
      obtain ⟨vs, hv, r⟩ := S.cell p a _ ha hg
      split at q
      · rename_i kk hk
        split at q
        · rename_i hz
          cases rx with
          | ref ha' =>
            rw [ha] at ha'; cases ha'
            have e := key_vr ry hk
            subst e
            cases ro
            have hm : Mut (H a) := by rw [hv]; trivial
            refine d_setItem hu I (DPut.k hv (by rw [← vrk_len r]; exact hz)) ri ru fun s' I' => ⟨_, I', ?_⟩
            exact q m _ () (xt_wr hm) (S.wr ha hm ⟨_, upd_same, vrk_put (r.mono (xt_wr hm)) (rd.mono (xt_wr hm))⟩) trivial
        · exact q.elim
      · split at q
        · split at q <;> exact q.elim
        · exact q.elim
    · rename_i kvs hg
      obtain ⟨a, ha⟩ := S.idx hg
      obtain ⟨vs, hv, r⟩ := S.cell p a _ ha hg
      split at q
      · rename_i kk hk
        split at q
        · rename_i hz
          cases rx with
          | ref ha' =>
            rw [ha] at ha'; cases ha'
            obtain ⟨b, rfl, hb⟩ := tkey_vr ry hk
            cases ro
            have hm : Mut (H a) := by rw [hv]; trivial
            refine d_setItem hu I (DPut.t hv hb (by rw [← vrk_len r]; exact hz)) ri ru fun s' I' => ⟨_, I', ?_⟩
            exact q m _ () (xt_wr hm) (S.wr ha hm ⟨_, upd_same, vrk_put (r.mono (xt_wr hm)) (rd.mono (xt_wr hm))⟩) trivial
        · exact q.elim
      · exact q.elim
    · exact q.elim
  · exact q.elim
end
end SX

set_option Elab.async false
set_option linter.all false
set_option maxRecDepth 100000
set_option maxHeartbeats 1000000
namespace SX
open PySem PySem.Spec PyProof.Rows L2

/-! ### built-in functions -/
def lenD (xs : List D) (G : Hq) : Rs D := match xs with
  | [.str z] => if z.length ≤ 16777216 then .ok (.int z.length) G else .bad
  | [d] => match lstOf G d with
    | some ys => .ok (.int ys.length) G
    | none => match tupOf d with
      | some ys => .ok (.int ys.length) G
      | none => .bad
  | _ => .bad
def absD (xs : List D) (G : Hq) : Rs D := match xs with
  | [.int i] => .ok (.int (if i < 0 then -i else i)) G
  | _ => .bad
def intD (xs : List D) (G : Hq) : Rs D := match xs with
  | [.int i] => .ok (.int i) G
  | [.bl b] => .ok (.int (if b then 1 else 0)) G
  | _ => .bad
def listD (xs : List D) (G : Hq) : Rs D := match xs with
  | [d] => match lstOf G d with
    | some ys => .ok (.ref G.length) (G ++ [.lst ys])
    | none => match tupOf d with
      | some ys => .ok (.ref G.length) (G ++ [.lst ys])
      | none => .bad
  | _ => .bad
def tupleD (xs : List D) (G : Hq) : Rs D := match xs with
  | [.tup ys] => .ok (.tup ys) G
  | [d] => match lstOf G d with
    | some ys => .ok (.tup ys) G
    | none => .bad
  | _ => .bad
def sumD (xs : List D) (G : Hq) : Rs D := match xs with
  | [d] => match (lstOf G d).bind intsD with
    | some ns => .ok (.int ns.sum) G
    | none => .bad
  | _ => .bad
def allD (xs : List D) (G : Hq) : Rs D := match xs with
  | [d] => match (lstOf G d).bind blsD with
    | some ns => .ok (.bl (ns.all id)) G
    | none => .bad
  | _ => .bad
def anyD (xs : List D) (G : Hq) : Rs D := match xs with
  | [d] => match (lstOf G d).bind blsD with
    | some ns => .ok (.bl (ns.any id)) G
    | none => .bad
  | _ => .bad
def maxD (xs : List D) (G : Hq) : Rs D := match xs with
  | [.int i, .int j] => .ok (.int (if j > i then j else i)) G
  | _ => .bad
def minD (xs : List D) (G : Hq) : Rs D := match xs with
  | [.int i, .int j] => .ok (.int (if j < i then j else i)) G
  | _ => .bad
def sortI (ns : List Int) : List Int := ns.mergeSort (fun a b => decide (a ≤ b))
theorem sortI_perm (ns : List Int) : (sortI ns).Perm ns := List.mergeSort_perm _ _
theorem sortI_up (ns : List Int) : (sortI ns).Pairwise (· ≤ ·) := by
  have := List.pairwise_mergeSort (le := fun a b : Int => decide (a ≤ b)) (fun a b c h1 h2 => by simp only [decide_eq_true_eq] at *; omega) (fun a b => by simp only [Bool.or_eq_true, decide_eq_true_eq]; omega) ns
  exact this.imp fun h => by simpa using h
def sortedD (xs : List D) (G : Hq) : Rs D := match xs with
  | [d] => match (lstOf G d).bind intsD with
    | some ns => .ok (.ref G.length) (G ++ [.lst ((sortI ns).map D.int)])
    | none => .bad
  | _ => .bad
section
variable {X : Cx} {W : L2.St → XW} {k : Nat}
theorem vrs_one {K : PySem.W.Frag} {m : List Addr} {H : Hp} {d : D} {vs : List V} (h : VRs K m H [d] vs) : ∃ v, vs = [v] ∧ VR K m H d v := by
  cases h with
  | cons a b => cases b; exact ⟨_, rfl, a⟩
theorem vrs_two {K : PySem.W.Frag} {m : List Addr} {H : Hp} {d e : D} {vs : List V} (h : VRs K m H [d, e] vs) : ∃ v w, vs = [v, w] ∧ VR K m H d v ∧ VR K m H e w := by
  cases h with
  | cons a b => cases b with
    | cons c d => cases d; exact ⟨_, _, rfl, a, c⟩
theorem f_len : CallF X (.builtin "len") lenD := by
  intro pins s σ m G H xs vs us Q Wx I S rx ru q
  unfold lenD at q
  split at q
  · split at q
    · rename_i z hz
      obtain ⟨v, rfl, r⟩ := vrs_one rx
      cases r
      exact call_len_str pins s σ H _ us Q I ru ⟨z, rfl, hz, q.here S (.int _)⟩
    · exact q.elim
  · rename_i d _
    obtain ⟨v, rfl, r⟩ := vrs_one rx
    split at q
    · rename_i ys hl
      obtain ⟨a, ws, rfl, h1, h2⟩ := lst_at S r hl
      exact call_len_seq pins s σ H _ us Q I ru ⟨a, ws, rfl, .inl h1, by rw [← h2.length]; exact q.here S (.int _)⟩
    · split at q
      · rename_i ys hl
        obtain ⟨a, ws, rfl, h1, h2⟩ := tup_at r hl
        exact call_len_seq pins s σ H _ us Q I ru ⟨a, ws, rfl, .inr h1, by rw [← h2.length]; exact q.here S (.int _)⟩
      · exact q.elim
  · exact q.elim
theorem f_abs : CallF X (.builtin "abs") absD := by
  intro pins s σ m G H xs vs us Q Wx I S rx ru q
  unfold absD at q
  split at q
  · obtain ⟨v, rfl, r⟩ := vrs_one rx
    cases r
    exact call_abs pins s σ H _ us Q I ru ⟨_, rfl, q.here S (.int _)⟩
  · exact q.elim
theorem f_int : CallF X (.type "int") intD := by
  intro pins s σ m G H xs vs us Q Wx I S rx ru q
  unfold intD at q
  split at q
  · obtain ⟨v, rfl, r⟩ := vrs_one rx
    cases r
    exact call_int1 pins s σ H _ us Q I ru (.inl ⟨_, rfl, q.here S (.int _)⟩)
  · obtain ⟨v, rfl, r⟩ := vrs_one rx
    cases r
    exact call_int1 pins s σ H _ us Q I ru (.inr ⟨_, rfl, q.here S (.int _)⟩)
  · exact q.elim
theorem f_list : CallF X (.type "list") listD := by
  intro pins s σ m G H xs vs us Q Wx I S rx ru q
  unfold listD at q
  split at q
  · obtain ⟨v, rfl, r⟩ := vrs_one rx
    split at q
    · rename_i ys hl
      obtain ⟨a, ws, rfl, h1, h2⟩ := lst_at S r hl
      exact call_list_of pins s σ H _ us Q I ru ⟨a, ws, rfl, .inl h1, fun p hp => lst_new S h2 q hp⟩
    · split at q
      · rename_i ys hl
        obtain ⟨a, ws, rfl, h1, h2⟩ := tup_at r hl
        exact call_list_of pins s σ H _ us Q I ru ⟨a, ws, rfl, .inr h1, fun p hp => lst_new S h2 q hp⟩
      · exact q.elim
  · exact q.elim
theorem f_tuple : CallF X (.type "tuple") tupleD := by
  intro pins s σ m G H xs vs us Q Wx I S rx ru q
  unfold tupleD at q
  split at q
  · obtain ⟨v, rfl, r⟩ := vrs_one rx
    have r' := r
    cases r with
    | tup h1 h2 => exact call_tuple_of pins s σ H _ us Q I ru ⟨_, _, rfl, .inr ⟨SqT.of h1, q.here S r'⟩⟩
  · obtain ⟨v, rfl, r⟩ := vrs_one rx
    split at q
    · rename_i ys hl
      obtain ⟨a, ws, rfl, h1, h2⟩ := lst_at S r hl
      refine call_tuple_of pins s σ H _ us Q I ru ⟨a, ws, rfl, .inl ⟨h1, fun p hp => ?_⟩⟩
      exact q m _ (.ref p) (xt_more hp) (S.more hp) (.tup upd_same (h2.mono (xt_more hp)))
    · exact q.elim
  · exact q.elim
theorem f_sum (C : Ctx X W k) : CallF X (.builtin "sum") sumD := by
  intro pins s σ m G H xs vs us Q Wx I S rx ru q
  unfold sumD at q
  split at q
  · obtain ⟨v, rfl, r⟩ := vrs_one rx
    split at q
    · rename_i ns h
      obtain ⟨ys, hl, hi⟩ := Option.bind_eq_some_iff.mp h
      obtain ⟨a, ws, rfl, h1, h2⟩ := lst_at S r hl
      have e := intsD_eq hi
      subst e
      have e := vrs_ints h2
      subst e
      exact cr_sum C.calm pins s σ H _ us Q I ru ⟨a, ns, rfl, h1, q.here S (.int _)⟩
    · exact q.elim
  · exact q.elim
theorem f_all (C : Ctx X W k) : CallF X (.builtin "all") allD := by
  intro pins s σ m G H xs vs us Q Wx I S rx ru q
  unfold allD at q
  split at q
  · obtain ⟨v, rfl, r⟩ := vrs_one rx
    split at q
    · rename_i ns h
      obtain ⟨ys, hl, hi⟩ := Option.bind_eq_some_iff.mp h
      obtain ⟨a, ws, rfl, h1, h2⟩ := lst_at S r hl
      have e := blsD_eq hi
      subst e
      have e := vrs_bls h2
      subst e
      exact cr_all C.calm pins s σ H _ us Q I ru ⟨a, ns, rfl, h1, q.here S (.bl _)⟩
    · exact q.elim
  · exact q.elim
theorem f_any (C : Ctx X W k) : CallF X (.builtin "any") anyD := by
  intro pins s σ m G H xs vs us Q Wx I S rx ru q
  unfold anyD at q
  split at q
  · obtain ⟨v, rfl, r⟩ := vrs_one rx
    split at q
    · rename_i ns h
      obtain ⟨ys, hl, hi⟩ := Option.bind_eq_some_iff.mp h
      obtain ⟨a, ws, rfl, h1, h2⟩ := lst_at S r hl
      have e := blsD_eq hi
      subst e
      have e := vrs_bls h2
      subst e
      exact cr_any C.calm pins s σ H _ us Q I ru ⟨a, ns, rfl, h1, q.here S (.bl _)⟩
    · exact q.elim
  · exact q.elim
theorem f_max (C : Ctx X W k) : CallF X (.builtin "max") maxD := by
  intro pins s σ m G H xs vs us Q Wx I S rx ru q
  unfold maxD at q
  split at q
  · obtain ⟨v, w, rfl, r1, r2⟩ := vrs_two rx
    cases r1; cases r2
    exact call_max2 C.calm pins s σ H _ us Q I ru ⟨_, _, rfl, q.here S (.int _)⟩
  · exact q.elim
theorem f_min (C : Ctx X W k) : CallF X (.builtin "min") minD := by
  intro pins s σ m G H xs vs us Q Wx I S rx ru q
  unfold minD at q
  split at q
  · obtain ⟨v, w, rfl, r1, r2⟩ := vrs_two rx
    cases r1; cases r2
    exact call_min2 C.calm pins s σ H _ us Q I ru ⟨_, _, rfl, q.here S (.int _)⟩
  · exact q.elim
theorem f_sorted : CallF X (.builtin "sorted") sortedD := by
  intro pins s σ m G H xs vs us Q Wx I S rx ru q
  unfold sortedD at q
  split at q
  · obtain ⟨v, rfl, r⟩ := vrs_one rx
    split at q
    · rename_i ns h
      obtain ⟨ys, hl, hi⟩ := Option.bind_eq_some_iff.mp h
      obtain ⟨a, ws, rfl, h1, h2⟩ := lst_at S r hl
      have e := intsD_eq hi
      subst e
      have e := vrs_ints h2
      subst e
      refine cr_sortedI pins s σ H _ us Q I ru ⟨a, ns, rfl, h1, fun ns' p hp hu hn => ?_⟩
      have e : ns' = sortI ns := PySem.W.ksm_same (hp.trans (sortI_perm ns).symm) hu (sortI_up ns)
      subst e
      exact lst_new S (ints_vrs _) q hn
    · exact q.elim
  · exact q.elim
/-! ### methods -/
def methC (ok : Hq → D → Bool) (g : D → List D → Hq → Rs D) (o : EF) (a : AF) : EF := fun σ G => (o σ G).bind fun x G1 => if ok G1 x then (a σ G1).bind fun ys G2 => g x ys G2 else .bad
def isL (G : Hq) (d : D) : Bool := (lstOf G d).isSome
def isD (G : Hq) (d : D) : Bool := match d with
  | .ref p => match G[p]? with
    | some (.dK _) => true
    | some (.dT _) => true
    | _ => false
  | _ => false
/-- a method by values -/
def MtF (X : Cx) (id : String) (g : D → List D → Hq → Rs D) : Prop :=
  ∀ (pins : List (Addr × Obj)) (s : Shared) (σ : L2.St) (m : List Addr) (G : Hq) (H : Hp) (x : D) (xs : List D) (v : V) (vs : List V) (u : Value) (us : List Value) (Q : VK) (Wx : XW), Inv X pins σ H s → Sim X.K m G H → VR X.K m H x v → VRs X.K m H xs vs → RelV v u → Vals vs us →
    PostR X.K X.mg (VR X.K) Wx m H (g x xs G) Q → wpAny (model X.prog X.w) X.A (call (.builtin id) (u :: us)) (EP X pins σ Q) X.xe s
theorem isL_ty {m : List Addr} {G : Hq} {H : Hp} {d : D} {v : V} (S : Sim X.K m G H) (r : VR X.K m H d v) (h : isL G d = true) : tyV X.K "list" v H := by
  obtain ⟨xs, hl⟩ := Option.isSome_iff_exists.mp h
  obtain ⟨a, ws, rfl, h1, h2⟩ := lst_at S r hl
  exact .inl ⟨rfl, ws, h1⟩
theorem isD_ty {m : List Addr} {G : Hq} {H : Hp} {d : D} {v : V} (S : Sim X.K m G H) (r : VR X.K m H d v) (h : isD G d = true) : tyV X.K "dict" v H := by
  unfold isD at h
  split at h
  · rename_i p
    cases r with
    | ref ha =>
      split at h
      · rename_i kvs hg
        obtain ⟨vs, h1, _⟩ := S.cell p _ _ ha hg
        exact .inr (.inr (.inl ⟨rfl, .inl ⟨vs, h1⟩⟩))
      · rename_i kvs hg
        obtain ⟨vs, h1, _⟩ := S.cell p _ _ ha hg
        exact .inr (.inr (.inl ⟨rfl, .inr ⟨vs, h1⟩⟩))
      · cases h
  · cases h
theorem xe_bm {o e : Expr} {es : List Expr} {fo : EF} {fr : AF} {T id : String} {name : Str} {apos cpos : Pos} {ok : Hq → D → Bool} {g : D → List D → Hq → Rs D} (pa : PlainAttrs T) (slot : Slot T name id) (hm : MtF X id g)
    (hok : ∀ {m : List Addr} {G : Hq} {H : Hp} {d : D} {v : V}, Sim X.K m G H → VR X.K m H d v → ok G d = true → tyV X.K T v H) (ho : PE X o (tE X W fo)) (ha : PA X (e :: es) (tA X W fr)) (hty : typeOf (.builtin id) = pure (.type "method_descriptor"))
    (hbase : attributeBase o name X.env (eval o X.env) = eval o X.env := by rfl)
    (hfew : ((backTo cpos (starEach (e :: es) X.env)).all (fun x => !x.1) && (backToKw cpos (keywordEach [] X.env)).all (fun x => x.1.isSome)
      && decide ((e :: es).length + ([] : List Keyword).length + (if ([] : List Keyword).isEmpty then 0 else 1) < 30)) = true := by rfl)
    (hline : (apos.endLine == cpos.line) = true := by rfl) (hs : starEach (e :: es) X.env = (false, eval e X.env) :: starEach es X.env := by rfl) (hplain : (backTo cpos (starEach es X.env)).any (·.1) = false := by rfl) :
    PE X (.Call (.Attribute o name apos) (e :: es) [] cpos) (tE X W (methC ok g fo fr)) := by
  have mr : MtR X id (fun v vs H Q => ∃ m G x xs, Sim X.K m G H ∧ VR X.K m H x v ∧ VRs X.K m H xs vs ∧ ∃ Wx, PostR X.K X.mg (VR X.K) Wx m H (g x xs G) Q) := by
    intro pins s σ H v vs u us Q I r1 r2 ⟨m, G, x, xs, S, h1, h2, Wx, h3⟩
    exact hm pins s σ m G H x xs v vs u us Q Wx I S h1 h2 r1 r2 h3
  refine ⟨fun pins s σ H Q I ⟨m, σ', G, S, R, q⟩ => (pe_bm pa slot hty mr ho ha hbase hfew hline hs hplain).run pins s σ H Q I ?_⟩
  refine ⟨m, σ', G, S, R, (PostR.bnd (R := VR X.K) q).imp fun v H1 ⟨m1, G1, x, e1, S1, r1, _, h1⟩ => ?_⟩
  cases hk : ok G1 x with
  | false => simp only [hk] at h1; exact h1.elim
  | true =>
    simp only [hk, if_true] at h1
    refine ⟨hok S1 r1 hk, m1, σ', G1, S1, R.mono e1, (PostR.bnd (R := VRs X.K) h1).imp fun vs H2 ⟨m2, G2, xs, e2, S2, r2, _, h2⟩ => ?_⟩
    exact ⟨m2, G2, x, xs, S2, r1.mono e2, r2, W σ, h2⟩
def appendD (x : D) (ys : List D) (G : Hq) : Rs D := match x, ys with
  | .ref p, [y] => match G[p]? with
    | some (.lst xs) => if xs.length < 16777216 then .ok .non (G.set p (.lst (xs ++ [y]))) else .bad
    | _ => .bad
  | _, _ => .bad
theorem m_append : MtF X "list.append" appendD := by
  intro pins s σ m G H x xs v vs u us Q Wx I S rx rxs ru rus q
  unfold appendD at q
  split at q
  · rename_i p y
    split at q
    · rename_i ws hg
      split at q
      · rename_i hz
        obtain ⟨a, ts, ha, hv, r⟩ := cell_lst S hg
        obtain ⟨w, rfl, ry⟩ := vrs_one rxs
        cases rx with
        | ref ha' =>
          rw [ha] at ha'; cases ha'
          have hm : Mut (H a) := by rw [hv]; trivial
          refine mt_append pins s σ H _ _ u us Q I ru rus ⟨a, ts, w, rfl, rfl, hv, by rw [← r.length]; exact hz, ?_⟩
          exact q m _ .non (xt_wr hm) (S.wr ha hm ⟨_, upd_same, (r.mono (xt_wr hm)).append (.cons (ry.mono (xt_wr hm)) .nil)⟩) .non
      · exact q.elim
    · exact q.elim
  · exact q.elim
theorem m_append_ty : typeOf (.builtin "list.append") = pure (.type "method_descriptor") := PySem.F.type_list_append
/-! ### what is walked -/
def itL (p : Nat) : Src := fun k G => match lstOf G (.ref p) with
  | some xs => match xs[k]? with
    | some d => .item d
    | none => .stop
  | none => .bad
def itT (xs : List D) : Src := fun k _ => match xs[k]? with
  | some d => .item d
  | none => .stop
def itS (x : Str) : Src := fun k _ => match x.cps[k]? with
  | some c => .item (.str ⟨#[c]⟩)
  | none => .stop
def itR (lo step : Int) (n : Nat) : Src := fun k _ => if k < n then .item (.int (lo + k * step)) else .stop
def iterD (d : D) (G : Hq) : Rs Src := match d with
  | .ref p => if isL G (.ref p) then .ok (itL p) G else .bad
  | .tup xs => .ok (itT xs) G
  | .kt xs => .ok (itT xs) G
  | .kl xs => .ok (itT xs) G
  | .str x => .ok (itS x) G
  | _ => .bad
def iterC (e : EF) : IF := fun σ G => (e σ G).bind iterD
theorem itL_ok {K : PySem.W.Frag} {m0 : List Addr} {H0 : Hp} {p : Nat} {a : Addr} (ha : m0[p]? = some a) : ItOk K m0 H0 (itL p) (Itl K a) := by
  intro k m G H x S
  unfold itL
  cases hl : lstOf G (.ref p) with
  | none => trivial
  | some xs =>
    obtain ⟨b, vs, e, h1, h2⟩ := lst_at S (.ref (x.at ha)) hl
    cases e
    simp only
    cases hd : xs[k]? with
    | some d =>
      obtain ⟨v, hv, r⟩ := h2.get hd
      refine ⟨⟨vs, v, h1, hv⟩, fun w H' hy => ?_⟩
      obtain ⟨rfl, hy⟩ := hy
      have := hy vs h1
      rw [hv] at this
      cases this
      exact ⟨.refl, S, r⟩
    | none => exact ⟨vs, h1, by rw [← h2.length]; exact List.getElem?_eq_none_iff.mp hd⟩
theorem itT_ok {K : PySem.W.Frag} {m0 : List Addr} {H0 : Hp} {xs : List D} {vs : List V} {a : Addr} (h1 : SqT K H0 a vs) (h2 : VRs K m0 H0 xs vs) : ItOk K m0 H0 (itT xs) (Itt K a) := by
  intro k m G H x S
  have h1' := x.seq _ _ h1
  have h2' := h2.mono x
  unfold itT
  cases hd : xs[k]? with
  | some d =>
    obtain ⟨v, hv, r⟩ := h2'.get hd
    refine ⟨⟨vs, v, h1', hv⟩, fun w H' hy => ?_⟩
    obtain ⟨rfl, hy⟩ := hy
    have := hy vs h1'
    rw [hv] at this
    cases this
    exact ⟨.refl, S, r⟩
  | none => exact ⟨vs, h1', by rw [← h2'.length]; exact List.getElem?_eq_none_iff.mp hd⟩
theorem itTL_ok {K : PySem.W.Frag} {m0 : List Addr} {H0 : Hp} {xs : List D} {vs : List V} {a : Addr} (h1 : KLst K a vs) (h2 : VRs K m0 H0 xs vs) : ItOk K m0 H0 (itT xs) (Itl K a) := by
  intro k m G H x S
  have h1' : SqL K H a vs := .inr h1
  have h2' := h2.mono x
  unfold itT
  cases hd : xs[k]? with
  | some d =>
    obtain ⟨v, hv, r⟩ := h2'.get hd
    refine ⟨⟨vs, v, h1', hv⟩, fun w H' hy => ?_⟩
    obtain ⟨rfl, hy⟩ := hy
    have := hy vs h1'
    rw [hv] at this
    cases this
    exact ⟨.refl, S, r⟩
  | none => exact ⟨vs, h1', by rw [← h2'.length]; exact List.getElem?_eq_none_iff.mp hd⟩
theorem itS_ok {K : PySem.W.Frag} {m0 : List Addr} {H0 : Hp} {x : Str} : ItOk K m0 H0 (itS x) (Its x) := by
  intro k m G H xt S
  unfold itS
  cases hd : x.cps[k]? with
  | some d =>
    refine ⟨(Array.getElem?_eq_some_iff.mp hd).1, fun w H' hy => ?_⟩
    obtain ⟨rfl, c, hc, rfl⟩ := hy
    rw [hd] at hc; cases hc
    exact ⟨.refl, S, .str _⟩
  | none => exact Array.getElem?_eq_none_iff.mp hd
theorem itR_ok {K : PySem.W.Frag} {m0 : List Addr} {H0 : Hp} {lo : Int} {n : Nat} : ItOk K m0 H0 (itR lo 1 n) (Itr lo n) := by
  intro k m G H xt S
  unfold itR
  by_cases h : k < n
  · rw [if_pos h]
    refine ⟨h, fun w H' hy => ?_⟩
    obtain ⟨rfl, rfl⟩ := hy
    rw [Int.mul_one]
    exact ⟨.refl, S, .int _⟩
  · rw [if_neg h]
    exact Nat.le_of_not_lt h
theorem itC_ok {K : PySem.W.Frag} {m0 : List Addr} {H0 : Hp} {lo c : Int} {n : Nat} : ItOk K m0 H0 (itR lo c n) (Itc lo c n) := by
  intro k m G H xt S
  unfold itR
  by_cases h : k < n
  · rw [if_pos h]
    refine ⟨h, fun w H' hy => ?_⟩
    obtain ⟨rfl, rfl⟩ := hy
    exact ⟨.refl, S, .int _⟩
  · rw [if_neg h]
    exact Nat.le_of_not_lt h
theorem xi_val {e tg : Expr} {fa : EF} (he : PE X e (tE X W fa)) : PI X tg e (tI X W (iterC fa)) := by
  refine ⟨fun pins s σ H R I ⟨m, σ', G, S, Rr, q⟩ => ?_⟩
  have q' : tE X W fa σ H fun v H1 => ∃ m1 G1 d, Sim X.K m1 G1 H1 ∧ VR X.K m1 H1 d v ∧ PostR X.K X.mg (ItOk X.K) (W σ) m1 H1 (iterD d G1) R :=
    ⟨m, σ', G, S, Rr, (PostR.bnd (R := VR X.K) q).imp fun v H1 ⟨m1, G1, d, e1, S1, r1, _, h1⟩ => ⟨m1, G1, d, S1, r1, h1⟩⟩
  refine thn (he.run pins s σ H _ I q') fun u s1 ⟨v, H1, I1, rv, m1, G1, d, S1, r1, h1⟩ => ?_
  have tupGo : ∀ {xs : List D}, tupOf d = some xs → iterD d G1 = .ok (itT xs) G1 → wpAny (model X.prog X.w) X.A (pyIter u) (PIE X pins σ tg R) X.xe s1 := by
    intro xs ht e
    obtain ⟨a, vs, rfl, h2, h3⟩ := tup_at r1 ht
    cases rv
    rw [e] at h1
    obtain ⟨its, rr, pl, hz⟩ := I1.tuple h2
    refine wpAny_pyIter_tuple (show s1.heap.IsTuple a its.toArray from pl) ?_
    exact pi_one (tk := s1.toks) I1 _ (turn_tuple a _) ⟨_, Heap.get?_push_size _ rfl, rfl, rfl⟩ (PostR.here h1 S1 (itT_ok h2 h3))
  cases d with
  | tup xs => exact tupGo rfl rfl
  | kt xs => exact tupGo rfl rfl
  | ref p =>
    unfold iterD at h1
    simp only at h1
    split at h1
    · rename_i hl
      obtain ⟨xs, hl⟩ := Option.isSome_iff_exists.mp hl
      obtain ⟨a, vs, rfl, h2, h3⟩ := lst_at S1 r1 hl
      cases rv
      cases r1 with
      | ref ha =>
        obtain ⟨its, rr, pl, hz⟩ := I1.list h2
        refine wpAny_pyIter_list pl.isList ?_
        exact pi_one (tk := s1.toks) I1 _ (turn_list a _) ⟨_, Heap.get?_push_size _ rfl, rfl, rfl⟩ (PostR.here h1 S1 (itL_ok ha))
    · exact h1.elim
  | str x =>
    cases r1
    obtain ⟨t, rfl⟩ := rv
    have fin : R (Its x) H1 := PostR.here (x := itS x) h1 S1 itS_ok
    cases ha : x.cps.all (· < 128)
    · exact wpAny_pyIter_wide ha (pi_one (tk := s1.toks) I1 _ (turn_str _ x t "str_iterator" (.inr rfl)) ⟨_, Heap.get?_push_size _ rfl, rfl, rfl⟩ fin)
    · exact wpAny_pyIter_ascii ha (pi_one (tk := s1.toks) I1 _ (turn_str _ x t "str_ascii_iterator" (.inl rfl)) ⟨_, Heap.get?_push_size _ rfl, rfl, rfl⟩ fin)
  | kl xs =>
    cases r1 with
    | kl h2 h3 =>
      cases rv
      obtain ⟨its, rr, pl, hz⟩ := I1.list (.inr h2)
      refine wpAny_pyIter_list pl.isList ?_
      exact pi_one (tk := s1.toks) I1 _ (turn_list _ _) ⟨_, Heap.get?_push_size _ rfl, rfl, rfl⟩ (PostR.here (x := itT xs) h1 S1 (itTL_ok h2 h3))
  | non => exact h1.elim
  | bl _ => exact h1.elim
  | int _ => exact h1.elim
@[irreducible] def small62 (i : Int) : Bool := decide (-(2 ^ 62) ≤ i) && decide (i < 2 ^ 62)
theorem small62_spec {i : Int} (h : small62 i = true) : -(2 ^ 62) ≤ i ∧ i < 2 ^ 62 := by
  unfold small62 at h
  rw [Bool.and_eq_true] at h
  exact ⟨of_decide_eq_true h.1, of_decide_eq_true h.2⟩
def rangeD (xs : List D) (G : Hq) : Rs Src := match xs with
  | [.int j] => if small62 j then .ok (itR 0 1 j.toNat) G else .bad
  | [.int i, .int j] => if small62 i && small62 j then .ok (itR i 1 (j - i).toNat) G else .bad
  | [.int i, .int j, .int c] => if c ≠ 0 ∧ c.natAbs < 1073741824 ∧ Builtin.Range.small i j c = true ∧ 0 ≤ Builtin.Range.rangeSize i j c then .ok (itR i c (Builtin.Range.rangeSize i j c).toNat) G else .bad
  | _ => .bad
def srcC (g : List D → Hq → Rs Src) (a : AF) : IF := fun σ G => (a σ G).bind g
variable {tg a b c : Expr} {fr : AF} {pos p : Pos}
theorem src_read {g : List D → Hq → Rs Src} {σ : L2.St} {H : Hp} {R : It → Hp → Prop} (h : tI X W (srcC g fr) σ H R) : tA X W fr σ H fun vs H1 => ∃ m1 G1 xs, Sim X.K m1 G1 H1 ∧ VRs X.K m1 H1 xs vs ∧ PostR X.K X.mg (ItOk X.K) (W σ) m1 H1 (g xs G1) R := by
  obtain ⟨m, σ', G, S, Rr, q⟩ := h
  exact ⟨m, σ', G, S, Rr, (PostR.bnd (R := VRs X.K) q).imp fun v H1 ⟨m1, G1, d, e1, S1, r1, _, h1⟩ => ⟨m1, G1, d, S1, r1, h1⟩⟩
theorem tA_imp {σ : L2.St} {H : Hp} {Q Q' : List V → Hp → Prop} (h : tA X W fr σ H Q) (i : ∀ vs H1, Q vs H1 → Q' vs H1) : tA X W fr σ H Q' := by
  obtain ⟨m, σ', G, S, Rr, q⟩ := h
  exact ⟨m, σ', G, S, Rr, q.imp i⟩
theorem vrs_len1 {K : PySem.W.Frag} {m : List Addr} {H : Hp} {xs : List D} {j : Int} (h : VRs K m H xs [.int j]) : xs = [.int j] := by
  cases h with
  | cons a b => cases b; cases a; rfl
theorem xi_range1 (hm : X.mg "range" = none) (ha : PA X [a] (tA X W fr)) (hl : ALen fr 1) (hg : Gl X "range" := by rfl) (hs : starEach [a] X.env = [(false, eval a X.env)] := by rfl) : PI X tg (.Call (.Name "range" p) [a] [] pos) (tI X W (srcC rangeD fr)) := by
  refine ⟨fun pins s σ H R I h => (pi_range1 hg hm ha hs).run pins s σ H R I ?_⟩
  obtain ⟨m, σ', G, S, Rr, q⟩ := h
  refine ⟨m, σ', G, S, Rr, (PostR.bnd (R := VRs X.K) q).imp fun vs H1 ⟨m1, G1, xs, e1, S1, r1, er, h1⟩ => ?_⟩
  have len := hl _ _ _ _ er
  unfold rangeD at h1
  split at h1
  · split at h1
    · rename_i j hj
      obtain ⟨v, rfl, r⟩ := vrs_one r1
      cases r
      exact ⟨j, rfl, (small62_spec hj).1, (small62_spec hj).2, h1.here S1 itR_ok⟩
    · exact h1.elim
  · cases len
  · cases len
  · exact h1.elim
theorem xi_range2 (hm : X.mg "range" = none) (ha : PA X [a, b] (tA X W fr)) (hl : ALen fr 2) (hg : Gl X "range" := by rfl) (hs : starEach [a, b] X.env = [(false, eval a X.env), (false, eval b X.env)] := by rfl) (hs2 : starEach [b] X.env = [(false, eval b X.env)] := by rfl) : PI X tg (.Call (.Name "range" p) [a, b] [] pos) (tI X W (srcC rangeD fr)) := by
  refine ⟨fun pins s σ H R I h => (pi_range2 hg hm ha hs hs2).run pins s σ H R I ?_⟩
  obtain ⟨m, σ', G, S, Rr, q⟩ := h
  refine ⟨m, σ', G, S, Rr, (PostR.bnd (R := VRs X.K) q).imp fun vs H1 ⟨m1, G1, xs, e1, S1, r1, er, h1⟩ => ?_⟩
  have len := hl _ _ _ _ er
  unfold rangeD at h1
  split at h1
  · cases len
  · split at h1
    · rename_i i j hj
      rw [Bool.and_eq_true] at hj
      obtain ⟨v, w, rfl, r, r'⟩ := vrs_two r1
      cases r; cases r'
      exact ⟨i, j, rfl, ⟨(small62_spec hj.1).1, (small62_spec hj.1).2, (small62_spec hj.2).1, (small62_spec hj.2).2⟩, h1.here S1 itR_ok⟩
    · exact h1.elim
  · cases len
  · exact h1.elim
theorem xi_range3 (hm : X.mg "range" = none) (ha : PA X [a, b, c] (tA X W fr)) (hl : ALen fr 3) (hg : Gl X "range" := by rfl) (hs : starEach [a, b, c] X.env = (false, eval a X.env) :: starEach [b, c] X.env := by rfl) (hpl : (backTo pos (starEach [b, c] X.env)).any (·.1) = false := by rfl) : PI X tg (.Call (.Name "range" p) [a, b, c] [] pos) (tI X W (srcC rangeD fr)) := by
  refine ⟨fun pins s σ H R I h => (pi_range3 hg hm ha hs hpl).run pins s σ H R I ?_⟩
  obtain ⟨m, σ', G, S, Rr, q⟩ := h
  refine ⟨m, σ', G, S, Rr, (PostR.bnd (R := VRs X.K) q).imp fun vs H1 ⟨m1, G1, xs, e1, S1, r1, er, h1⟩ => ?_⟩
  have len := hl _ _ _ _ er
  unfold rangeD at h1
  split at h1
  · cases len
  · cases len
  · split at h1
    · rename_i i j k hj
      cases r1 with
      | cons r r1 =>
        obtain ⟨v, w, rfl, r', r2⟩ := vrs_two r1
        cases r; cases r'; cases r2
        exact ⟨i, j, k, _, rfl, ⟨hj.1, hj.2.1, hj.2.2.1, (Int.toNat_of_nonneg hj.2.2.2).symm⟩, h1.here S1 itC_ok⟩
    · exact h1.elim
  · exact h1.elim
end
end SX

set_option Elab.async false
set_option linter.all false
set_option maxRecDepth 100000
set_option maxHeartbeats 1000000
namespace SX
open PySem PySem.Spec PyProof.Rows L2

def truthD (d : D) (G : Hq) : Rs Bool := match d with
  | .non => .ok false G
  | .bl b => .ok b G
  | .int i => .ok (i != 0) G
  | .str y => if y.length ≤ 16777216 then .ok ((y.length : Int) != 0) G else .bad
  | .tup xs => .ok (!xs.isEmpty) G
  | .kt xs => .ok (!xs.isEmpty) G
  | .kl xs => .ok (!xs.isEmpty) G
  | .ref p => match G[p]? with
    | some (.lst xs) => .ok (!xs.isEmpty) G
    | some (.ro xs) => .ok (!xs.isEmpty) G
    | some (.dK kvs) => .ok (!kvs.isEmpty) G
    | _ => .bad
def truthT (a : EF) : TF := fun σ G => (a σ G).bind truthD
def notC (a : EF) : EF := fun σ G => (a σ G).bind fun x G1 => (truthD x G1).bind fun b G2 => .ok (.bl (!b)) G2
/-- x and y, x or y as values: the left one a bool -/
def andC (a b : EF) : EF := fun σ G => (a σ G).bind fun x G1 => match x with
  | .bl true => b σ G1
  | .bl false => .ok (.bl false) G1
  | _ => .bad
def orC (a b : EF) : EF := fun σ G => (a σ G).bind fun x G1 => match x with
  | .bl true => .ok (.bl true) G1
  | .bl false => b σ G1
  | _ => .bad
def isNonC (neg : Bool) (a : EF) : EF := fun σ G => (a σ G).bind (isNonD neg)
def parC (i j : Nat) (a : AF) : SF := fun σ G => onE (a σ G) σ fun ds G1 => match ds with
  | [x, y] => .nx ((σ.set i (some x)).set j (some y)) G1
  | _ => .bad
def par3C (i j l : Nat) (a : AF) : SF := fun σ G => onE (a σ G) σ fun ds G1 => match ds with
  | [x, y, z] => .nx (((σ.set i (some x)).set j (some y)).set l (some z)) G1
  | _ => .bad
section
variable {X : Cx} {W : L2.St → XW} {k : Nat} {e a b c : Expr} {es : List Expr} {fa fb : EF} {ta tb : TF} {fr : AF} {pos p : Pos}
theorem vrs_empty {K : PySem.W.Frag} {m : List Addr} {H : Hp} {xs : List D} {vs : List V} (h : VRs K m H xs vs) : xs.isEmpty = vs.isEmpty := by cases h <;> rfl
theorem vrk_empty {κ : Type} {K : PySem.W.Frag} {m : List Addr} {H : Hp} {xs : List (κ × D)} {vs : List (κ × V)} (h : VRk K m H xs vs) : xs.isEmpty = vs.isEmpty := by cases h <;> rfl
theorem tru_at {m : List Addr} {G G' : Hq} {H : Hp} {d : D} {v : V} {t : Bool} (S : Sim X.K m G H) (r : VR X.K m H d v) (h : truthD d G = .ok t G') : G' = G ∧ TruV X.K v H t := by
  cases r with
  | non => cases h; exact ⟨rfl, rfl⟩
  | bl b => cases h; exact ⟨rfl, rfl⟩
  | int i => cases h; exact ⟨rfl, rfl⟩
  | str x =>
    unfold truthD at h
    simp only at h
    split at h
    · rename_i hz; cases h; exact ⟨rfl, hz, rfl⟩
    · cases h
  | tup h1 h2 => cases h; exact ⟨rfl, .inr (.inl ⟨_, SqT.of h1, by rw [vrs_empty h2]⟩)⟩
  | kt h1 h2 => cases h; exact ⟨rfl, .inr (.inl ⟨_, h1, by rw [vrs_empty h2]⟩)⟩
  | kl h1 h2 => cases h; exact ⟨rfl, .inl ⟨_, .inr h1, by rw [vrs_empty h2]⟩⟩
  | ref ha =>
    unfold truthD at h
    simp only at h
    split at h
    · rename_i xs hg
      cases h
      obtain ⟨vs, h1, h2⟩ := S.cell _ _ _ ha hg
      exact ⟨rfl, .inl ⟨vs, SqL.of h1, by rw [vrs_empty h2]⟩⟩
    · rename_i xs hg
      cases h
      obtain ⟨vs, o, h1, h2⟩ := S.cell _ _ _ ha hg
      exact ⟨rfl, .inl ⟨vs, .inl (.inr ⟨o, h1⟩), by rw [vrs_empty h2]⟩⟩
    · rename_i xs hg
      cases h
      obtain ⟨vs, h1, h2⟩ := S.cell _ _ _ ha hg
      exact ⟨rfl, .inr (.inr ⟨vs, h1, by rw [vrk_empty h2]⟩)⟩
    · cases h
theorem truthD_ok {d : D} {G : Hq} {c : Str} {i : Nat} {G' : Hq} : truthD d G ≠ .ex c i G' := by
  intro h
  unfold truthD at h
  split at h <;> first
    | (cases h; done)
    | (split at h <;> cases h)
theorem xt_truth (ha : PE X a (tE X W fa)) (he : ∀ whole, isTrue a X.env whole = (do let v ← whole; standAt a.pos; holding [v] (truthy v)) := by intro _; rfl) : PT X a (tT X W (truthT fa)) := by
  refine ⟨fun pins s σ H Q I ⟨m, σ', G, S, R, q⟩ => (pt_truth ha he).run pins s σ H Q I ?_⟩
  refine ⟨m, σ', G, S, R, (PostR.bnd (R := VR X.K) q).imp fun v H1 ⟨m1, G1, x, e1, S1, r1, er, h1⟩ => ?_⟩
  cases et : truthD x G1 with
  | ok t G2 =>
    rw [et] at h1
    obtain ⟨rfl, tr⟩ := tru_at S1 r1 et
    exact ⟨t, tr, h1.here S1 rfl⟩
  | ex c i G2 => exact absurd et truthD_ok
  | bad => rw [et] at h1; exact h1.elim
theorem xe_not (ha : PE X a (tE X W fa)) : PE X (.UnaryOp .Not a pos) (tE X W (notC fa)) := by
  refine ⟨fun pins s σ H Q I ⟨m, σ', G, S, R, q⟩ => (pe_notT ha).run pins s σ H Q I ?_⟩
  refine ⟨m, σ', G, S, R, (PostR.bnd (R := VR X.K) q).imp fun v H1 ⟨m1, G1, x, e1, S1, r1, er, h1⟩ => ?_⟩
  cases et : truthD x G1 with
  | ok t G2 =>
    rw [et] at h1
    obtain ⟨rfl, tr⟩ := tru_at S1 r1 et
    exact ⟨t, tr, PostR.here h1 S1 (.bl (!t))⟩
  | ex c i G2 => exact absurd et truthD_ok
  | bad => rw [et] at h1; exact h1.elim
theorem xe_one {op} (h : PE X a (tE X W fa)) : PE X (.BoolOp op [a] pos) (tE X W fa) := pe_one h
theorem xe_and (ha : PE X a (tE X W fa)) (hb : PE X (.BoolOp .And (b :: es) pos) (tE X W fb)) : PE X (.BoolOp .And (a :: b :: es) pos) (tE X W (andC fa fb)) := by
  refine ⟨fun pins s σ H Q I ⟨m, σ', G, S, R, q⟩ => (pe_and ha hb).run pins s σ H Q I ?_⟩
  refine ⟨m, σ', G, S, R, (PostR.bnd (R := VR X.K) q).imp fun v H1 ⟨m1, G1, x, e1, S1, r1, er, h1⟩ => ?_⟩
  cases x with
  | bl t =>
    cases r1
    cases t with
    | true => exact ⟨true, rfl, iteT ⟨m1, σ', G1, S1, R.mono e1, h1⟩⟩
    | false => exact ⟨false, rfl, iteF (PostR.here h1 S1 (.bl false))⟩
  | _ => exact h1.elim
theorem xe_or (ha : PE X a (tE X W fa)) (hb : PE X (.BoolOp .Or (b :: es) pos) (tE X W fb)) : PE X (.BoolOp .Or (a :: b :: es) pos) (tE X W (orC fa fb)) := by
  refine ⟨fun pins s σ H Q I ⟨m, σ', G, S, R, q⟩ => (pe_or ha hb).run pins s σ H Q I ?_⟩
  refine ⟨m, σ', G, S, R, (PostR.bnd (R := VR X.K) q).imp fun v H1 ⟨m1, G1, x, e1, S1, r1, er, h1⟩ => ?_⟩
  cases x with
  | bl t =>
    cases r1
    cases t with
    | true => exact ⟨true, rfl, iteT (PostR.here h1 S1 (.bl true))⟩
    | false => exact ⟨false, rfl, iteF ⟨m1, σ', G1, S1, R.mono e1, h1⟩⟩
  | _ => exact h1.elim
theorem non_vr {m : List Addr} {H : Hp} {d : D} {v : V} (r : VR X.K m H d v) : decide (v = V.non) = (match d with | .non => true | _ => false) := by
  cases r <;> simp
theorem xe_isN {j pos'} (ha : PE X a (tE X W fa)) : PE X (.Compare a [.Is] [.Constant .none j pos'] pos) (tE X W (isNonC false fa)) := by
  refine ⟨fun pins s σ H Q I ⟨m, σ', G, S, R, q⟩ => (pe_cmp (pc_isN ha)).run pins s σ H Q I ?_⟩
  refine ⟨m, σ', G, S, R, (PostR.bnd (R := VR X.K) q).imp fun v H1 ⟨m1, G1, x, e1, S1, r1, er, h1⟩ => ?_⟩
  rw [non_vr r1]
  refine PostR.here h1 S1 ?_
  cases x <;> exact .bl _
theorem xe_notN {j pos'} (ha : PE X a (tE X W fa)) : PE X (.Compare a [.IsNot] [.Constant .none j pos'] pos) (tE X W (isNonC true fa)) := by
  refine ⟨fun pins s σ H Q I ⟨m, σ', G, S, R, q⟩ => (pe_cmp (pc_notN ha)).run pins s σ H Q I ?_⟩
  refine ⟨m, σ', G, S, R, (PostR.bnd (R := VR X.K) q).imp fun v H1 ⟨m1, G1, x, e1, S1, r1, er, h1⟩ => ?_⟩
  rw [non_vr r1]
  refine PostR.here h1 S1 ?_
  cases x <;> exact .bl _
theorem xt_isN {j pos'} (ha : PE X a (tE X W fa)) : PT X (.Compare a [.Is] [.Constant .none j pos'] pos) (tT X W (valT (isNonC false fa))) := by
  refine xt_cmp (xe_isN ha) ⟨fun pins s σ H Q I ⟨m, σ', G, S, R, q⟩ => (pc_isN ha).run pins s σ H Q I ?_⟩ (nobehind _ (by decide) (by decide))
  refine ⟨m, σ', G, S, R, (PostR.bnd (R := VR X.K) q).imp fun v H1 ⟨m1, G1, x, e1, S1, r1, er, h1⟩ => ?_⟩
  rw [non_vr r1]
  refine PostR.here h1 S1 ?_
  cases x <;> exact .bl _
theorem xt_notN {j pos'} (ha : PE X a (tE X W fa)) : PT X (.Compare a [.IsNot] [.Constant .none j pos'] pos) (tT X W (valT (isNonC true fa))) := by
  refine xt_cmp (xe_notN ha) ⟨fun pins s σ H Q I ⟨m, σ', G, S, R, q⟩ => (pc_notN ha).run pins s σ H Q I ?_⟩ (nobehind _ (by decide) (by decide))
  refine ⟨m, σ', G, S, R, (PostR.bnd (R := VR X.K) q).imp fun v H1 ⟨m1, G1, x, e1, S1, r1, er, h1⟩ => ?_⟩
  rw [non_vr r1]
  refine PostR.here h1 S1 ?_
  cases x <;> exact .bl _
theorem xs_par (i j : Nat) {x y : Str} {px py pt : Pos} {kt k2 : Nat} {pt2 : Pos} (hc : X.calm = true) (hN : X.N.Nodup) (ha : PA X [a, b] (tA X W fr)) (hi : X.N[i]? = some x := by rfl) (hj : X.N[j]? = some y := by rfl) (hij : i ≠ j := by decide)
    (hx : X.env.scope.names.lookup x = some .local := by rfl) (hy : X.env.scope.names.lookup y = some .local := by rfl)
    (hw : swappedStores [.Tuple [.Name x px, .Name y py] kt pt] (.Tuple [a, b] k2 pt2) X.env = pure (some [x, y]) := by rfl)
    (hs : swapsWithSole [.Tuple [.Name x px, .Name y py] kt pt] (.Tuple [a, b] k2 pt2) pos.line X.env = pure false := by rfl) :
    PS X (.Assign [.Tuple [.Name x px, .Name y py] kt pt] (.Tuple [a, b] k2 pt2) pos) (tS X W (parC i j fr)) := by
  refine ⟨fun pins s σ H Dd I ⟨m, σ', G, S, R, q⟩ => (ps_par (i := i) (j := j) hc hN hi hj hij hx hy ha hw hs).run pins s σ H Dd I ?_⟩
  refine ⟨m, σ', G, S, R, (PostS.bnd (R := VRs X.K) R q).imp fun vs H1 ⟨m1, G1, ds, e1, S1, r1, er, h1⟩ => ?_⟩
  split at h1
  · obtain ⟨v, w, rfl, rv, rw_⟩ := vrs_two r1
    exact ⟨v, w, rfl, h1 m1 H1 _ .refl S1 (((R.mono e1).put i rv).put j rw_)⟩
  · exact h1.elim
theorem xs_par3 (i j l : Nat) {x y z : Str} {px py pz pt : Pos} {kt k2 : Nat} {pt2 : Pos} (hc : X.calm = true) (hN : X.N.Nodup) (ha : PA X [a, b, c] (tA X W fr)) (hi : X.N[i]? = some x := by rfl) (hj : X.N[j]? = some y := by rfl) (hl : X.N[l]? = some z := by rfl) (hij : i ≠ j := by decide) (hil : i ≠ l := by decide) (hjl : j ≠ l := by decide)
    (hx : X.env.scope.names.lookup x = some .local := by rfl) (hy : X.env.scope.names.lookup y = some .local := by rfl) (hz : X.env.scope.names.lookup z = some .local := by rfl)
    (hw : swappedStores [.Tuple [.Name x px, .Name y py, .Name z pz] kt pt] (.Tuple [a, b, c] k2 pt2) X.env = pure (some [x, y, z]) := by rfl)
    (hs : swapsWithSole [.Tuple [.Name x px, .Name y py, .Name z pz] kt pt] (.Tuple [a, b, c] k2 pt2) pos.line X.env = pure false := by rfl) :
    PS X (.Assign [.Tuple [.Name x px, .Name y py, .Name z pz] kt pt] (.Tuple [a, b, c] k2 pt2) pos) (tS X W (par3C i j l fr)) := by
  refine ⟨fun pins s σ H Dd I ⟨m, σ', G, S, R, q⟩ => (ps_par3 (i := i) (j := j) (l := l) hc hN hi hj hl hij hil hjl hx hy hz ha hw hs).run pins s σ H Dd I ?_⟩
  refine ⟨m, σ', G, S, R, (PostS.bnd (R := VRs X.K) R q).imp fun vs H1 ⟨m1, G1, ds, e1, S1, r1, er, h1⟩ => ?_⟩
  split at h1
  · cases r1 with
    | cons ru r1 =>
      obtain ⟨v, w, rfl, rv, rw_⟩ := vrs_two r1
      exact ⟨_, v, w, rfl, h1 m1 H1 _ .refl S1 ((((R.mono e1).put i ru).put j rv).put l rw_)⟩
  · exact h1.elim
/-! ### dicts -/
def newDK : EF := fun _ G => .ok (.ref G.length) (G ++ [.dK []])
def newDT : EF := fun _ G => .ok (.ref G.length) (G ++ [.dT []])
theorem xe_newDK : PE X (.Dict [] [] pos) (tE X W newDK) := ⟨fun pins s σ H Q I ⟨m, σ', G, S, R, q⟩ => pe_dnewK.run pins s σ H Q I fun pp hp =>
  q (m ++ [pp]) _ (.ref pp) (xt_push hp) (S.push hp ⟨[], upd_same, .nil⟩) (.ref (by rw [← S.len]; simp))⟩
theorem xe_newDT : PE X (.Dict [] [] pos) (tE X W newDT) := ⟨fun pins s σ H Q I ⟨m, σ', G, S, R, q⟩ => pe_dnewT.run pins s σ H Q I fun pp hp =>
  q (m ++ [pp]) _ (.ref pp) (xt_push hp) (S.push hp ⟨[], upd_same, .nil⟩) (.ref (by rw [← S.len]; simp))⟩
/-- d.get(k, x) -/
def get2C (o y x : EF) : EF := fun σ G => (o σ G).bind fun d G1 => if isD G1 d then (y σ G1).bind fun ky G2 => (x σ G2).bind fun z G3 => match d with
  | .ref p => match (G3[p]?).bind fun c => dictGet c ky with
    | some ov => .ok (ov.getD z) G3
    | none => .bad
  | _ => .bad else .bad
theorem isD_at' {m : List Addr} {G : Hq} {H : Hp} {d : D} {v : V} (S : Sim X.K m G H) (r : VR X.K m H d v) (h : isD G d = true) : ∃ a, v = .ref a ∧ IsD H a := by
  unfold isD at h
  split at h
  · rename_i p
    cases r with
    | ref ha =>
      split at h
      · rename_i kvs hg
        obtain ⟨vs, h1, _⟩ := S.cell p _ _ ha hg
        exact ⟨_, rfl, .inl ⟨vs, .inl h1⟩⟩
      · rename_i kvs hg
        obtain ⟨vs, h1, _⟩ := S.cell p _ _ ha hg
        exact ⟨_, rfl, .inr ⟨vs, .inl h1⟩⟩
      · cases h
  · cases h
theorem xe_get2 {o y x : Expr} {fo fy fx : EF} {apos cpos : Pos} (C : Ctx X W k) (ho : PE X o (tE X W fo)) (hy : PE X y (tE X W fy)) (hx : PE X x (tE X W fx)) (M : M2 X o "get" apos y x cpos) : PE X (.Call (.Attribute o "get" apos) [y, x] [] cpos) (tE X W (get2C fo fy fx)) := by
  have hu : X.A.units + 1 < cLine := by have := C.room.units; omega
  refine ⟨fun pins s σ H Q I ⟨m, σ', G, S, R, q⟩ => (pe_dget2 hu ho hy hx M).run pins s σ H Q I ?_⟩
  refine ⟨m, σ', G, S, R, (PostR.bnd (R := VR X.K) q).imp fun v H1 ⟨m1, G1, d, e1, S1, r1, _, h1⟩ => ?_⟩
  cases hk : isD G1 d with
  | false => simp only [hk] at h1; exact h1.elim
  | true =>
    simp only [hk, if_true] at h1
    obtain ⟨a, rfl, hd⟩ := isD_at' S1 r1 hk
    refine ⟨a, rfl, hd, m1, σ', G1, S1, R.mono e1, (PostR.bnd (R := VR X.K) h1).imp fun w H2 ⟨m2, G2, ky, e2, S2, r2, _, h2⟩ => ?_⟩
    refine ⟨m2, σ', G2, S2, (R.mono e1).mono e2, (PostR.bnd (R := VR X.K) h2).imp fun z H3 ⟨m3, G3, dz, e3, S3, r3, _, h3⟩ => ?_⟩
    split at h3
    · rename_i p
      split at h3
      · rename_i ov ho
        obtain ⟨c, hc, hg⟩ := Option.bind_eq_some_iff.mp ho
        obtain ⟨a', o', ha', hget, hv⟩ := dict_at S3 hc (r2.mono e3) hg
        cases r1 with
        | ref ha =>
          have := (e2.trans e3).at ha
          rw [ha'] at this
          cases this
          refine ⟨o', hget, ?_⟩
          rcases hv with ⟨rfl, rfl⟩ | ⟨d, v, rfl, rfl, rv⟩
          · exact h3.here S3 r3
          · exact h3.here S3 rv
      · exact h3.elim
    · exact h3.elim
/-! ### a walk over a dict's keys -/
def itK (kvs : List (Key × D)) : Src := fun k _ => match kvs[k]? with
  | some (y, _) => .item (ofKey y)
  | none => .stop
/-- the dict at p is locked while f runs -/
def unlockC (p : Nat) (c : C) (r : Sr) : Sr := match r with
  | .nx σ G => .nx σ (G.set p c)
  | .rt d G => .rt d (G.set p c)
  | .bk σ G => .bk σ (G.set p c)
  | .ct σ G => .ct σ (G.set p c)
  | _ => .bad
noncomputable def forKeysC (i : Nat) (g : GF) (b : SF) : SF := fun σ G => match σ[i]? with
  | some (some (.ref p)) => match G[p]? with
    | some (.dK kvs) => unlockC p (.dK kvs) (forL (itK kvs) g b 0 σ (G.set p (.lk kvs)))
    | _ => .bad
  | _ => .bad
theorem vrk_get {κ : Type} {K : PySem.W.Frag} {m : List Addr} {H : Hp} : ∀ {d : List (κ × D)} {v : List (κ × V)} {i : Nat} {x : κ × D}, VRk K m H d v → d[i]? = some x → ∃ w, v[i]? = some (x.1, w) ∧ VR K m H x.2 w
  | _, _, _, _, .nil, h => by simp at h
  | _, _, 0, _, .cons r _, h => by simp at h; subst h; exact ⟨_, rfl, r⟩
  | _, _, i + 1, _, .cons _ t, h => by
    obtain ⟨w, a, b⟩ := vrk_get (i := i) t (by simpa using h)
    exact ⟨w, by simpa using a, b⟩
theorem itK_ok {K : PySem.W.Frag} {m0 : List Addr} {H0 : Hp} {kvs : List (Key × D)} {vs : List (Key × V)} {a : Addr} {o : Obj} (hk : kvs.map (·.1) = vs.map (·.1)) (hfz : H0 a = some (.frz o (.dK vs))) : ItOk K m0 H0 (itK kvs) (Itk a o vs) := by
  intro k m G H x S
  have h1 := x.frz _ _ _ hfz
  unfold itK
  have hl : kvs.length = vs.length := by simpa using congrArg List.length hk
  cases hd : kvs[k]? with
  | some e =>
    obtain ⟨y, d⟩ := e
    have hi : k < kvs.length := (List.getElem?_eq_some_iff.mp hd).1
    refine ⟨⟨h1, by omega⟩, fun w H' hy => ?_⟩
    obtain ⟨rfl, ky, v, hv, rfl⟩ := hy
    have e1 : (kvs.map (·.1))[k]? = some y := by rw [List.getElem?_map, hd]; rfl
    rw [hk, List.getElem?_map, hv] at e1
    cases e1
    exact ⟨.refl, S, ofKey_vr _⟩
  | none => exact ⟨h1, by have := List.getElem?_eq_none_iff.mp hd; omega⟩
/-- a cell's object is exchanged for one that holds the same (locking, unlocking) -/
theorem xw_swap {K : PySem.W.Frag} {m : List Addr} {H : Hp} {a : Addr} {u : HO} (nt : ∀ xs, ¬ Rd H a (.tup xs)) : Xw K m H m (upd H a u) := by
  refine ⟨⟨[], by simp⟩, fun b xs q => ?_, fun b xs q => ?_⟩
  · rw [upd_ne (fun e => nt xs (by rw [← e]; exact .inl q))]; exact q
  · rcases q with q | q
    · have ne : b ≠ a := fun e => nt xs (by rw [← e]; exact q)
      rcases q with q | ⟨ob, q⟩
      · exact .inl (.inl (by rw [upd_ne ne]; exact q))
      · exact .inl (.inr ⟨ob, by rw [upd_ne ne]; exact q⟩)
    · exact .inr q
theorem Sim.swap {K : PySem.W.Frag} {m : List Addr} {G : Hq} {H : Hp} {i : Nat} {a : Addr} {u : HO} {c : C} (S : Sim K m G H) (hi : m[i]? = some a) (nt : ∀ xs, ¬ Rd H a (.tup xs)) (hc : CR K m (upd H a u) a c) : Sim K m (G.set i c) (upd H a u) := by
  have x : Xw K m H m (upd H a u) := xw_swap nt
  refine ⟨by rw [List.length_set]; exact S.len, S.inj, fun j b c' h1 h2 => ?_, fun j b h => ?_⟩
  · by_cases hb : j = i
    · subst hb
      rw [hi] at h1; cases h1
      have hl : j < G.length := by
        obtain ⟨q, _⟩ := List.getElem?_eq_some_iff.mp h2
        rw [List.length_set] at q; exact q
      rw [List.getElem?_set_self hl] at h2
      cases h2
      exact hc
    · rw [List.getElem?_set_ne (Ne.symm hb)] at h2
      exact (S.cell j b c' h1 h2).stayW x (upd_ne fun e => hb (S.inj j i a (e ▸ h1) hi))
  · by_cases hb : b = a
    · subst hb; rw [upd_same]; rfl
    · rw [upd_ne hb]; exact S.trk j b h
/-- what a locked loop's end means behind the unlocking -/
theorem xs_forKeys {tg : Expr} {x : Str} {ip : Pos} {body : List Stmt} {gf : GF} {fbd : SF} (i : Nat) (C : Ctx X W k) (hg : PG X tg (tG X gf)) (hb : PSs X body (tS X (fun _ => W0) fbd)) (hN : X.N[i]? = some x := by rfl) (hv : Vis X.env.scope x := by first | exact Or.inl rfl | exact Or.inr (Or.inl rfl) | exact Or.inr (Or.inr rfl))
    (hd : (x == ("__debug__" : Str)) = false := by decide) (hcd : (x == ("__classdict__" : Str)) = false := by decide) (hs : ∀ y, foldedSetIterable (.Name x ip) X.env y = pure y := by intro _; rfl) : PS X (.For tg (.Name x ip) body [] pos) (tS X W (forKeysC i gf fbd)) := by
  have pvar : PE X (.Name x ip) (tVar i) := pe_var hN hv hd hcd
  have pf := ps_for (pos := pos) C.hp C.calm (pi_keys (tg := tg) pvar) hg hb hs
  refine ⟨fun pins s σ H Dd I ⟨m, σ', G, S, R, q⟩ => (ps_lock pf).run pins s σ H Dd I ?_⟩
  unfold forKeysC at q
  split at q
  · rename_i p hp
    split at q
    · rename_i kvs hg'
      obtain ⟨v, ev, rv⟩ := R.get hp
      cases rv with
      | @ref _ a ha =>
        obtain ⟨vs, h1, h2⟩ := S.cell p a _ ha hg'
        have mu : Mut (H a) := by rw [h1]; trivial
        refine ⟨a, .dK vs, h1, trivial, fun od => ?_⟩
        have x0 : Xt X.K m H m (upd H a (.frz od (.dK vs))) := xt_wr mu
        have S0 : Sim X.K m (G.set p (.lk kvs)) (upd H a (.frz od (.dK vs))) := S.wr ha mu ⟨vs, od, upd_same, h2.mono x0⟩
        refine ⟨.ref a, ev, a, od, rfl, .inl ⟨vs, upd_same, ?_⟩⟩
        -- the loop
        have nb : forL (itK kvs) gf fbd 0 σ' (G.set p (.lk kvs)) ≠ .bad := fun z => by rw [z] at q; exact q
        obtain ⟨n, hn⟩ := lim_ex nb
        have hn' : forN (itK kvs) gf fbd n 0 σ' (G.set p (.lk kvs)) = forL (itK kvs) gf fbd 0 σ' (G.set p (.lk kvs)) := hn
        rw [← hn'] at q
        generalize hD : (Ends.mk _ _ _ _ : Ends) = D2
        -- what is wanted of the loop's end, locked
        have post : ∀ r : Sr, PostS X.K X.mg W m H (unlockC p (.dK kvs) r) Dd → PostS X.K X.mg (fun _ => W0) m (upd H a (.frz od (.dK vs))) r D2 := by
          intro r h
          have back : ∀ {m' : List Addr} {H' : Hp} {G' : Hq}, Xt X.K m (upd H a (.frz od (.dK vs))) m' H' → Sim X.K m' G' H' → H' a = some (.frz od (.dK vs)) ∧ Xt X.K m H m' (upd H' a (.dK vs)) ∧ (∀ d v, VR X.K m' H' d v → VR X.K m' (upd H' a (.dK vs)) d v) ∧ Sim X.K m' (G'.set p (.dK kvs)) (upd H' a (.dK vs)) := by
            intro m' H' G' xx S'
            have hf := xx.frz _ _ _ (upd_same (H := H) (a := a) (o := .frz od (.dK vs)))
            have nt : ∀ xs, ¬ Rd H' a (.tup xs) := fun xs z => by
              rcases z with z | ⟨o, z⟩ <;> · rw [hf] at z; cases z
            have xw : Xw X.K m' H' m' (upd H' a (.dK vs)) := xw_swap nt
            refine ⟨hf, ⟨⟨(x0.trans xx).pre, fun b xs z => xw.tup b xs ((x0.trans xx).tup b xs z), fun b xs z => xw.seq b xs ((x0.trans xx).seq b xs z)⟩, fun b o u z => ?_⟩, fun d v r => r.monoW xw, S'.swap (xx.at ha) nt ⟨vs, upd_same, ?_⟩⟩
            · have ne : b ≠ a := fun e => by rw [e, h1] at z; cases z
              rw [upd_ne ne]
              exact (x0.trans xx).frz b o u z
            · exact ((h2.mono x0).mono xx).monoW xw
          have srm : ∀ {m' : List Addr} {H' H2 : Hp} {σ1 : Eq'} {s1 : L2.St}, (∀ d v, VR X.K m' H' d v → VR X.K m' H2 d v) → SR X.K m' H' σ1 s1 → SR X.K m' H2 σ1 s1 := fun f r => ⟨r.1, fun i d z => let ⟨v, a, b⟩ := r.2 i d z; ⟨v, a, f _ _ b⟩⟩
          subst hD
          cases r with
          | nx σ1 G1 => intro m' H' s1 xx S' R'; obtain ⟨b1, b2, b3, b4⟩ := back xx S'; exact ⟨b1, h m' _ s1 b2 b4 (srm b3 R')⟩
          | rt d G1 => intro m' H' v1 xx S' R'; obtain ⟨b1, b2, b3, b4⟩ := back xx S'; exact ⟨b1, h m' _ v1 b2 b4 (b3 _ _ R')⟩
          | bk σ1 G1 => intro m' H' s1 xx S' R'; obtain ⟨b1, b2, b3, b4⟩ := back xx S'; exact ⟨b1, h m' _ s1 b2 b4 (srm b3 R')⟩
          | ct σ1 G1 => intro m' H' s1 xx S' R'; obtain ⟨b1, b2, b3, b4⟩ := back xx S'; exact ⟨b1, h m' _ s1 b2 b4 (srm b3 R')⟩
          | ex c j σ1 G1 => exact h.elim
          | bad => exact h.elim
        have q1 := post _ q
        have it0 : ItOk X.K m (upd H a (.frz od (.dK vs))) (itK kvs) (Itk a od vs) := itK_ok (vrk_keys h2) upd_same
        refine ⟨fun j n σ H1 => ∃ m1 σ1 G1, Xt X.K m (upd H a (.frz od (.dK vs))) m1 H1 ∧ Sim X.K m1 G1 H1 ∧ SR X.K m1 H1 σ1 σ ∧ PostS X.K X.mg (fun _ => W0) m1 H1 (forN (itK kvs) gf fbd n j σ1 G1) D2, ⟨n, m, σ', _, .refl, S0, R.mono x0, q1⟩, ?_⟩
        rintro j n σ2 H2 ⟨m2, σ2', G2, x2, S2, R2, q2⟩
        cases n with
        | zero => exact q2.elim
        | succ n =>
          have it := it0 j m2 G2 H2 x2 S2
          rw [forN_s] at q2
          cases es : itK kvs j G2 with
          | bad => rw [es] at q2; exact q2.elim
          | stop => rw [es] at q2 it; exact .inl ⟨it, q2 m2 H2 σ2 .refl S2 R2⟩
          | item d =>
            rw [es] at q2 it
            obtain ⟨go, yl⟩ := it
            refine .inr ⟨go, fun σ3 H3 => ∃ m1 σ1 G1, Xt X.K m (upd H a (.frz od (.dK vs))) m1 H3 ∧ Sim X.K m1 G1 H3 ∧ SR X.K m1 H3 σ1 σ3 ∧ PostS X.K X.mg (fun _ => W0) m1 H3 (forN (itK kvs) gf fbd n (j + 1) σ1 G1) D2, fun σ3 H3 z => ⟨n, by omega, z⟩, fun v H3 hy => ?_⟩
            obtain ⟨x3, S3, r3⟩ := yl v H3 hy
            refine ⟨m2, σ2', G2, d, S3, R2.mono x3, r3, ?_⟩
            simp only at q2
            cases eg : gf d σ2' G2 with
            | ok σ4 G4 =>
              rw [eg] at q2
              simp only [onG_ok] at q2
              intro m4 H4 s4 x4 S4 R4
              refine ⟨m4, σ4, G4, S4, R4, ?_⟩
              have xx := (x2.trans x3).trans x4
              have q4 := PostS.shift (r := (fbd σ4 G4).turn (forN (itK kvs) gf fbd n (j + 1))) q2 (x3.trans x4)
              cases eb : fbd σ4 G4 with
              | nx σ5 G5 => rw [eb] at q4; exact fun m5 H5 s5 x5 S5 R5 => ⟨m5, σ5, G5, xx.trans x5, S5, R5, PostS.shift (r := forN (itK kvs) gf fbd n (j + 1) σ5 G5) q4 x5⟩
              | ct σ5 G5 => rw [eb] at q4; exact fun m5 H5 s5 x5 S5 R5 => ⟨m5, σ5, G5, xx.trans x5, S5, R5, PostS.shift (r := forN (itK kvs) gf fbd n (j + 1) σ5 G5) q4 x5⟩
              | bk σ5 G5 => rw [eb] at q4; exact q4
              | rt d5 G5 => rw [eb] at q4; exact q4
              | ex c i σ5 G5 => rw [eb] at q4; exact q4
              | bad => rw [eb] at q4; exact q4.elim
            | ex c i G4 => rw [eg] at q2; exact q2.elim
            | bad => rw [eg] at q2; exact q2.elim
    · exact q.elim
  · exact q.elim
/-! ### sorted(d) of a dict whose keys are ints -/
def intKeys : List (Key × D) → Option (List Int)
  | [] => some []
  | (.inl i, _) :: r => (intKeys r).map (i :: ·)
  | _ => none
theorem intKeys_eq : ∀ {kvs : List (Key × D)} {ns : List Int}, intKeys kvs = some ns → kvs.map (·.1) = ns.map Sum.inl
  | [], ns, h => by cases h; rfl
  | (.inl i, d) :: r, ns, h => by
    simp only [intKeys, Option.map_eq_some_iff] at h
    obtain ⟨ms, hm, rfl⟩ := h
    rw [List.map_cons, List.map_cons, intKeys_eq hm]
  | (.inr _, _) :: _, _, h => by cases h
def sortedKD (xs : List D) (G : Hq) : Rs D := match xs with
  | [.ref p] => match G[p]? with
    | some (.dK kvs) => match intKeys kvs with
      | some ns => if ns.length < 64 then .ok (.ref G.length) (G ++ [.lst ((sortI ns).map D.int)]) else .bad
      | none => .bad
    | _ => sortedD xs G
  | _ => sortedD xs G
theorem f_sortedK (C : Ctx X W k) : CallF X (.builtin "sorted") sortedKD := by
  intro pins s σ m G H xs vs us Q Wx I S rx ru q
  unfold sortedKD at q
  split at q
  · split at q
    · rename_i p kvs hg
      split at q
      · rename_i ns hi
        split at q
        · rename_i h64
          obtain ⟨v, rfl, r⟩ := vrs_one rx
          cases r with
          | ref ha =>
            obtain ⟨ws, h1, h2⟩ := S.cell _ _ _ ha hg
            refine call_sortedDI C.calm pins s σ H _ us Q I ru ⟨_, ws, ns, rfl, .inl h1, by rw [← vrk_keys h2, intKeys_eq hi], h64, fun ys p hp hu hn => ?_⟩
            have e : ys = sortI ns := PySem.W.ksm_same (hp.trans (sortI_perm ns).symm) hu (sortI_up ns)
            subst e
            exact lst_new S (ints_vrs _) q hn
        · exact q.elim
      · exact q.elim
    · exact f_sorted pins s σ m G H _ vs us Q Wx I S rx ru q
  · exact f_sorted pins s σ m G H _ vs us Q Wx I S rx ru q
end
end SX

set_option Elab.async false
set_option linter.all false
set_option maxRecDepth 100000
set_option maxHeartbeats 1000000
namespace SX
open PySem PySem.Spec PyProof.Rows L2

noncomputable def lc2Turn (g : GF) (t : TF) (i1 : IF) (g1 : GF) (t1 : TF) (e : EF) (σ0 : Eq') (vs1 : List Nat) (p : Nat) (d : D) (G : Hq) : Cr := match g d σ0 G with
  | .ok σ1 G1 => match t σ1 G1 with
    | .ok true G2 => match i1 σ1 G2 with
      | .ok s1 G3 => lcL s1 (lcTurn g1 t1 e (wipeD σ1 vs1) p) 0 G3
      | _ => none
    | .ok false G2 => some G2
    | _ => none
  | _ => none
noncomputable def lc2C (i : IF) (g : GF) (t : TF) (i1 : IF) (g1 : GF) (t1 : TF) (e : EF) (vs vs1 : List Nat) : EF := fun σ G => (i σ G).bind fun s G1 =>
  ofCr (lcL s (lc2Turn g t i1 g1 t1 e (wipeD σ vs) vs1 G1.length) 0 (G1 ++ [.lst []])) (.ref G1.length)
section
variable {X : Cx} {W : L2.St → XW} {elt tg iter tg1 iter1 : Expr} {ifs ifs1 : List Expr} {fi fi1 : IF} {gf gf1 : GF} {tf tf1 : TF} {ef : EF} {scope : Scope} {own : List (Str × Nat)} {vs1 : List Nat} {pos : Pos}
/-- one turn of the innermost clause, over HandS' reading -/
theorem turn_read {m5 : List Addr} {G3 Gt : Hq} {H4 : Hp} {σ0 : Eq'} {s0 : L2.St} {vs : List Nat} {p : Nat} {a : Addr} {d : D} {v : V} {Nx : Hp → Prop} {w0 : L2.St} (S4 : Sim X.K m5 G3 H4) (R4 : SR X.K m5 H4 σ0 s0) (r4 : VR X.K m5 H4 d v) (ha : m5[p]? = some a) (et : lcTurn gf tf ef σ0 p d G3 = some Gt) (hw : wipe s0 vs = wipe w0 vs)
    (hN : ∀ m G H, Xt X.K m5 H4 m H → Sim X.K m G H → G = Gt → Nx H) :
    tGw X vs gf v s0 H4 fun σ2 H2 => wipe σ2 vs = wipe w0 vs ∧ tT X (fun _ => W0) tf σ2 H2 fun b H3 => if b = true then tE X (fun _ => W0) ef σ2 H3 fun y H7 => ∃ acc, H7 a = some (.lst acc) ∧ acc.length < sizeLine ∧ Nx (upd H7 a (.lst (acc ++ [y]))) else Nx H3 := by
  unfold lcTurn at et
  refine ⟨m5, σ0, G3, d, S4, R4, r4, ?_⟩
  cases eg : gf d σ0 G3 with
  | ok σ5 G5 =>
    rw [eg] at et
    simp only at et
    intro m6 H5 s5 x5 S5 ⟨R5, w5⟩
    refine ⟨w5.trans hw, m6, σ5, G5, S5, R5, ?_⟩
    cases eb : tf σ5 G5 with
    | ok b G6 =>
      rw [eb] at et
      intro m7 H6 b6 x6 S6 r6
      cases r6
      cases b with
      | false => cases et; exact iteF (hN _ _ _ (x5.trans x6) S6 rfl)
      | true =>
        simp only at et
        refine iteT ⟨m7, σ5, G6, S6, R5.mono x6, ?_⟩
        cases ee : ef σ5 G6 with
        | ok y G7 =>
          rw [ee] at et
          intro m8 H7 y7 x7 S7 r7
          have xx := (x5.trans x6).trans x7
          obtain ⟨acc, h71, h72, S8, x8⟩ := app_sim S7 (xx.at ha) r7 et
          exact ⟨acc, h71, h72, hN _ _ _ (xx.trans x8) S8 rfl⟩
        | ex _ _ _ => rw [ee] at et; cases et
        | bad => rw [ee] at et; cases et
    | ex _ _ _ => rw [eb] at et; cases et
    | bad => rw [eb] at et; cases et
  | ex _ _ _ => rw [eg] at et; cases et
  | bad => rw [eg] at et; cases et
theorem lc2_read {σ : L2.St} {H : Hp} {Q : VK} {vs : List Nat} (h : tE X W (lc2C fi gf tf fi1 gf1 tf1 ef vs vs1) σ H Q) :
    tLc2 (tI X W fi) (tGw X vs gf) (tT X (fun _ => W0) tf) (tI X (fun _ => W0) fi1) (tGw X vs1 gf1) (tT X (fun _ => W0) tf1) (tE X (fun _ => W0) ef) vs vs1 σ H Q := by
  obtain ⟨m, σ', G, S, R, q⟩ := h
  refine ⟨m, σ', G, S, R, (PostR.bnd (R := ItOk X.K) q).imp fun J H1 ⟨m1, G1, src, x1, S1, it, _, q1⟩ => fun a hD => ?_⟩
  cases el : lcL src (lc2Turn gf tf fi1 gf1 tf1 ef (wipeD σ' vs) vs1 G1.length) 0 (G1 ++ [.lst []]) with
  | none => rw [el] at q1; exact q1.elim
  | some Gz =>
    rw [el] at q1
    obtain ⟨n, hn⟩ := lcL_pos el
    have x2 : Xt X.K m1 H1 (m1 ++ [a]) (upd H1 a (.lst [])) := xt_push hD
    have S2 : Sim X.K (m1 ++ [a]) (G1 ++ [.lst []]) (upd H1 a (.lst [])) := S1.push hD ⟨[], upd_same, .nil⟩
    have ha : (m1 ++ [a])[G1.length]? = some a := by rw [← S1.len]; simp
    refine ⟨fun k n H => ∃ m G, Xt X.K (m1 ++ [a]) (upd H1 a (.lst [])) m H ∧ Sim X.K m G H ∧ lcN src (lc2Turn gf tf fi1 gf1 tf1 ef (wipeD σ' vs) vs1 G1.length) n k G = some Gz, ⟨n, _, _, .refl, S2, hn⟩, ?_⟩
    rintro k n H3 ⟨m3, G3, x3, S3, h3⟩
    have ha3 := x3.at ha
    cases n with
    | zero => cases h3
    | succ n =>
      rw [lcN_s] at h3
      have itk := it k m3 G3 H3 (x2.trans x3) S3
      cases es : src k G3 with
      | bad => rw [es] at h3; cases h3
      | stop =>
        rw [es] at h3 itk
        cases h3
        exact .inl ⟨itk, q1 m3 H3 _ (x2.trans x3) S3 (.ref ha3)⟩
      | item d =>
        rw [es] at h3 itk
        simp only at h3
        obtain ⟨go, yl⟩ := itk
        refine .inr ⟨go, fun H4 => ∃ m G, Xt X.K (m1 ++ [a]) (upd H1 a (.lst [])) m H4 ∧ Sim X.K m G H4 ∧ lcN src (lc2Turn gf tf fi1 gf1 tf1 ef (wipeD σ' vs) vs1 G1.length) n (k + 1) G = some Gz, fun H4 z => ⟨n, by omega, z⟩, fun v H4 hy => ?_⟩
        obtain ⟨x4, S4, r4⟩ := yl v H4 hy
        have R4 : SR X.K m3 H4 (wipeD σ' vs) (wipe σ vs) := wipe_sr ((((R.mono x1).mono x2).mono x3).mono x4) vs
        cases et : lc2Turn gf tf fi1 gf1 tf1 ef (wipeD σ' vs) vs1 G1.length d G3 with
        | none => rw [et] at h3; cases h3
        | some Gt =>
          rw [et] at h3
          have h3' : lcN src (lc2Turn gf tf fi1 gf1 tf1 ef (wipeD σ' vs) vs1 G1.length) n (k + 1) Gt = some Gz := h3
          unfold lc2Turn at et
          refine ⟨m3, wipeD σ' vs, G3, d, S4, R4, r4, ?_⟩
          cases eg : gf d (wipeD σ' vs) G3 with
          | ok σ5 G5 =>
            rw [eg] at et
            simp only at et
            intro m5 H5 s5 x5 S5 ⟨R5, w5⟩
            refine ⟨by rw [w5, wipe_wipe], m5, σ5, G5, S5, R5, ?_⟩
            cases eb : tf σ5 G5 with
            | ok b G6 =>
              rw [eb] at et
              intro m6 H6 b6 x6 S6 r6
              cases r6
              have xx := ((x3.trans x4).trans x5).trans x6
              cases b with
              | false =>
                cases et
                exact iteF ⟨m6, _, xx, S6, h3'⟩
              | true =>
                simp only at et
                refine iteT ⟨m6, σ5, G6, S6, R5.mono x6, ?_⟩
                cases ei : fi1 σ5 G6 with
                | ok s1 G7 =>
                  rw [ei] at et
                  simp only at et
                  intro m7 H7 J1 x7 S7 it1
                  obtain ⟨n1, hn1⟩ := lcL_pos et
                  refine ⟨fun j n H => ∃ m G, Xt X.K m7 H7 m H ∧ Sim X.K m G H ∧ lcN s1 (lcTurn gf1 tf1 ef (wipeD σ5 vs1) G1.length) n j G = some Gt, ⟨n1, m7, G7, .refl, S7, hn1⟩, ?_⟩
                  rintro j n1 H8 ⟨m8, G8, x8, S8, h8⟩
                  have xa := (xx.trans x7).trans x8
                  cases n1 with
                  | zero => cases h8
                  | succ n1 =>
                    rw [lcN_s] at h8
                    have itj := it1 j m8 G8 H8 x8 S8
                    cases es1 : s1 j G8 with
                    | bad => rw [es1] at h8; cases h8
                    | stop =>
                      rw [es1] at h8 itj
                      cases h8
                      exact .inl ⟨itj, m8, _, xa, S8, h3'⟩
                    | item d1 =>
                      rw [es1] at h8 itj
                      simp only at h8
                      obtain ⟨go1, yl1⟩ := itj
                      refine .inr ⟨go1, fun H9 => ∃ m G, Xt X.K m7 H7 m H9 ∧ Sim X.K m G H9 ∧ lcN s1 (lcTurn gf1 tf1 ef (wipeD σ5 vs1) G1.length) n1 (j + 1) G = some Gt, fun H9 z => ⟨n1, by omega, z⟩, fun v1 H9 hy1 => ?_⟩
                      obtain ⟨x9, S9, r9⟩ := yl1 v1 H9 hy1
                      cases et1 : lcTurn gf1 tf1 ef (wipeD σ5 vs1) G1.length d1 G8 with
                      | none => rw [et1] at h8; cases h8
                      | some Gu =>
                        rw [et1] at h8
                        have h8' : lcN s1 (lcTurn gf1 tf1 ef (wipeD σ5 vs1) G1.length) n1 (j + 1) Gu = some Gt := h8
                        have R9 : SR X.K m8 H9 (wipeD σ5 vs1) (wipe s5 vs1) := wipe_sr ((((R5.mono x6).mono x7).mono x8).mono x9) vs1
                        exact turn_read S9 R9 r9 ((xa.trans x9).at ha) et1 (wipe_wipe s5 vs1) fun m G H y Sg e => ⟨m, G, (x8.trans x9).trans y, Sg, by rw [e]; exact h8'⟩
                | ex _ _ _ => rw [ei] at et; cases et
                | bad => rw [ei] at et; cases et
            | ex _ _ _ => rw [eb] at et; cases et
            | bad => rw [eb] at et; cases et
          | ex _ _ _ => rw [eg] at et; cases et
          | bad => rw [eg] at et; cases et
theorem xe_lc2 {k : Nat} (C : Ctx X W k) (hi : PI X tg iter (tI X W fi)) (hown : blkC X.N X.env.scope scope own = true) (hv : ∀ i ∈ vs1, i ∈ own.map (·.2))
    (hg : ∀ (s : Shared) (H : Hp) (c : Addr) (cl : List (Str × Addr)) (fp : List Addr), PG (X.blk s H scope (compEnvC scope cl c X.env) fp) tg (tGw (X.blk s H scope (compEnvC scope cl c X.env) fp) (own.map (·.2)) gf))
    (ht : ∀ (s : Shared) (H : Hp) (c : Addr) (cl : List (Str × Addr)) (fp : List Addr), Ctx (X.blk s H scope (compEnvC scope cl c X.env) fp) (fun _ => W0) k → PTs (X.blk s H scope (compEnvC scope cl c X.env) fp) ifs (tT (X.blk s H scope (compEnvC scope cl c X.env) fp) (fun _ => W0) tf))
    (hi1 : ∀ (s : Shared) (H : Hp) (c : Addr) (cl : List (Str × Addr)) (fp : List Addr), Ctx (X.blk s H scope (compEnvC scope cl c X.env) fp) (fun _ => W0) k → PI (X.blk s H scope (compEnvC scope cl c X.env) fp) tg1 iter1 (tI (X.blk s H scope (compEnvC scope cl c X.env) fp) (fun _ => W0) fi1))
    (hg1 : ∀ (s : Shared) (H : Hp) (c : Addr) (cl : List (Str × Addr)) (fp : List Addr), PG (X.blk s H scope (compEnvC scope cl c X.env) fp) tg1 (tGw (X.blk s H scope (compEnvC scope cl c X.env) fp) vs1 gf1))
    (ht1 : ∀ (s : Shared) (H : Hp) (c : Addr) (cl : List (Str × Addr)) (fp : List Addr), Ctx (X.blk s H scope (compEnvC scope cl c X.env) fp) (fun _ => W0) k → PTs (X.blk s H scope (compEnvC scope cl c X.env) fp) ifs1 (tT (X.blk s H scope (compEnvC scope cl c X.env) fp) (fun _ => W0) tf1))
    (he : ∀ (s : Shared) (H : Hp) (c : Addr) (cl : List (Str × Addr)) (fp : List Addr), Ctx (X.blk s H scope (compEnvC scope cl c X.env) fp) (fun _ => W0) k → PE (X.blk s H scope (compEnvC scope cl c X.env) fp) elt (tE (X.blk s H scope (compEnvC scope cl c X.env) fp) (fun _ => W0) ef))
    (hs : ∀ x, foldedSetIterable iter X.env x = pure x := by intro _; rfl) (hs1 : ∀ env x, foldedSetIterable iter1 env x = pure x := by intro _ _; rfl) :
    PE X (.ListComp elt [⟨tg, iter, ifs, 0⟩, ⟨tg1, iter1, ifs1, 0⟩] scope pos) (tE X W (lc2C fi gf tf fi1 gf1 tf1 ef (own.map (·.2)) vs1)) := by
  refine ⟨fun pins s σ H Q I h => ?_⟩
  exact (pe_lc2 (g := tGw X (own.map fun q : Str × Nat => q.2) gf) (tt := tT X (fun _ => W0) tf) (wi1 := tI X (fun _ => W0) fi1) (g1 := tGw X vs1 gf1) (tt1 := tT X (fun _ => W0) tf1) (te := tE X (fun _ => W0) ef) C.calm C.nd hi (blkOk_by hown) hv hg (fun s H c cl fp => ht s H c cl fp C.blk)
    (fun s H c cl fp => hi1 s H c cl fp C.blk) hg1 (fun s H c cl fp => ht1 s H c cl fp C.blk) (fun s H c cl fp => he s H c cl fp C.blk) hs hs1).run pins s σ H Q I (lc2_read h)
theorem xs_setLc2 {k : Nat} (i : Nat) {y : Str} {py spos : Pos} (C : Ctx X W k) (hi : PI X tg iter (tI X W fi)) (hown : blkC X.N X.env.scope scope own = true) (hv : ∀ i ∈ vs1, i ∈ own.map (·.2))
    (hg : ∀ (s : Shared) (H : Hp) (c : Addr) (cl : List (Str × Addr)) (fp : List Addr), PG (X.blk s H scope (compEnvC scope cl c X.env) fp) tg (tGw (X.blk s H scope (compEnvC scope cl c X.env) fp) (own.map (·.2)) gf))
    (ht : ∀ (s : Shared) (H : Hp) (c : Addr) (cl : List (Str × Addr)) (fp : List Addr), Ctx (X.blk s H scope (compEnvC scope cl c X.env) fp) (fun _ => W0) k → PTs (X.blk s H scope (compEnvC scope cl c X.env) fp) ifs (tT (X.blk s H scope (compEnvC scope cl c X.env) fp) (fun _ => W0) tf))
    (hi1 : ∀ (s : Shared) (H : Hp) (c : Addr) (cl : List (Str × Addr)) (fp : List Addr), Ctx (X.blk s H scope (compEnvC scope cl c X.env) fp) (fun _ => W0) k → PI (X.blk s H scope (compEnvC scope cl c X.env) fp) tg1 iter1 (tI (X.blk s H scope (compEnvC scope cl c X.env) fp) (fun _ => W0) fi1))
    (hg1 : ∀ (s : Shared) (H : Hp) (c : Addr) (cl : List (Str × Addr)) (fp : List Addr), PG (X.blk s H scope (compEnvC scope cl c X.env) fp) tg1 (tGw (X.blk s H scope (compEnvC scope cl c X.env) fp) vs1 gf1))
    (ht1 : ∀ (s : Shared) (H : Hp) (c : Addr) (cl : List (Str × Addr)) (fp : List Addr), Ctx (X.blk s H scope (compEnvC scope cl c X.env) fp) (fun _ => W0) k → PTs (X.blk s H scope (compEnvC scope cl c X.env) fp) ifs1 (tT (X.blk s H scope (compEnvC scope cl c X.env) fp) (fun _ => W0) tf1))
    (he : ∀ (s : Shared) (H : Hp) (c : Addr) (cl : List (Str × Addr)) (fp : List Addr), Ctx (X.blk s H scope (compEnvC scope cl c X.env) fp) (fun _ => W0) k → PE (X.blk s H scope (compEnvC scope cl c X.env) fp) elt (tE (X.blk s H scope (compEnvC scope cl c X.env) fp) (fun _ => W0) ef))
    (hsw : swapsWith (.ListComp elt [⟨tg, iter, ifs, 0⟩, ⟨tg1, iter1, ifs1, 0⟩] scope pos) (some (.Name y py)) spos.line X.env = pure true) (hy : X.N[i]? = some y := by rfl) (hyl : X.env.scope.names.lookup y = some .local := by rfl)
    (hs : ∀ x, foldedSetIterable iter X.env x = pure x := by intro _; rfl) (hs1 : ∀ env x, foldedSetIterable iter1 env x = pure x := by intro _ _; rfl) :
    PS X (.Assign [.Name y py] (.ListComp elt [⟨tg, iter, ifs, 0⟩, ⟨tg1, iter1, ifs1, 0⟩] scope pos) spos) (tS X W (setC i (lc2C fi gf tf fi1 gf1 tf1 ef (own.map (·.2)) vs1))) := by
  refine ⟨fun pins s σ H Dd I ⟨m, σ', G, S, R, q⟩ => ?_⟩
  refine (ps_setLc2 (i := i) (g := tGw X (own.map fun q : Str × Nat => q.2) gf) (tt := tT X (fun _ => W0) tf) (wi1 := tI X (fun _ => W0) fi1) (g1 := tGw X vs1 gf1) (tt1 := tT X (fun _ => W0) tf1) (te := tE X (fun _ => W0) ef) C.calm C.nd hy hyl hsw hi (blkOk_by hown) hv hg (fun s H c cl fp => ht s H c cl fp C.blk)
    (fun s H c cl fp => hi1 s H c cl fp C.blk) hg1 (fun s H c cl fp => ht1 s H c cl fp C.blk) (fun s H c cl fp => he s H c cl fp C.blk) hs hs1).run pins s σ H Dd I ?_
  refine lc2_read ⟨m, σ', G, S, R, (PostS.bnd (R := VR X.K) R q).imp fun v H1 ⟨m1, G1, x, e1, S1, r1, _, h1⟩ => ?_⟩
  exact h1 m1 H1 _ .refl S1 ((R.mono e1).put i r1)
end
end SX

set_option Elab.async false
set_option linter.all false
set_option maxRecDepth 100000
set_option maxHeartbeats 1000000
namespace SX
open PySem PySem.Spec PyProof.Rows L2
section
variable {P : Program} {w : World} {K : PySem.W.Frag} {mg : Str → Option Value}
theorem vrs_intl {m : List Addr} {H : Hp} : ∀ ns : List Int, VRs K m H (ns.map D.int) (ns.map V.int)
  | [] => .nil
  | n :: r => .cons (.int n) (vrs_intl r)
/-- the law's answer on a script of ns: the script is a list of the caller's, or one that the program itself wrote -/
structure Told (f : FF) (ns : List Int) : Prop where
  own : ∃ G, f [.ref 0] [.ro (ns.map .int)] = .ok (.bl true) G
  lit : ∃ G, f [.kl (ns.map .int)] [] = .ok (.bl true) G
/-- the heap seen with the script alone -/
def hScript (a : Addr) (o : Obj) (ns : List Int) : Hp := fun b => if b = a then some (.frz o (.lst (ns.map V.int))) else none
theorem hScript_at {a : Addr} {o : Obj} {ns : List Int} : hScript a o ns a = some (.frz o (.lst (ns.map V.int))) := if_pos rfl
theorem hScript_ne {a b : Addr} {o : Obj} {ns : List Int} (h : b ≠ a) : hScript a o ns b = none := if_neg h
theorem hScript_eq {a b : Addr} {o : Obj} {ns : List Int} {u : HO} (h : hScript a o ns b = some u) : b = a ∧ u = .frz o (.lst (ns.map V.int)) := by
  by_cases e : b = a
  · subst e
    rw [hScript_at] at h
    cases h
    exact ⟨rfl, rfl⟩
  · rw [hScript_ne e] at h
    cases h
theorem room_zero {k : Nat} (h : Room k callerA) : Room k callerA := h
/-- a law's call, from what its body computes -/
theorem lawG {mb : Str → Option Value} {k : Nat} {fa a : Addr} {fd : FuncData} {x : Str} {f : FF} {s : Shared} {vs : List Value} {ns : List Int}
    (kin : K.In s.heap) (glob : s.heap.Ns mainGlobals mg) (bns : s.heap.Ns builtinsNs mb) (bx : ∀ y : Str, y ≠ "__name__" → mb y = bootBuiltins y) (lim : s.heap.NoLimit) (noGen : s.gens = #[])
    (at_ : s.heap.get? a = some { cls := .type "list", data := .seq vs.toArray }) (hints : IntsAre vs ns) (short : ns.length ≤ sizeLine) (room : Room k callerA)
    (F : ∀ base : Heap, K.In base → base.Ns mainGlobals mg → FnG P w K mg base k fa fd [x] (spF K mg 1 f)) (binds : ∀ (s : Shared) (u : Value), BindsTo s fd ⟨[u], []⟩ [(x, u)])
    (told : Told f ns) :
    codeAny (model P w) callerA (.call (.ref fa) ⟨[.ref a], []⟩) (fun r s' => r = .ok (.ret (.bool true)) ∧ OldK s.heap s'.heap ∧ s'.os = s.os ∧ AllBare s'.gens) s := by
  have rel := vals_ints hints
  have len := hints.length
  -- H: what is tracked ahead of the call
  have main : ∀ (H : Hp) (m : List Addr) (d : D) (G : Hq), (∀ b u, H b = some u → b = a ∧ u = .frz { cls := .type "list", data := .seq vs.toArray } (.lst (ns.map V.int)) ∧ K.lookup a = none) → HOk P w H s.heap →
      Sim K m G H → VR K m H d (.ref a) → (∃ G', f [d] G = .ok (.bl true) G') →
      codeAny (model P w) callerA (.call (.ref fa) ⟨[.ref a], []⟩) (fun r s' => r = .ok (.ret (.bool true)) ∧ OldK s.heap s'.heap ∧ s'.os = s.os ∧ AllBare s'.gens) s := by
    intro H m d G hH hok sim vr ⟨G', eG⟩
    have keep : ∀ {b : Addr} {o : Obj}, s.heap.get? b = some o → b ≠ a → (hidT s.heap H).get? b = some o := fun {b o} e n => hidT_get e (by
      cases q : H b with
      | none => rfl
      | some u => exact absurd (hH b u q).1 n)
    have dict : ∀ {b : Addr} {o : Obj} {es : Array DictEntry} {ep : Nat}, s.heap.get? b = some o → o.data = .dict es ep → b ≠ a := fun e d q => by
      subst q
      rw [at_] at e
      cases e
      exact nomatch (show Data.seq vs.toArray _ = Data.dict _ _ from d)
    have ns' : ∀ {b : Addr} {n : Str → Option Value}, s.heap.Ns b n → (hidT s.heap H).Ns b n := fun ⟨o, es, ep, e, d, r⟩ => ⟨o, es, ep, keep e (dict e d), d, r⟩
    have kin' : K.In (hidT s.heap H) := fun b o e => hidT_get (kin b o e) (by
      cases q : H b with
      | none => rfl
      | some u =>
        obtain ⟨rfl, _, z⟩ := hH b u q
        rw [z] at e
        cases e)
    have md : Mod K mg (hidT s.heap H) := ⟨kin', ns' glob, ⟨mb, ns' bns, bx⟩, let ⟨mc, h1, h2⟩ := lim; ⟨mc, ns' h1, h2⟩⟩
    have env : Env0 P w K mg (hidT s.heap H) callerA [] s H :=
      ⟨rfl, md, fun b o e => of_hidT e, Nat.le_of_eq (hidT_size _ _), trivial, fun b hb => absurd (show b ∈ ([] : List Addr) from hb) (by simp), hok, .of_eq noGen⟩
    have want : spF K mg 1 f [.ref a] H (fun v H' => v = .bl true) W0 := by
      refine ⟨rfl, m, [d], G, sim, .cons vr .nil, ?_⟩
      rw [eG]
      intro m' H' b _ _ r
      cases r
      rfl
    refine codeAny_mono ((F _ kin' (ns' glob)).go callerA [] s H ⟨[.ref a], []⟩ [.ref a] [.ref a] _ _ rfl room env (binds s (.ref a)) (.cons rfl .nil) want) fun r s' h => ?_
    cases r with
    | error e =>
      obtain ⟨_, _, _, _, _, _, _, _, _, _, _, _, z⟩ := (show L2.CX P w [] H s W0 e s' from h)
      exact z.elim
    | ok fl =>
      cases fl with
      | ret u =>
        obtain ⟨v, H', os, bare, un, hok', r', q⟩ := (show CE [] P w H s (fun v H' => v = .bl true) u s' from h)
        subst q
        obtain rfl : u = Value.bool true := r'
        refine ⟨rfl, OldK.of_keep fun b o e => ?_, os, bare⟩
        cases q : H b with
        | none => exact un.keep b o e q (by intro z; exact absurd (show b ∈ ([] : List Addr) from z) (by simp)) (by simp)
        | some u =>
          obtain ⟨rfl, rfl, _⟩ := hH b u q
          obtain ⟨e2, _⟩ := hok' b _ (un.frzs b _ _ q)
          rw [at_] at e
          cases e
          exact e2
      | next => exact (show False from h).elim
      | brk => exact (show False from h).elim
      | cont => exact (show False from h).elim
  cases hk : K.lookup a with
  | some o =>
    have e := kin a o hk
    rw [at_] at e
    cases e
    exact main (fun _ => none) [] (.kl (ns.map .int)) [] (fun b u z => nomatch (show (none : Option HO) = some u from z)) (fun b u z => nomatch (show (none : Option HO) = some u from z))
      ⟨rfl, fun i j c h => by simp at h, fun i c x h => by simp at h, fun i c h => by simp at h⟩ (.kl ⟨_, vs.toArray, _, hk, rfl, rfl, rfl, by rw [List.size_toArray, len]; exact short, by simpa using rel⟩ (vrs_intl ns)) told.lit
  | none =>
    refine main (hScript a { cls := .type "list", data := .seq vs.toArray } ns) [a] (.ref 0) [.ro (ns.map .int)] (fun b u z => ⟨(hScript_eq z).1, (hScript_eq z).2, hk⟩) (fun b u z => ?_) ⟨rfl, fun i j c h1 h2 => ?_, fun i c x h1 h2 => ?_, fun i c h1 => ?_⟩ (.ref rfl) told.own
    · obtain ⟨rfl, rfl⟩ := hScript_eq z
      exact ⟨at_, by rw [List.length_map]; exact short, vs, _, rel, at_⟩
    · match i, j with
      | 0, 0 => rfl
      | i + 1, _ => simp at h1
      | 0, j + 1 => simp at h2
    · match i with
      | 0 =>
        cases h1
        cases h2
        exact ⟨_, _, hScript_at, vrs_intl ns⟩
      | i + 1 => simp at h1
    · match i with
      | 0 =>
        cases h1
        rw [hScript_at] <;> rfl
      | i + 1 => simp at h1
end
/-- the end of a law row: its head tells a written part K and that the law's def computes f there -/
theorem walkG {l : PySem.W.OpenLaw} {n k : Nat} {q : Program} {loose : List Str} {XP : (Str → Option Value) → Heap → Prop} {YP : World → Heap → Prop} {d : DefRec} {x : Str} {f : FF}
    (most : l.most = some n) (few : n ≤ sizeLine) (noDfl : d.params.defaults = []) (room : Room k callerA)
    (F : ∀ (w : World) (mg : Str → Option Value) (fa : Addr) (h : Heap), YP w h → h.Ns mainGlobals mg → mg d.name = some (.ref fa) →
      ∃ (K : PySem.W.Frag) (fd : FuncData), K.In h ∧ (∀ (s : Shared) (u : Value), BindsTo s fd ⟨[u], []⟩ [(x, u)]) ∧
        ∀ base : Heap, K.In base → base.Ns mainGlobals mg → FnG l.prog w K mg base k fa fd [x] (spF K mg 1 f))
    (told : ∀ ns : List Int, ns.length ≤ n → (∀ z ∈ ns, Builtin.Int.intBits z ≤ 1048576) → Told f ns) :
    PySem.W.WalkO q loose XP YP l.row.toRowW d [] (fun f vs => PySem.call f vs) := by
  refine Att.attach_callB most noDfl fun w s₀ s mg mb fa o pm cd doc a vs ns G Y ho hd hcd hmg at_ hints len bits noGen => ?_
  obtain ⟨K, fd, kin, binds, ok⟩ := F w mg fa _ Y G.T.g hmg
  exact lawG kin G.T.g G.T.b G.T.builtins G.T.nolimit noGen at_ hints (Nat.le_trans len few) room ok binds (told ns len bits)
end SX

set_option Elab.async false
set_option linter.all false
set_option maxRecDepth 100000
set_option maxHeartbeats 1000000
namespace SX
open PySem PySem.Spec PyProof.Rows L2
/-- (a proof that simp takes for no definitional one) -/
theorem nd {α : Type} {a b : α} (h : a = b) : a = b := h
theorem ndP {a b : Prop} (h : a = b) : a = b := h
/-- what a computation gives, where it gives something -/
def wE {α : Type} (r : Rs α) (Q : α → Hq → Prop) : Prop := match r with
  | .ok a G => Q a G
  | _ => False
def wS (r : Sr) (N : Eq' → Hq → Prop) (R : D → Hq → Prop) (B C : Eq' → Hq → Prop) : Prop := match r with
  | .nx σ G => N σ G
  | .rt d G => R d G
  | .bk σ G => B σ G
  | .ct σ G => C σ G
  | _ => False
def wC (r : Cr) (Q : Hq → Prop) : Prop := match r with
  | some G => Q G
  | none => False
section
variable {α β : Type} {G G1 : Hq} {σ σ1 : Eq'} {N N' B B' C C' : Eq' → Hq → Prop} {R R' : D → Hq → Prop}
@[simp] theorem wE_ok {a : α} {Q : α → Hq → Prop} : wE (.ok a G) Q = Q a G := ndP rfl
@[simp] theorem wE_badF {Q : α → Hq → Prop} : wE (.bad : Rs α) Q = False := ndP rfl
@[simp] theorem wE_exF {c : Str} {i : Nat} {Q : α → Hq → Prop} : wE (.ex c i G : Rs α) Q = False := ndP rfl
@[simp] theorem wE_bind {r : Rs α} {k : α → Hq → Rs β} {Q : β → Hq → Prop} : wE (r.bind k) Q = wE r (fun a G => wE (k a G) Q) := by
  cases r <;> rfl
@[simp] theorem wE_ite {p : Prop} [Decidable p] {a b : Rs α} {Q : α → Hq → Prop} : wE (if p then a else b) Q = if p then wE a Q else wE b Q := by
  split <;> rfl
theorem wE_imp {r : Rs α} {Q Q' : α → Hq → Prop} (h : wE r Q) (f : ∀ a G, Q a G → Q' a G) : wE r Q' := by
  cases r with
  | ok a G => exact f a G h
  | ex _ _ _ => exact h.elim
  | bad => exact h.elim
theorem wE_get {r : Rs α} {Q : α → Hq → Prop} (h : wE r Q) : ∃ a G, r = .ok a G ∧ Q a G := by
  cases r with
  | ok a G => exact ⟨a, G, rfl, h⟩
  | ex _ _ _ => exact h.elim
  | bad => exact h.elim
theorem wE_of {r : Rs α} {a : α} {Q : α → Hq → Prop} (h : r = .ok a G) (q : Q a G) : wE r Q := by rw [h]; exact q
@[simp] theorem wS_nx : wS (.nx σ G) N R B C = N σ G := ndP rfl
@[simp] theorem wS_rt {d : D} : wS (.rt d G) N R B C = R d G := ndP rfl
@[simp] theorem wS_bk : wS (.bk σ G) N R B C = B σ G := ndP rfl
@[simp] theorem wS_ct : wS (.ct σ G) N R B C = C σ G := ndP rfl
@[simp] theorem wS_badF : wS .bad N R B C = False := ndP rfl
@[simp] theorem wS_onE {r : Rs α} {k : α → Hq → Sr} : wS (onE r σ k) N R B C = wE r (fun a G => wS (k a G) N R B C) := by
  cases r <;> rfl
@[simp] theorem wS_onG {r : Rs Eq'} {k : SF} : wS (onG r k) N R B C = wE r (fun a G => wS (k a G) N R B C) := by
  cases r <;> rfl
@[simp] theorem wS_onU {r : Rs Unit} {k : Hq → Sr} : wS (onU r k) N R B C = wE r (fun _ G => wS (k G) N R B C) := by
  cases r <;> rfl
@[simp] theorem wS_then {r : Sr} {k : SF} : wS (r.then k) N R B C = wS r (fun σ G => wS (k σ G) N R B C) R B C := by
  cases r <;> rfl
@[simp] theorem wS_ite {p : Prop} [Decidable p] {a b : Sr} : wS (if p then a else b) N R B C = if p then wS a N R B C else wS b N R B C := by
  split <;> rfl
@[simp] theorem wS_seq {a b : SF} : wS (seqC a b σ G) N R B C = wS (a σ G) (fun σ G => wS (b σ G) N R B C) R B C := wS_then
@[simp] theorem wS_set {i : Nat} {e : EF} : wS (setC i e σ G) N R B C = wE (e σ G) (fun d G1 => N (σ.set i (some d)) G1) := wS_onE
@[simp] theorem wS_expr {e : EF} : wS (exprC e σ G) N R B C = wE (e σ G) (fun _ G1 => N σ G1) := wS_onE
@[simp] theorem wS_ret {e : EF} : wS (retC e σ G) N R B C = wE (e σ G) R := wS_onE
@[simp] theorem wS_asg {e : EF} {g : GF} : wS (asgC e g σ G) N R B C = wE (e σ G) (fun d G1 => wE (g d σ G1) N) := by
  show wS (onE _ _ _) N R B C = _
  rw [wS_onE]
  congr 1
  funext d G1
  exact wS_onG
@[simp] theorem wS_if {c : TF} {a b : SF} : wS (ifS c a b σ G) N R B C = wE (c σ G) (fun x G1 => if x = true then wS (a σ G1) N R B C else wS (b σ G1) N R B C) := by
  show wS (onE _ _ _) N R B C = _
  rw [wS_onE]
  congr 1
  funext d G1
  exact wS_ite
theorem wS_imp {r : Sr} (h : wS r N R B C) (fN : ∀ σ G, N σ G → N' σ G) (fR : ∀ d G, R d G → R' d G) (fB : ∀ σ G, B σ G → B' σ G) (fC : ∀ σ G, C σ G → C' σ G) : wS r N' R' B' C' := by
  cases r with
  | nx σ G => exact fN σ G h
  | rt d G => exact fR d G h
  | bk σ G => exact fB σ G h
  | ct σ G => exact fC σ G h
  | ex _ _ _ _ => exact h.elim
  | bad => exact h.elim
theorem wS_turn {r : Sr} {k : SF} : wS (r.turn k) N R B C = wS r (fun σ G => wS (k σ G) N R B C) R N (fun σ G => wS (k σ G) N R B C) := by
  cases r <;> rfl
@[simp] theorem wE_body {n : Nat} {b : SF} {ds : List D} {Q : D → Hq → Prop} : wE (bodyC n b ds G) Q = wS (b (ds.map some ++ List.replicate (n - ds.length) none) G) (fun _ G => Q .non G) Q (fun _ _ => False) (fun _ _ => False) := by
  unfold bodyC
  cases b (ds.map some ++ List.replicate (n - ds.length) none) G <;> rfl
@[simp] theorem wE_fn {f : FF} {dvs : List D} {a : AF} {Q : D → Hq → Prop} : wE (fnC f dvs a σ G) Q = wE (a σ G) (fun xs G1 => wE (f (xs ++ dvs) G1) Q) := wE_bind
@[simp] theorem wE_call {g : List D → Hq → Rs D} {a : AF} {Q : D → Hq → Prop} : wE (callC g a σ G) Q = wE (a σ G) (fun xs G1 => wE (g xs G1) Q) := wE_bind
@[simp] theorem wE_bin {g : D → D → Hq → Rs D} {a b : EF} {Q : D → Hq → Prop} : wE (binC g a b σ G) Q = wE (a σ G) (fun x G1 => wE (b σ G1) (fun y G2 => wE (g x y G2) Q)) := by
  show wE (Rs.bind _ _) Q = _
  rw [wE_bind]
  congr 1
  funext x G1
  exact wE_bind
@[simp] theorem wE_un {g : D → Hq → Rs D} {a : EF} {Q : D → Hq → Prop} : wE (unC g a σ G) Q = wE (a σ G) (fun x G1 => wE (g x G1) Q) := wE_bind
@[simp] theorem wE_nilA {Q : List D → Hq → Prop} : wE (nilA σ G) Q = Q [] G := ndP rfl
@[simp] theorem wE_consA {a : EF} {r : AF} {Q : List D → Hq → Prop} : wE (consA a r σ G) Q = wE (a σ G) (fun x G1 => wE (r σ G1) (fun xs G2 => Q (x :: xs) G2)) := by
  show wE (Rs.bind _ _) Q = _
  rw [wE_bind]
  congr 1
  funext x G1
  exact wE_bind
@[simp] theorem wE_tup {a : AF} {Q : D → Hq → Prop} : wE (tupC a σ G) Q = wE (a σ G) (fun xs G1 => Q (.tup xs) G1) := wE_bind
@[simp] theorem wE_lst {a : AF} {Q : D → Hq → Prop} : wE (lstC a σ G) Q = wE (a σ G) (fun xs G1 => Q (.ref G1.length) (G1 ++ [.lst xs])) := wE_bind
@[simp] theorem wE_c {d : D} {Q : D → Hq → Prop} : wE (cC d σ G) Q = Q d G := ndP rfl
@[simp] theorem wE_var {i : Nat} {d : D} {Q : D → Hq → Prop} (h : σ[i]? = some (some d)) : wE (varC i σ G) Q = Q d G := by
  unfold varC
  rw [h] <;> rfl
@[simp] theorem wE_val {a : EF} {Q : Bool → Hq → Prop} : wE (valT a σ G) Q = wE (a σ G) (fun x G1 => wE (toB x G1) Q) := wE_bind
@[simp] theorem wE_truth {a : EF} {Q : Bool → Hq → Prop} : wE (truthT a σ G) Q = wE (a σ G) (fun x G1 => wE (truthD x G1) Q) := wE_bind
@[simp] theorem wE_toB {b : Bool} {Q : Bool → Hq → Prop} : wE (toB (.bl b) G) Q = Q b G := ndP rfl
@[simp] theorem wE_andT {a b : TF} {Q : Bool → Hq → Prop} : wE (andT a b σ G) Q = wE (a σ G) (fun x G1 => if x = true then wE (b σ G1) Q else Q false G1) := by
  show wE (Rs.bind _ _) Q = _
  rw [wE_bind]
  congr 1
  funext x G1
  exact wE_ite
@[simp] theorem wE_orT {a b : TF} {Q : Bool → Hq → Prop} : wE (orT a b σ G) Q = wE (a σ G) (fun x G1 => if x = true then Q true G1 else wE (b σ G1) Q) := by
  show wE (Rs.bind _ _) Q = _
  rw [wE_bind]
  congr 1
  funext x G1
  exact wE_ite
@[simp] theorem wE_notT {a : TF} {Q : Bool → Hq → Prop} : wE (notT a σ G) Q = wE (a σ G) (fun x G1 => Q (!x) G1) := wE_bind
@[simp] theorem wE_ifC {c : TF} {a b : EF} {Q : D → Hq → Prop} : wE (ifC c a b σ G) Q = wE (c σ G) (fun x G1 => if x = true then wE (a σ G1) Q else wE (b σ G1) Q) := by
  show wE (Rs.bind _ _) Q = _
  rw [wE_bind]
  congr 1
  funext x G1
  exact wE_ite
@[simp] theorem wE_notC {a : EF} {Q : D → Hq → Prop} : wE (notC a σ G) Q = wE (a σ G) (fun x G1 => wE (truthD x G1) (fun b G2 => Q (.bl (!b)) G2)) := by
  show wE (Rs.bind _ _) Q = _
  rw [wE_bind]
  congr 1
  funext x G1
  exact wE_bind
@[simp] theorem wE_andC {a b : EF} {Q : D → Hq → Prop} : wE (andC a b σ G) Q = wE (a σ G) (fun x G1 => match x with | .bl true => wE (b σ G1) Q | .bl false => Q (.bl false) G1 | _ => False) := by
  show wE (Rs.bind _ _) Q = _
  rw [wE_bind]
  congr 1
  funext x G1
  cases x with
  | bl b => cases b <;> rfl
  | _ => rfl
@[simp] theorem wE_orC {a b : EF} {Q : D → Hq → Prop} : wE (orC a b σ G) Q = wE (a σ G) (fun x G1 => match x with | .bl true => Q (.bl true) G1 | .bl false => wE (b σ G1) Q | _ => False) := by
  show wE (Rs.bind _ _) Q = _
  rw [wE_bind]
  congr 1
  funext x G1
  cases x with
  | bl b => cases b <;> rfl
  | _ => rfl
@[simp] theorem wE_src {g : List D → Hq → Rs Src} {a : AF} {Q : Src → Hq → Prop} : wE (srcC g a σ G) Q = wE (a σ G) (fun xs G1 => wE (g xs G1) Q) := wE_bind
@[simp] theorem wE_iter {e : EF} {Q : Src → Hq → Prop} : wE (iterC e σ G) Q = wE (e σ G) (fun x G1 => wE (iterD x G1) Q) := wE_bind
@[simp] theorem wE_meth {ok : Hq → D → Bool} {g : D → List D → Hq → Rs D} {o : EF} {a : AF} {Q : D → Hq → Prop} : wE (methC ok g o a σ G) Q = wE (o σ G) (fun x G1 => if ok G1 x = true then wE (a σ G1) (fun ys G2 => wE (g x ys G2) Q) else False) := by
  show wE (Rs.bind _ _) Q = _
  rw [wE_bind]
  congr 1
  funext x G1
  rw [wE_ite, wE_bind] <;> rfl
@[simp] theorem wE_gN {i : Nat} {d : D} : wE (gN i d σ G) N = N (σ.set i (some d)) G := ndP rfl
@[simp] theorem wE_gTp {n : Nat} {g : List D → Eq' → Hq → Rs Eq'} {xs : List D} (h : xs.length = n) : wE (gTp n g (.tup xs) σ G) N = wE (g xs σ G) N := by
  show wE (if _ then _ else _) N = _
  rw [if_pos h]
@[simp] theorem wE_gCs {g : GF} {r : List D → Eq' → Hq → Rs Eq'} {d : D} {ds : List D} : wE (gCs g r (d :: ds) σ G) N = wE (g d σ G) (fun σ1 G1 => wE (r ds σ1 G1) N) := wE_bind
@[simp] theorem wE_gNl : wE (gNl [] σ G) N = N σ G := ndP rfl
@[simp] theorem wE_gSub {g : D → D → D → Hq → Rs Unit} {o i : EF} {d : D} : wE (gSubC g o i d σ G) N = wE (o σ G) (fun x G1 => wE (i σ G1) (fun y G2 => wE (g x y d G2) (fun _ G3 => N σ G3))) := by
  unfold gSubC
  cases o σ G with
  | ok x G1 =>
    show wE (match i σ G1 with | .ok y G2 => _ | _ => _) N = wE (i σ G1) _
    cases i σ G1 with
    | ok y G2 =>
      show wE (match g x y d G2 with | .ok _ G3 => _ | _ => _) N = wE (g x y d G2) _
      cases g x y d G2 <;> rfl
    | ex _ _ _ => rfl
    | bad => rfl
  | ex _ _ _ => rfl
  | bad => rfl
@[simp] theorem wS_aug {i : Nat} {g : D → D → Hq → Rs D} {e : EF} {x : D} (h : σ[i]? = some (some x)) : wS (augC i g e σ G) N R B C = wE (e σ G) (fun y G1 => wE (g x y G1) (fun z G2 => N (σ.set i (some z)) G2)) := by
  unfold augC
  rw [h]
  show wS (onE _ _ _) N R B C = _
  rw [wS_onE]
  congr 1
  funext y G1
  exact wS_onE
@[simp] theorem wS_par {i j : Nat} {a : AF} : wS (parC i j a σ G) N R B C = wE (a σ G) (fun ds G1 => match ds with | [x, y] => N ((σ.set i (some x)).set j (some y)) G1 | _ => False) := by
  show wS (onE _ _ _) N R B C = _
  rw [wS_onE]
  congr 1
  funext ds G1
  match ds with
  | [] => rfl
  | [_] => rfl
  | [_, _] => rfl
  | _ :: _ :: _ :: _ => rfl
@[simp] theorem wS_par3 {i j l : Nat} {a : AF} : wS (par3C i j l a σ G) N R B C = wE (a σ G) (fun ds G1 => match ds with | [x, y, z] => N (((σ.set i (some x)).set j (some y)).set l (some z)) G1 | _ => False) := by
  show wS (onE _ _ _) N R B C = _
  rw [wS_onE]
  congr 1
  funext ds G1
  match ds with
  | [] => rfl
  | [_] => rfl
  | [_, _] => rfl
  | [_, _, _] => rfl
  | _ :: _ :: _ :: _ :: _ => rfl
@[simp] theorem wS_pass : wS (passC σ G) N R B C = N σ G := ndP rfl
@[simp] theorem wS_break : wS (breakC σ G) N R B C = B σ G := ndP rfl
@[simp] theorem wS_cont : wS (contC σ G) N R B C = C σ G := ndP rfl
@[simp] theorem wS_retN : wS (retN σ G) N R B C = R .non G := ndP rfl
/-! ### loops -/
theorem wS_while {c : TF} {b : SF} (I : Nat → Eq' → Hq → Prop)
    (step : ∀ n σ G, I n σ G → wE (c σ G) fun x G1 => if x = true then wS (b σ G1) (fun σ' G' => ∃ m, m < n ∧ I m σ' G') R N (fun σ' G' => ∃ m, m < n ∧ I m σ' G') else N σ G1) :
    ∀ n σ G, I n σ G → wS (whileC c b σ G) N R B C := by
  intro n
  induction n using Nat.strongRecOn with
  | ind n ih =>
    intro σ G h
    rw [whileC_eq, wS_onE]
    refine wE_imp (step n σ G h) fun x G1 q => ?_
    rw [wS_ite]
    split
    · rename_i hx
      rw [if_pos hx] at q
      rw [wS_turn]
      exact wS_imp q (fun σ' G' ⟨m, hm, hI⟩ => ih m hm σ' G' hI) (fun _ _ q => q) (fun _ _ q => q) fun σ' G' ⟨m, hm, hI⟩ => ih m hm σ' G' hI
    · rename_i hx
      rw [if_neg hx] at q
      exact q
/-- what a source gives that goes over xs -/
def gives (xs : List D) (k : Nat) : Nx := match xs[k]? with
  | some d => .item d
  | none => .stop
theorem wS_forL {g : GF} {b : SF} {s : Src} (xs : List D) (I : Nat → Eq' → Hq → Prop) (src : ∀ k σ G, I k σ G → s k G = gives xs k)
    (step : ∀ k d σ G, xs[k]? = some d → I k σ G → wE (g d σ G) fun σ1 G1 => wS (b σ1 G1) (I (k + 1)) R N (I (k + 1)))
    (out : ∀ σ G, I xs.length σ G → N σ G) : ∀ m k σ G, k + m = xs.length → I k σ G → wS (forL s g b k σ G) N R B C := by
  intro m
  induction m with
  | zero =>
    intro k σ G hk h
    obtain rfl : k = xs.length := by omega
    rw [forL_eq, src _ σ G h]
    have e : gives xs xs.length = .stop := by
      unfold gives
      rw [List.getElem?_eq_none (Nat.le_refl _)]
    rw [e]
    exact out σ G h
  | succ m ih =>
    intro k σ G hk h
    rw [forL_eq, src k σ G h]
    have hl : k < xs.length := by omega
    have e : gives xs k = .item xs[k] := by
      unfold gives
      rw [List.getElem?_eq_getElem hl]
    rw [e]
    show wS (onG _ _) N R B C
    rw [wS_onG]
    refine wE_imp (step k xs[k] σ G (List.getElem?_eq_getElem hl) h) fun σ1 G1 q => ?_
    rw [wS_turn]
    exact wS_imp q (fun σ' G' hI => ih (k + 1) σ' G' (by omega) hI) (fun _ _ q => q) (fun _ _ q => q) fun σ' G' hI => ih (k + 1) σ' G' (by omega) hI
@[simp] theorem wS_for {i : IF} {g : GF} {b : SF} : wS (forC i g b σ G) N R B C = wE (i σ G) (fun s G1 => wS (forL s g b 0 σ G1) N R B C) := wS_onE
/-- for x in range(..) -/
theorem wS_forR {g : GF} {b : SF} {lo st : Int} {n : Nat} (I : Nat → Eq' → Hq → Prop) (h0 : I 0 σ G)
    (step : ∀ k, k < n → ∀ σ G, I k σ G → wE (g (.int (lo + k * st)) σ G) fun σ1 G1 => wS (b σ1 G1) (I (k + 1)) R N (I (k + 1))) (out : ∀ σ G, I n σ G → N σ G) :
    wS (forL (itR lo st n) g b 0 σ G) N R B C := by
  have hn : ((List.range n).map fun k : Nat => D.int (lo + k * st)).length = n := by simp
  refine wS_forL ((List.range n).map fun k : Nat => D.int (lo + k * st)) I (fun k σ G _ => ?_) (fun k d σ G hd hI => ?_) (fun σ G h => out σ G (by rw [hn] at h; exact h)) n 0 σ G (by rw [hn]; omega) h0
  · unfold gives itR
    by_cases hk : k < n
    · simp [hk]
    · simp [hk]
  · rw [List.getElem?_map] at hd
    have hk : k < n := by
      rcases Nat.lt_or_ge k n with q | q
      · exact q
      · rw [List.getElem?_eq_none (by simpa using q)] at hd
        cases hd
    rw [List.getElem?_range hk] at hd
    cases hd
    exact step _ hk σ G hI
theorem src_itL {p : Nat} {G : Hq} {xs : List D} {k : Nat} (h : lstOf G (.ref p) = some xs) : itL p k G = gives xs k := by
  unfold itL gives
  rw [h] <;> rfl
theorem src_itT {G : Hq} {xs : List D} {k : Nat} : itT xs k G = gives xs k := rfl
/-- for x in a list that stands meanwhile -/
theorem wS_forLs {g : GF} {b : SF} {p : Nat} (xs : List D) (I : Nat → Eq' → Hq → Prop) (h0 : I 0 σ G) (still : ∀ k σ G, I k σ G → lstOf G (.ref p) = some xs)
    (step : ∀ k d σ G, xs[k]? = some d → I k σ G → wE (g d σ G) fun σ1 G1 => wS (b σ1 G1) (I (k + 1)) R N (I (k + 1))) (out : ∀ σ G, I xs.length σ G → N σ G) :
    wS (forL (itL p) g b 0 σ G) N R B C :=
  wS_forL xs I (fun k σ G h => src_itL (still k σ G h)) step out xs.length 0 σ G (by omega) h0
theorem wS_forT {g : GF} {b : SF} (xs : List D) (I : Nat → Eq' → Hq → Prop) (h0 : I 0 σ G)
    (step : ∀ k d σ G, xs[k]? = some d → I k σ G → wE (g d σ G) fun σ1 G1 => wS (b σ1 G1) (I (k + 1)) R N (I (k + 1))) (out : ∀ σ G, I xs.length σ G → N σ G) :
    wS (forL (itT xs) g b 0 σ G) N R B C :=
  wS_forL xs I (fun k σ G h => src_itT) step out xs.length 0 σ G (by omega) h0
/-! ### comprehensions -/
theorem lcL_run {s : Src} {turn : D → Hq → Cr} (xs : List D) (I : Nat → Hq → Prop) (src : ∀ k G, I k G → s k G = gives xs k)
    (step : ∀ k d G, xs[k]? = some d → I k G → wC (turn d G) (I (k + 1))) : ∀ m k G, k + m = xs.length → I k G → wC (lcL s turn k G) (I xs.length) := by
  intro m
  induction m with
  | zero =>
    intro k G hk h
    obtain rfl : k = xs.length := by omega
    rw [lcL_eq, src _ G h]
    have e : gives xs xs.length = .stop := by
      unfold gives
      rw [List.getElem?_eq_none (Nat.le_refl _)]
    rw [e]
    exact h
  | succ m ih =>
    intro k G hk h
    rw [lcL_eq, src k G h]
    have hl : k < xs.length := by omega
    have e : gives xs k = .item xs[k] := by
      unfold gives
      rw [List.getElem?_eq_getElem hl]
    rw [e]
    have q := step k xs[k] G (List.getElem?_eq_getElem hl) h
    show wC ((turn xs[k] G).bind (lcL s turn (k + 1))) _
    cases et : turn xs[k] G with
    | none =>
      rw [et] at q
      exact q.elim
    | some G1 =>
      rw [et] at q
      exact ih (k + 1) G1 (by omega) q
@[simp] theorem wE_ofCr {r : Cr} {d : D} {Q : D → Hq → Prop} : wE (ofCr r d) Q = wC r (fun G => Q d G) := by
  cases r <;> rfl
theorem wC_imp {r : Cr} {Q Q' : Hq → Prop} (h : wC r Q) (f : ∀ G, Q G → Q' G) : wC r Q' := by
  cases r with
  | some G => exact f G h
  | none => exact h.elim
theorem wC_turn {g : GF} {t : TF} {e : EF} {p : Nat} {d : D} {Q : Hq → Prop} : wC (lcTurn g t e σ p d G) Q = wE (g d σ G) (fun σ1 G1 => wE (t σ1 G1) (fun x G2 => if x = true then wE (e σ1 G2) (fun y G3 => wC (appAt p y G3) Q) else Q G2)) := by
  unfold lcTurn
  cases g d σ G with
  | ok σ1 G1 =>
    show wC (match t σ1 G1 with | .ok true G2 => _ | .ok false G2 => _ | _ => _) Q = wE (t σ1 G1) _
    cases t σ1 G1 with
    | ok x G2 =>
      cases x with
      | true =>
        show wC (match e σ1 G2 with | .ok y G3 => _ | _ => _) Q = wE (e σ1 G2) _
        cases e σ1 G2 <;> rfl
      | false => rfl
    | ex _ _ _ => rfl
    | bad => rfl
  | ex _ _ _ => rfl
  | bad => rfl
theorem wC_app {p : Nat} {acc : List D} {y : D} {Q : Hq → Prop} (h : G[p]? = some (.lst acc)) (hl : acc.length < 16777216) : wC (appAt p y G) Q = Q (G.set p (.lst (acc ++ [y]))) := by
  unfold appAt
  rw [h]
  show wC (if _ then _ else _) Q = _
  rw [if_pos hl] <;> rfl
@[simp] theorem wE_yes {Q : Bool → Hq → Prop} : wE (yesT σ G) Q = Q true G := ndP rfl
@[simp] theorem wE_lc {i : IF} {g : GF} {t : TF} {e : EF} {vs : List Nat} {Q : D → Hq → Prop} :
    wE (lcC i g t e vs σ G) Q = wE (i σ G) (fun s G1 => wC (lcL s (lcTurn g t e (wipeD σ vs) G1.length) 0 (G1 ++ [.lst []])) (fun G2 => Q (.ref G1.length) G2)) := by
  show wE (Rs.bind _ _) Q = _
  rw [wE_bind]
  congr 1
  funext s G1
  exact wE_ofCr
theorem app_last {c c' : SX.C} : (G ++ [c]).set G.length c' = G ++ [c'] := by
  rw [List.set_append_right _ _ (Nat.le_refl _)]
  simp
/-- a comprehension whose elements leave the heap alone: F gives what each item adds -/
theorem lc_pure {s : Src} {g : GF} {t : TF} {e : EF} {σ0 : Eq'} {Q : Hq → Prop} (xs : List D) (F : D → List D) (hlen : (xs.flatMap F).length ≤ 16777216) (src : ∀ (k : Nat) (acc : List D), s k (G ++ [.lst acc]) = gives xs k)
    (turn : ∀ (k : Nat) (d : D) (acc : List D), xs[k]? = some d → wE (g d σ0 (G ++ [.lst acc])) fun σ1 G1 => wE (t σ1 G1) fun x G2 => if x = true then wE (e σ1 G2) fun y G3 => G3 = G ++ [.lst acc] ∧ F d = [y] else G2 = G ++ [.lst acc] ∧ F d = [])
    (out : Q (G ++ [.lst (xs.flatMap F)])) : wC (lcL s (lcTurn g t e σ0 G.length) 0 (G ++ [.lst []])) Q := by
  refine wC_imp (lcL_run xs (fun k G' => G' = G ++ [.lst ((xs.take k).flatMap F)]) (fun k G' hI => by rw [hI]; exact src k _) (fun k d G' hd hI => ?_) xs.length 0 (G ++ [.lst []]) (by omega) (by simp)) fun G' hI => by rw [hI, List.take_length]; exact out
  subst hI
  rw [wC_turn]
  have tk : xs.take (k + 1) = xs.take k ++ [d] := by
    rw [List.take_succ, hd] <;> rfl
  refine wE_imp (turn k d _ hd) fun σ1 G1 q => wE_imp q fun x G2 q => ?_
  split
  · rename_i hx
    rw [if_pos hx] at q
    refine wE_imp q fun y G3 ⟨e3, ey⟩ => ?_
    subst e3
    have hk : k < xs.length := (List.getElem?_eq_some_iff.mp hd).1
    have lt : ((xs.take k).flatMap F).length < 16777216 := by
      have e0 : xs.flatMap F = (xs.take k).flatMap F ++ (F d ++ (xs.drop (k + 1)).flatMap F) := by
        conv => lhs; rw [← List.take_append_drop (k + 1) xs, List.flatMap_append, tk, List.flatMap_append]
        simp
      rw [e0, ey] at hlen
      simp only [List.length_append, List.length_cons, List.length_nil] at hlen
      omega
    rw [wC_app (by simp) lt, app_last, tk, List.flatMap_append]
    simp [ey]
  · rename_i hx
    rw [if_neg hx] at q
    rw [q.1, tk, List.flatMap_append]
    simp [q.2]
end
end SX

set_option Elab.async false
set_option linter.all false
set_option maxRecDepth 100000
set_option maxHeartbeats 1000000
namespace SX
open PySem PySem.Spec PyProof.Rows L2
/-! ### operations at integers and at lists -/
section
variable {G : Hq} {Q : D → Hq → Prop}
theorem shaped_int (i : Int) : SeqAt.shaped (.int i) = true := by
  unfold SeqAt.shaped
  simp [PyData.canLay0, PyData.depth]
@[simp] theorem eqD_int {neg : Bool} {i j : Int} : eqD neg (.int i) (.int j) G = .ok (.bl (if neg then !decide (i = j) else decide (i = j))) G := by
  show eqD0 neg (.int i) (.int j) G = _
  unfold eqD0
  have e : PyData.eqv (.int i) (.int j) = decide (i = j) := by
    unfold PyData.eqv
    rw [Bool.eq_iff_iff]
    simp
  simp [toPy, shaped_int, e]
@[simp] theorem cmpD_int {p : Int → Int → Bool} {i j : Int} : cmpD p (.int i) (.int j) G = .ok (.bl (p i j)) G := nd rfl
@[simp] theorem addD_int {i j : Int} : addD (.int i) (.int j) G = .ok (.int (i + j)) G := nd rfl
@[simp] theorem subD_int {i j : Int} : subD (.int i) (.int j) G = .ok (.int (i - j)) G := nd rfl
@[simp] theorem iaddD_int {i j : Int} : iaddD (.int i) (.int j) G = .ok (.int (i + j)) G := nd rfl
@[simp] theorem negD_int {i : Int} : negD (.int i) G = .ok (.int (-i)) G := nd rfl
@[simp] theorem intD_int {i : Int} : intD [.int i] G = .ok (.int i) G := nd rfl
@[simp] theorem absD_int {i : Int} : absD [.int i] G = .ok (.int (if i < 0 then -i else i)) G := nd rfl
theorem mulOk_of {i j : Int} (hi : i.natAbs < 2 ^ 400) (hj : j.natAbs < 2 ^ 400) : mulOk i j = true := by
  unfold mulOk
  have h : ∀ n : Nat, n < 2 ^ 400 → n.log2 < 400 := fun n hn => by
    by_cases z : n = 0
    · subst z
      decide
    · exact (Nat.log2_lt z).mpr hn
  have h1 := h _ hi
  have h2 := h _ hj
  exact decide_eq_true (by omega)
theorem mulD_int {i j : Int} (hi : i.natAbs < 2 ^ 400) (hj : j.natAbs < 2 ^ 400) : mulD (.int i) (.int j) G = .ok (.int (i * j)) G := by
  show (if mulOk i j = true then _ else _) = _
  rw [if_pos (mulOk_of hi hj)]
theorem imulD_int {i j : Int} (hi : i.natAbs < 2 ^ 400) (hj : j.natAbs < 2 ^ 400) : imulD (.int i) (.int j) G = .ok (.int (i * j)) G := by
  show (if mulOk i j = true then _ else _) = _
  rw [if_pos (mulOk_of hi hj)]
theorem modD_int {i j : Int} (hj : 0 < j) : modD (.int i) (.int j) G = .ok (.int (i % j)) G := by
  show (if j ≠ 0 then _ else _) = _
  rw [if_pos (by omega), Int.fmod_eq_emod_of_nonneg _ (by omega)]
theorem divOk_of {j : Int} (hj : 0 < j) (hb : j.natAbs < 2 ^ 400) : divOk j = true := by
  unfold divOk
  have h : j.natAbs.log2 < 400 := (Nat.log2_lt (by omega)).mpr hb
  rw [Bool.and_eq_true_iff]
  exact ⟨decide_eq_true (by omega), decide_eq_true (by omega)⟩
theorem fdivD_int {i j : Int} (hj : 0 < j) (hb : j.natAbs < 2 ^ 400) : fdivD (.int i) (.int j) G = .ok (.int (i / j)) G := by
  show (if divOk j = true then _ else _) = _
  rw [if_pos (divOk_of hj hb), Int.fdiv_eq_ediv_of_nonneg _ (by omega)]
theorem ixD_lst {p : Nat} {xs : List D} {i : Int} (h : G[p]? = some (.lst xs)) : ixD (.ref p) (.int i) G = oneD (atI xs i) G := by
  unfold ixD
  simp [h]
theorem ixD_ro {p : Nat} {xs : List D} {i : Int} (h : G[p]? = some (.ro xs)) : ixD (.ref p) (.int i) G = oneD (atI xs i) G := by
  unfold ixD
  simp [h]
@[simp] theorem ixD_tup {xs : List D} {i : Int} : ixD (.tup xs) (.int i) G = oneD (atI xs i) G := nd rfl
@[simp] theorem oneD_some {d : D} : oneD (some d) G = .ok d G := nd rfl
theorem atI_at {xs : List D} {k : Nat} (h : k < xs.length) : atI xs (k : Int) = some xs[k] := atI_nat (List.getElem?_eq_getElem h)
theorem atI_of {xs : List D} {i : Int} {d : D} (h0 : 0 ≤ i) (h : xs[i.toNat]? = some d) : atI xs i = some d := by
  have e : i = ((i.toNat : Nat) : Int) := by omega
  rw [e]
  exact atI_nat h
theorem setD_lst {p : Nat} {xs : List D} {d : D} {i : Int} {j : Nat} (h : G[p]? = some (.lst xs)) (hj : ixN xs.length i = some j) : setD (.ref p) (.int i) d G = .ok () (G.set p (.lst (xs.set j d))) := by
  unfold setD
  simp [h, hj]
theorem lstOf_lst {p : Nat} {xs : List D} (h : G[p]? = some (.lst xs)) : lstOf G (.ref p) = some xs := by
  unfold lstOf
  simp [h]
theorem lstOf_ro {p : Nat} {xs : List D} (h : G[p]? = some (.ro xs)) : lstOf G (.ref p) = some xs := by
  unfold lstOf
  simp [h]
@[simp] theorem lstOf_kl {xs : List D} : lstOf G (.kl xs) = some xs := nd rfl
theorem lenD_of {d : D} {xs : List D} (h : lstOf G d = some xs) : lenD [d] G = .ok (.int xs.length) G := by
  cases d with
  | str z => cases h
  | _ => simp only [lenD, h]
theorem listD_of {d : D} {xs : List D} (h : lstOf G d = some xs) : listD [d] G = .ok (.ref G.length) (G ++ [.lst xs]) := by
  simp only [listD, h]
theorem iterD_ref {p : Nat} {xs : List D} (h : lstOf G (.ref p) = some xs) : iterD (.ref p) G = .ok (itL p) G := by
  show (if isL G (.ref p) = true then _ else _) = _
  have e : isL G (.ref p) = true := by
    unfold isL
    rw [h] <;> rfl
  rw [if_pos e]
theorem appendD_lst {p : Nat} {xs : List D} {y : D} (h : G[p]? = some (.lst xs)) (hl : xs.length < 16777216) : appendD (.ref p) [y] G = .ok .non (G.set p (.lst (xs ++ [y]))) := by
  unfold appendD
  simp [h, hl]
theorem isL_lst {p : Nat} {xs : List D} (h : G[p]? = some (.lst xs)) : isL G (.ref p) = true := by
  unfold isL
  rw [lstOf_lst h] <;> rfl
end
/-! ### what stays -/
/-- nothing changes but the cells in S, and new ones -/
structure Fr (S : List Nat) (G G' : Hq) : Prop where
  le : G.length ≤ G'.length
  at_ : ∀ i, i < G.length → i ∉ S → G'[i]? = G[i]?
section
variable {S T : List Nat} {G G1 G2 : Hq}
theorem Fr.refl : Fr S G G := ⟨Nat.le_refl _, fun _ _ _ => rfl⟩
theorem Fr.trans (a : Fr S G G1) (b : Fr S G1 G2) : Fr S G G2 :=
  ⟨Nat.le_trans a.le b.le, fun i h n => (b.at_ i (Nat.lt_of_lt_of_le h a.le) n).trans (a.at_ i h n)⟩
theorem Fr.mono (a : Fr S G G1) (h : ∀ i, i ∈ S → i ∈ T) : Fr T G G1 := ⟨a.le, fun i hi n => a.at_ i hi fun z => n (h i z)⟩
theorem Fr.new {c : SX.C} : Fr S G (G ++ [c]) := ⟨by simp, fun i h _ => List.getElem?_append_left h⟩
theorem Fr.news {cs : Hq} : Fr S G (G ++ cs) := ⟨by simp, fun i h _ => List.getElem?_append_left h⟩
theorem Fr.set {p : Nat} {c : SX.C} (h : p ∈ S) : Fr S G (G.set p c) := ⟨by simp, fun i _ n => List.getElem?_set_ne (fun e : p = i => n (by rw [← e]; exact h))⟩
theorem Fr.setNew {p : Nat} {c : SX.C} (a : Fr S G G1) (h : G.length ≤ p) : Fr S G (G1.set p c) := ⟨by simpa using a.le, fun i hi n => by
  rw [List.getElem?_set_ne (by omega)]
  exact a.at_ i hi n⟩
theorem Fr.get (a : Fr S G G1) {i : Nat} {c : SX.C} (h : G[i]? = some c) (n : i ∉ S) : G1[i]? = some c :=
  (a.at_ i (List.getElem?_eq_some_iff.mp h).1 n).trans h
theorem lt_of_at {i : Nat} {c : SX.C} (h : G[i]? = some c) : i < G.length := (List.getElem?_eq_some_iff.mp h).1
theorem set_self {p : Nat} {c c' : SX.C} (h : G[p]? = some c) : (G.set p c')[p]? = some c' := by
  rw [List.getElem?_set_self (lt_of_at h)]
end
/-! ### the deck -/
structure Dk (n : Nat) (G : Hq) (d : Nat) : Prop where
  ex : ∃ (a pos seed cnt : Int) (s : Nat) (ns : List Int), d = s + 1 ∧ G[d]? = some (.lst [.int a, .int pos, .int seed, .ref s, .int cnt]) ∧ G[s]? = some (.lst (ns.map .int)) ∧
    0 ≤ a ∧ 0 ≤ pos ∧ 0 ≤ seed ∧ seed < 2147483647 ∧ 0 ≤ cnt ∧ cnt ≤ n
theorem Dk.mono {m n : Nat} {G : Hq} {d : Nat} (h : Dk n G d) (hm : n ≤ m) : Dk m G d := by
  obtain ⟨a, pos, seed, cnt, s, ns, h1, h2, h3, h4, h5, h6, h7, h8, h9⟩ := h.ex
  exact ⟨a, pos, seed, cnt, s, ns, h1, h2, h3, h4, h5, h6, h7, h8, by omega⟩
theorem Dk.lt {n : Nat} {G : Hq} {d : Nat} (h : Dk n G d) : d < G.length := by
  obtain ⟨a, pos, seed, cnt, s, ns, h1, h2, h3, h4, h5, h6, h7, h8, h9⟩ := h.ex
  exact lt_of_at h2
theorem Dk.keep {n : Nat} {S : List Nat} {G G' : Hq} {d : Nat} (h : Dk n G d) (f : Fr S G G') (h1 : d ∉ S) (h2 : d - 1 ∉ S) : Dk n G' d := by
  obtain ⟨a, pos, seed, cnt, s, ns, rfl, e2, e3, r⟩ := h.ex
  exact ⟨a, pos, seed, cnt, s, ns, rfl, f.get e2 h1, f.get e3 (by simpa using h2), r⟩
theorem Dk.fr {n : Nat} {G G' : Hq} {d : Nat} (h : Dk n G d) (f : Fr [] G G') : Dk n G' d := h.keep f (by simp) (by simp)
noncomputable def deckB : SF :=
  (seqC (setC 1 (cC (.int 7)))
    (seqC (forC (iterC (varC 0)) (gN 2) (setC 1 (binC modD (callC intD (consA (binC addD (binC mulD (varC 1) (cC (.int 48271))) (varC 2)) nilA)) (cC (.int 2147483647)))))
    (retC (lstC (consA (cC (.int 0)) (consA (cC (.int 0)) (consA (varC 1) (consA (callC listD (consA (varC 0) nilA)) (consA (cC (.int 0)) nilA)))))))))
noncomputable def deckF : FF := bodyC 3 deckB
theorem deck_loop {d0 : D} {ns : List Int} {G : Hq} {s : Src} (src : ∀ k, s k G = gives (ns.map .int) k) {N : Eq' → Hq → Prop} {R : D → Hq → Prop} {B C : Eq' → Hq → Prop}
    (out : ∀ (seed : Int) (x : Option D), 0 ≤ seed → seed < 2147483647 → N [some d0, some (.int seed), x] G) :
    wS (forL s (gN 2) (setC 1 (binC modD (callC intD (consA (binC addD (binC mulD (varC 1) (cC (.int 48271))) (varC 2)) nilA)) (cC (.int 2147483647)))) 0 [some d0, some (.int 7), none] G) N R B C := by
  refine wS_forL (ns.map .int) (fun k σ G' => G' = G ∧ ∃ (seed : Int) (x : Option D), 0 ≤ seed ∧ seed < 2147483647 ∧ σ = [some d0, some (.int seed), x]) (fun k σ G' h => by rw [h.1]; exact src k)
    (fun k d σ G' hd h => ?_) (fun σ G' h => ?_) (ns.map D.int).length 0 _ G (by omega) ⟨rfl, 7, none, by omega, by omega, rfl⟩
  · obtain ⟨rfl, seed, x, h1, h2, rfl⟩ := h
    rw [List.getElem?_map] at hd
    obtain ⟨z, _, rfl⟩ := Option.map_eq_some_iff.mp hd
    simp only [wE_gN, wS_set, wE_bin, wE_call, wE_consA, wE_nilA, List.set_cons_succ, List.set_cons_zero]
    rw [wE_var (d := .int seed) (by rfl)]
    simp only [wE_c]
    rw [mulD_int (by omega) (by omega)]
    simp only [wE_ok]
    rw [wE_var (d := .int z) (by rfl)]
    simp only [addD_int, intD_int, wE_ok]
    rw [modD_int (by omega)]
    exact ⟨rfl, _, _, Int.emod_nonneg _ (by omega), Int.emod_lt_of_pos _ (by omega), rfl⟩
  · obtain ⟨rfl, seed, x, h1, h2, rfl⟩ := h
    exact out seed x h1 h2
/-- the deck of a script -/
theorem deck_ok {u : D} {G : Hq} {ns : List Int} (h : lstOf G u = some (ns.map .int)) : wE (deckF [u] G) fun v G' => ∃ d, v = .ref d ∧ Fr [] G G' ∧ Dk 0 G' d ∧ G'.length = G.length + 2 ∧ d = G.length + 1 := by
  have it : ∃ s, iterD u G = .ok s G ∧ ∀ k, s k G = gives (ns.map .int) k := by
    cases u with
    | ref p => exact ⟨_, iterD_ref h, fun k => src_itL h⟩
    | kl xs =>
      obtain rfl : xs = ns.map .int := Option.some.inj h
      exact ⟨_, rfl, fun k => rfl⟩
    | _ => cases h
  obtain ⟨s, e, src⟩ := it
  unfold deckF
  rw [wE_body]
  show wS (deckB [some u, none, none] G) _ _ _ _
  unfold deckB
  rw [wS_seq, wS_set, wE_c]
  show wS (seqC _ _ [some u, some (.int 7), none] G) _ _ _ _
  rw [wS_seq, wS_for, wE_iter, wE_var (d := u) (by rfl), e, wE_ok]
  refine deck_loop src fun seed x h1 h2 => ?_
  rw [wS_ret, wE_lst]
  simp only [wE_consA, wE_c, wE_nilA, wE_call]
  rw [wE_var (d := .int seed) (by rfl), wE_var (d := u) (by rfl), listD_of h]
  simp only [wE_ok]
  refine ⟨_, rfl, Fr.new.trans Fr.new, ⟨0, 0, seed, 0, G.length, ns, by simp, by simp, ?_, by omega, by omega, h1, h2, by omega, by simp⟩, by simp, by simp⟩
  rw [List.getElem?_append_left (by simp), List.getElem?_append_right (Nat.le_refl _)]
  simp
noncomputable def drawT : SF := (seqC (setC 2 (binC modD (callC intD (consA (binC ixD (varC 0) (cC (.int 0))) nilA)) (varC 1)))
    (seqC (asgC (binC fdivD (binC ixD (varC 0) (cC (.int 0))) (varC 1)) (gSubC setD (varC 0) (cC (.int 0))))
    (retC (varC 2))))
noncomputable def drawB : SF :=
  (seqC (ifS (andT (valT (binC (eqD false) (binC ixD (varC 0) (cC (.int 0))) (cC (.int 0)))) (valT (binC (cmpD fun i j => decide (i < j)) (binC ixD (varC 0) (cC (.int 1))) (callC lenD (consA (binC ixD (varC 0) (cC (.int 3))) nilA))))) (seqC (asgC (callC absD (consA (binC ixD (binC ixD (varC 0) (cC (.int 3))) (binC ixD (varC 0) (cC (.int 1)))) nilA)) (gSubC setD (varC 0) (cC (.int 0))))
    (asgC (binC addD (binC ixD (varC 0) (cC (.int 1))) (cC (.int 1))) (gSubC setD (varC 0) (cC (.int 1))))) (ifS (valT (binC (eqD false) (binC ixD (varC 0) (cC (.int 0))) (cC (.int 0)))) (seqC (asgC (binC addD (binC ixD (varC 0) (cC (.int 4))) (cC (.int 1))) (gSubC setD (varC 0) (cC (.int 4))))
    (seqC (setC 3 (binC modD (callC intD (consA (binC addD (binC addD (binC mulD (binC ixD (varC 0) (cC (.int 2))) (cC (.int 48271))) (binC mulD (binC ixD (varC 0) (cC (.int 4))) (cC (.int 69621)))) (cC (.int 12345))) nilA)) (cC (.int 2147483647))))
    (seqC (setC 3 (binC modD (callC intD (consA (binC addD (binC addD (binC mulD (varC 3) (varC 3)) (binC mulD (cC (.int 16807)) (binC ixD (varC 0) (cC (.int 4))))) (cC (.int 7))) nilA)) (cC (.int 998244353))))
    (seqC (setC 3 (binC modD (callC intD (consA (binC addD (binC addD (binC mulD (varC 3) (varC 3)) (binC mulD (cC (.int 48271)) (binC ixD (varC 0) (cC (.int 4))))) (binC ixD (varC 0) (cC (.int 2)))) nilA)) (cC (.int 2147483629))))
    (asgC (binC fdivD (varC 3) (cC (.int 13))) (gSubC setD (varC 0) (cC (.int 0)))))))) passC))
    drawT)
noncomputable def drawF : FF := bodyC 4 drawB
abbrev dkL (a pos seed : Int) (s : Nat) (cnt : Int) : List D := [.int a, .int pos, .int seed, .ref s, .int cnt]
/-- the end of a draw -/
theorem draw_end {d s : Nat} {a pos seed cnt b : Int} {o : Option D} {G : Hq} (h : G[d]? = some (.lst (dkL a pos seed s cnt))) (h1 : 0 < b) (h2 : b.natAbs < 2 ^ 400) {Q : D → Hq → Prop}
    (q : Q (.int (a % b)) (G.set d (.lst (dkL (a / b) pos seed s cnt)))) :
    wS (drawT [some (.ref d), some (.int b), none, o] G) (fun _ G => Q .non G) Q (fun _ _ => False) (fun _ _ => False) := by
  have e0 : atI (dkL a pos seed s cnt) 0 = some (.int a) := by rfl
  unfold drawT
  simp only [wS_seq, wS_set, wE_bin, wE_call, wE_consA, wE_nilA]
  rw [wE_var (d := .ref d) (by rfl)]
  simp only [wE_c, ixD_lst h, e0, oneD_some, wE_ok, intD_int]
  rw [wE_var (d := .int b) (by rfl), modD_int h1, wE_ok]
  simp only [List.set_cons_succ, List.set_cons_zero, wS_asg, wE_bin]
  rw [wE_var (d := .ref d) (by rfl)]
  simp only [wE_c, ixD_lst h, e0, oneD_some, wE_ok]
  rw [wE_var (d := .int b) (by rfl), fdivD_int h1 h2, wE_ok]
  rw [wE_gSub, wE_var (d := .ref d) (by rfl)]
  simp only [wE_c]
  rw [setD_lst h (j := 0) (by rfl)]
  simp only [wE_ok, wS_ret]
  rw [wE_var (d := .int (a % b)) (by rfl)]
  exact q
/-- a draw -/
theorem draw_ok {n d : Nat} {b : Int} {G : Hq} (h : Dk n G d) (hn : n < 2 ^ 200) (h1 : 0 < b) (h2 : b.natAbs < 2 ^ 400) :
    wE (drawF [.ref d, .int b] G) fun v G' => ∃ r, v = .int r ∧ 0 ≤ r ∧ r < b ∧ Dk (n + 1) G' d ∧ Fr [d] G G' ∧ G'.length = G.length := by
  obtain ⟨a, pos, seed, cnt, s, ns, rfl, e1, e2, ha, hp, hs0, hs1, hc0, hc1⟩ := h.ex
  have fin : ∀ (a' pos' cnt' : Int) (o : Option D) (G1 : Hq), G1[s + 1]? = some (.lst (dkL a' pos' seed s cnt')) → G1[s]? = some (.lst (ns.map .int)) → Fr [s + 1] G G1 → G1.length = G.length → 0 ≤ a' → 0 ≤ pos' → 0 ≤ cnt' → cnt' ≤ n + 1 →
      wS (drawT [some (.ref (s + 1)), some (.int b), none, o] G1) (fun _ G' => ∃ r, D.non = .int r ∧ 0 ≤ r ∧ r < b ∧ Dk (n + 1) G' (s + 1) ∧ Fr [s + 1] G G' ∧ G'.length = G.length) (fun v G' => ∃ r, v = .int r ∧ 0 ≤ r ∧ r < b ∧ Dk (n + 1) G' (s + 1) ∧ Fr [s + 1] G G' ∧ G'.length = G.length) (fun _ _ => False) (fun _ _ => False) :=
    fun a' pos' cnt' o G1 f1 f2 fr fl q1 q2 q3 q4 => draw_end (Q := fun v G' => ∃ r, v = .int r ∧ 0 ≤ r ∧ r < b ∧ Dk (n + 1) G' (s + 1) ∧ Fr [s + 1] G G' ∧ G'.length = G.length) f1 h1 h2
      ⟨_, rfl, Int.emod_nonneg _ (by omega), Int.emod_lt_of_pos _ h1, ⟨_, _, _, _, _, _, rfl, set_self f1, by rw [List.getElem?_set_ne (by omega)]; exact f2, Int.ediv_nonneg q1 (by omega), q2, hs0, hs1, q3, by omega⟩, fr.trans (Fr.set (by simp)), by simpa using fl⟩
  have t0 : atI (dkL a pos seed s cnt) 0 = some (.int a) := by rfl
  have t1 : atI (dkL a pos seed s cnt) 1 = some (.int pos) := by rfl
  have t3 : atI (dkL a pos seed s cnt) 3 = some (.ref s) := by rfl
  have t4 : atI (dkL a pos seed s cnt) 4 = some (.int cnt) := by rfl
  have ls := lstOf_lst e2
  unfold drawF
  rw [wE_body]
  show wS (drawB [some (.ref (s + 1)), some (.int b), none, none] G) _ _ _ _
  have v0 : ∀ {o : Option D} {G : Hq} {Q : D → Hq → Prop}, wE (varC 0 [some (.ref (s + 1)), some (.int b), none, o] G) Q = Q (.ref (s + 1)) G := fun {o G Q} => wE_var (by rfl)
  have v3 : ∀ {i : Int} {G : Hq} {Q : D → Hq → Prop}, wE (varC 3 [some (.ref (s + 1)), some (.int b), none, some (.int i)] G) Q = Q (.int i) G := fun {i G Q} => wE_var (by rfl)
  unfold drawB
  rw [wS_seq, wS_if, wE_andT]
  simp only [wE_val, wE_bin, v0, wE_c, ixD_lst e1, t0, oneD_some, wE_ok, eqD_int, wE_toB, wE_call, wE_consA, wE_nilA, t1, t3, lenD_of ls, cmpD_int, Bool.false_eq_true, if_false, decide_eq_true_eq]
  by_cases ha0 : a = 0
  · rw [if_pos ha0]
    by_cases hl : pos < ((ns.map D.int).length : Int)
    · -- a card of the script
      rw [if_pos hl]
      have hk : pos.toNat < ns.length := by
        rw [List.length_map] at hl
        omega
      have g1 : atI (ns.map D.int) pos = some (.int (ns[pos.toNat]'hk)) := atI_of hp (by rw [List.getElem?_map, List.getElem?_eq_getElem hk] <;> rfl)
      obtain ⟨z, ez, hz⟩ : ∃ z : Int, (∀ G : Hq, absD [.int (ns[pos.toNat]'hk)] G = .ok (.int z) G) ∧ 0 ≤ z := by
        refine ⟨_, fun G => absD_int, ?_⟩
        split <;> omega
      have e1' : (G.set (s + 1) (.lst ((dkL a pos seed s cnt).set 0 (.int z))))[s + 1]? = some (.lst (dkL z pos seed s cnt)) := set_self e1
      have t1' : ∀ a, atI (dkL a pos seed s cnt) 1 = some (.int pos) := fun _ => rfl
      simp only [wS_seq, wS_asg, wE_call, wE_consA, wE_nilA, wE_bin, v0, wE_c, ixD_lst e1, t3, t1, oneD_some, wE_ok, ixD_lst e2, g1, ez, wE_gSub, setD_lst e1 (i := 0) (j := 0) (by rfl), ixD_lst e1', t1', addD_int, setD_lst e1' (i := 1) (j := 1) (by rfl)]
      refine fin z (pos + 1) cnt none _ (set_self e1') ?_ ((Fr.set (by simp)).trans (Fr.set (by simp))) (by simp) hz (by omega) hc0 (by omega)
      rw [List.getElem?_set_ne (by omega), List.getElem?_set_ne (by omega)]
      exact e2
    · -- a card of the hash
      rw [if_neg hl]
      have c1 : ∀ c : Int, (G.set (s + 1) (.lst (dkL a pos seed s c)))[s + 1]? = some (.lst (dkL a pos seed s c)) := fun c => set_self e1
      have t2' : ∀ c, atI (dkL a pos seed s c) 2 = some (.int seed) := fun _ => rfl
      have t4' : ∀ c, atI (dkL a pos seed s c) 4 = some (.int c) := fun _ => rfl
      simp only [wS_if, wE_val, wE_bin, v0, wE_c, ixD_lst e1, t0, oneD_some, wE_ok, eqD_int, wE_toB, Bool.false_eq_true, if_false, decide_eq_true_eq]
      rw [if_pos ha0]
      have sm : cnt.natAbs < 2 ^ 300 := by omega
      have sm1 : (cnt + 1).natAbs < 2 ^ 300 := by omega
      simp only [wS_seq, wS_asg, wE_bin, v0, wE_c, ixD_lst e1, t4, oneD_some, wE_ok, addD_int, wE_gSub, setD_lst e1 (i := 4) (j := 4) (by rfl), wS_set, wE_call, wE_consA, wE_nilA, ixD_lst (c1 _), t2', t4', mulD_int (i := seed) (j := 48271) (by omega) (by omega), mulD_int (i := cnt + 1) (j := 69621) (by omega) (by omega), intD_int,
        modD_int (j := 2147483647) (by omega), List.set_cons_succ, List.set_cons_zero, v3]
      have b1 := Int.emod_lt_of_pos (seed * 48271 + (cnt + 1) * 69621 + 12345) (b := 2147483647) (by omega)
      have b0 := Int.emod_nonneg (seed * 48271 + (cnt + 1) * 69621 + 12345) (b := 2147483647) (by omega)
      generalize (seed * 48271 + (cnt + 1) * 69621 + 12345) % 2147483647 = x at b0 b1 ⊢
      simp only [mulD_int (i := x) (j := x) (by omega) (by omega), mulD_int (i := 16807) (j := cnt + 1) (by omega) (by omega), wE_ok, ixD_lst (c1 _), t2', t4', oneD_some, addD_int, intD_int, modD_int (j := 998244353) (by omega), v3, List.set_cons_succ, List.set_cons_zero]
      have b2 := Int.emod_lt_of_pos (x * x + 16807 * (cnt + 1) + 7) (b := 998244353) (by omega)
      have b3 := Int.emod_nonneg (x * x + 16807 * (cnt + 1) + 7) (b := 998244353) (by omega)
      generalize (x * x + 16807 * (cnt + 1) + 7) % 998244353 = y at b2 b3 ⊢
      simp only [mulD_int (i := y) (j := y) (by omega) (by omega), mulD_int (i := 48271) (j := cnt + 1) (by omega) (by omega), wE_ok, ixD_lst (c1 _), t2', t4', oneD_some, addD_int, intD_int, modD_int (j := 2147483629) (by omega), v3, List.set_cons_succ, List.set_cons_zero]
      have b5 := Int.emod_nonneg (y * y + 48271 * (cnt + 1) + seed) (b := 2147483629) (by omega)
      generalize (y * y + 48271 * (cnt + 1) + seed) % 2147483629 = z at b5 ⊢
      simp only [fdivD_int (i := z) (j := 13) (by omega) (by omega), wE_ok, v0, setD_lst (c1 _) (i := 0) (j := 0) (by rfl)]
      refine fin (z / 13) pos (cnt + 1) (some (.int z)) _ (set_self (c1 _)) ?_ ((Fr.set (by simp)).trans (Fr.set (by simp))) (by simp) (by omega) hp (by omega) (by omega)
      rw [List.getElem?_set_ne (by omega), List.getElem?_set_ne (by omega)]
      exact e2
  · rw [if_neg ha0]
    simp only [wS_if, wE_val, wE_bin, v0, wE_c, ixD_lst e1, t0, oneD_some, wE_ok, eqD_int, wE_toB, Bool.false_eq_true, if_false, decide_eq_true_eq]
    rw [if_neg ha0, wS_pass]
    exact fin a pos cnt none G e1 e2 Fr.refl rfl ha hp hc0 (by omega)
end SX

set_option linter.all false
namespace NT
/-! number theory over Nat -/
def IsP (p : Nat) : Prop := 2 ≤ p ∧ ∀ d, d ∣ p → d = 1 ∨ d = p
theorem IsP.pos {p : Nat} (h : IsP p) : 0 < p := by have := h.1; omega
theorem IsP.cop {p n : Nat} (h : IsP p) (hn : ¬ p ∣ n) : Nat.Coprime p n := by
  rcases h.2 _ (Nat.gcd_dvd_left p n) with e | e
  · exact e
  · exact absurd (by rw [← e]; exact Nat.gcd_dvd_right p n) hn
theorem IsP.dvd_mul {p a b : Nat} (h : IsP p) (hd : p ∣ a * b) : p ∣ a ∨ p ∣ b := by
  by_cases ha : p ∣ a
  · exact .inl ha
  · exact .inr ((h.cop ha).dvd_of_dvd_mul_left hd)
theorem IsP.dvd_pow {p a : Nat} (h : IsP p) : ∀ {k : Nat}, p ∣ a ^ k → p ∣ a
  | 0, hd => by
    have := Nat.le_of_dvd (by simp) hd
    have := h.1
    simp at *
    omega
  | k + 1, hd => by
    rw [Nat.pow_succ] at hd
    rcases h.dvd_mul hd with q | q
    · exact h.dvd_pow q
    · exact q
theorem IsP.eq_of_dvd {p q : Nat} (hp : IsP p) (hq : IsP q) (h : p ∣ q) : p = q := by
  rcases hq.2 p h with e | e
  · have := hp.1
    omega
  · exact e
/-- the least divisor from 2 on is prime -/
theorem least_prime {p n : Nat} (h2 : 2 ≤ p) (hd : p ∣ n) (no : ∀ d, 2 ≤ d → d < p → ¬ d ∣ n) : IsP p := by
  refine ⟨h2, fun d hdp => ?_⟩
  have hd0 : d ≠ 0 := by
    intro e
    subst e
    rw [Nat.zero_dvd] at hdp
    omega
  rcases Nat.lt_or_ge d 2 with q | q
  · left
    omega
  · right
    have le := Nat.le_of_dvd (by omega) hdp
    rcases Nat.lt_or_ge d p with z | z
    · exact absurd (Nat.dvd_trans hdp hd) (no d q z)
    · omega
theorem rest_prime {p n : Nat} (h1 : 1 < n) (hs : n < p * p) (no : ∀ d, 2 ≤ d → d < p → ¬ d ∣ n) : IsP n := by
  refine ⟨by omega, fun d hd => ?_⟩
  obtain ⟨e, he⟩ := hd
  have hd0 : d ≠ 0 := by
    intro z
    subst z
    omega
  have he0 : e ≠ 0 := by
    intro z
    subst z
    omega
  by_cases hd1 : d = 1
  · exact .inl hd1
  by_cases he1 : e = 1
  · right
    rw [he, he1, Nat.mul_one]
  · exfalso
    rcases Nat.lt_or_ge d p with q | q
    · exact no d (by omega) q ⟨e, he⟩
    · rcases Nat.lt_or_ge e p with z | z
      · exact no e (by omega) z ⟨d, by rw [he, Nat.mul_comm]⟩
      · have := Nat.mul_le_mul q z
        omega
/-! ### factor lists -/
def prodL (fs : List (Nat × Nat)) : Nat := (fs.map fun f => f.1 ^ f.2).foldr (· * ·) 1
@[simp] theorem prodL_nil : prodL [] = 1 := rfl
@[simp] theorem prodL_cons {f : Nat × Nat} {fs : List (Nat × Nat)} : prodL (f :: fs) = f.1 ^ f.2 * prodL fs := rfl
theorem prodL_append {fs gs : List (Nat × Nat)} : prodL (fs ++ gs) = prodL fs * prodL gs := by
  induction fs with
  | nil => simp
  | cons f fs ih => rw [List.cons_append, prodL_cons, prodL_cons, ih, Nat.mul_assoc]
structure Good (fs : List (Nat × Nat)) : Prop where
  up : fs.Pairwise fun f g => f.1 < g.1
  pr : ∀ f ∈ fs, IsP f.1 ∧ 1 ≤ f.2
theorem Good.nil : Good [] := ⟨.nil, fun _ h => by cases h⟩
theorem Good.tail {f : Nat × Nat} {fs : List (Nat × Nat)} (h : Good (f :: fs)) : Good fs := ⟨(List.pairwise_cons.mp h.up).2, fun g hg => h.pr g (List.mem_cons_of_mem _ hg)⟩
theorem Good.append {fs gs : List (Nat × Nat)} (h : Good (fs ++ gs)) : Good fs ∧ Good gs :=
  ⟨⟨(List.pairwise_append.mp h.up).1, fun g hg => h.pr g (List.mem_append_left _ hg)⟩, ⟨(List.pairwise_append.mp h.up).2.1, fun g hg => h.pr g (List.mem_append_right _ hg)⟩⟩
theorem Good.snoc {fs : List (Nat × Nat)} {p c : Nat} (h : Good fs) (hp : IsP p) (hc : 1 ≤ c) (hl : ∀ f ∈ fs, f.1 < p) : Good (fs ++ [(p, c)]) := by
  refine ⟨List.pairwise_append.mpr ⟨h.up, List.pairwise_singleton _ _, fun a ha b hb => ?_⟩, fun f hf => ?_⟩
  · rw [List.mem_singleton] at hb
    subst hb
    exact hl a ha
  · rcases List.mem_append.mp hf with q | q
    · exact h.pr f q
    · rw [List.mem_singleton] at q
      subst q
      exact ⟨hp, hc⟩
theorem prodL_pos {fs : List (Nat × Nat)} (h : Good fs) : 0 < prodL fs := by
  induction fs with
  | nil => simp
  | cons f fs ih =>
    rw [prodL_cons]
    exact Nat.mul_pos (Nat.pow_pos (h.pr f (List.mem_cons_self ..)).1.pos) (ih h.tail)
/-- a prime that divides the product is in the list -/
theorem Good.prime_mem {fs : List (Nat × Nat)} (h : Good fs) {p : Nat} (hp : IsP p) (hd : p ∣ prodL fs) : ∃ f ∈ fs, f.1 = p := by
  induction fs with
  | nil =>
    have := Nat.le_of_dvd (by simp) hd
    have := hp.1
    simp at *
    omega
  | cons f fs ih =>
    rw [prodL_cons] at hd
    rcases hp.dvd_mul hd with q | q
    · exact ⟨f, List.mem_cons_self .., (hp.eq_of_dvd (h.pr f (List.mem_cons_self ..)).1 (hp.dvd_pow q)).symm⟩
    · obtain ⟨g, hg, e⟩ := ih h.tail q
      exact ⟨g, List.mem_cons_of_mem _ hg, e⟩
theorem Good.not_dvd {fs : List (Nat × Nat)} (h : Good fs) {p : Nat} (hp : IsP p) (hn : ∀ f ∈ fs, f.1 ≠ p) : ¬ p ∣ prodL fs := fun hd => by
  obtain ⟨f, hf, e⟩ := h.prime_mem hp hd
  exact hn f hf e
theorem pow_dvd_iff {p m : Nat} (hp : IsP p) (hm : ¬ p ∣ m) (a c : Nat) : p ^ a ∣ m * p ^ c ↔ a ≤ c := by
  constructor
  · intro h
    rcases Nat.lt_or_ge c a with q | q
    · exfalso
      obtain ⟨b, rfl⟩ : ∃ b, a = c + 1 + b := ⟨a - (c + 1), by omega⟩
      have h2 : p ^ (c + 1) ∣ m * p ^ c := Nat.dvd_trans ⟨p ^ b, by rw [Nat.pow_add]⟩ h
      rw [Nat.pow_succ, Nat.mul_comm m] at h2
      exact hm (Nat.dvd_of_mul_dvd_mul_left (Nat.pow_pos hp.pos) h2)
    · exact q
  · intro h
    obtain ⟨b, rfl⟩ : ∃ b, c = a + b := ⟨c - a, by omega⟩
    exact ⟨m * p ^ b, by rw [Nat.pow_add, Nat.mul_left_comm]⟩
/-- a prime of the list with its exponent: what divides the product -/
theorem Good.split {fs : List (Nat × Nat)} (h : Good fs) {p c : Nat} (hm : (p, c) ∈ fs) : ∃ m, prodL fs = m * p ^ c ∧ ¬ p ∣ m := by
  obtain ⟨xs, ys, rfl⟩ := List.append_of_mem hm
  have hp := (h.pr _ hm).1
  refine ⟨prodL xs * prodL ys, by rw [prodL_append, prodL_cons, Nat.mul_comm (p ^ c), Nat.mul_assoc], fun hd => ?_⟩
  have up := List.pairwise_append.mp h.up
  have h1 := h.append
  rcases hp.dvd_mul hd with q | q
  · refine h1.1.not_dvd hp (fun f hf e => ?_) q
    have := up.2.2 f hf (p, c) (List.mem_cons_self ..)
    simp at this
    omega
  · refine h1.2.tail.not_dvd hp (fun f hf e => ?_) q
    have := (List.pairwise_cons.mp up.2.1).1 f hf
    simp at this
    omega
theorem Good.mem_of {fs gs : List (Nat × Nat)} (hf : Good fs) (hg : Good gs) (e : prodL fs = prodL gs) {p c : Nat} (hm : (p, c) ∈ fs) : (p, c) ∈ gs := by
  have hp := (hf.pr _ hm).1
  have hc := (hf.pr _ hm).2
  obtain ⟨m, e1, n1⟩ := hf.split hm
  have hd : p ∣ prodL gs := by
    rw [← e, e1]
    simp at hc
    obtain ⟨b, rfl⟩ : ∃ b, c = b + 1 := ⟨c - 1, by omega⟩
    exact ⟨m * p ^ b, by rw [Nat.pow_succ]; ac_rfl⟩
  obtain ⟨⟨p', c'⟩, hm', rfl⟩ := hg.prime_mem hp hd
  obtain ⟨m', e2, n2⟩ := hg.split hm'
  have i1 := pow_dvd_iff hp n1 c' c
  have i2 := pow_dvd_iff hp n1 c c
  have j1 := pow_dvd_iff hp n2 c c'
  have j2 := pow_dvd_iff hp n2 c' c'
  rw [← e1, e, e2] at i1 i2
  have a1 : c' ≤ c := i1.mp (j2.mpr (Nat.le_refl _))
  have a2 : c ≤ c' := j1.mp (i2.mpr (Nat.le_refl _))
  obtain rfl : c = c' := by omega
  exact hm'
/-- two lists that go up strictly and hold the same are the same -/
theorem up_ext {α : Type} {k : α → Nat} : ∀ {xs ys : List α}, xs.Pairwise (fun a b => k a < k b) → ys.Pairwise (fun a b => k a < k b) → (∀ a, a ∈ xs ↔ a ∈ ys) → xs = ys
  | [], [], _, _, _ => rfl
  | [], y :: ys, _, _, h => absurd ((h y).mpr (List.mem_cons_self ..)) (by simp)
  | x :: xs, [], _, _, h => absurd ((h x).mp (List.mem_cons_self ..)) (by simp)
  | x :: xs, y :: ys, hx, hy, h => by
    obtain ⟨x1, x2⟩ := List.pairwise_cons.mp hx
    obtain ⟨y1, y2⟩ := List.pairwise_cons.mp hy
    have e : x = y := by
      rcases List.mem_cons.mp ((h x).mp (List.mem_cons_self ..)) with q | q
      · exact q
      · rcases List.mem_cons.mp ((h y).mpr (List.mem_cons_self ..)) with z | z
        · exact z.symm
        · have := x1 y z
          have := y1 x q
          omega
    subst e
    refine congrArg (x :: ·) (up_ext x2 y2 fun a => ⟨fun ha => ?_, fun ha => ?_⟩)
    · rcases List.mem_cons.mp ((h a).mp (List.mem_cons_of_mem _ ha)) with q | q
      · subst q
        have := x1 a ha
        omega
      · exact q
    · rcases List.mem_cons.mp ((h a).mpr (List.mem_cons_of_mem _ ha)) with q | q
      · subst q
        have := y1 a ha
        omega
      · exact q
theorem Good.unique {fs gs : List (Nat × Nat)} (hf : Good fs) (hg : Good gs) (e : prodL fs = prodL gs) : fs = gs :=
  up_ext (k := fun f : Nat × Nat => f.1) hf.up hg.up fun ⟨p, c⟩ => ⟨hf.mem_of hg e, hg.mem_of hf e.symm⟩
/-! ### divisors -/
def dvStep (ds : List Nat) (f : Nat × Nat) : List Nat := ds.flatMap fun d => (List.range (f.2 + 1)).map fun j => d * f.1 ^ j
def dvs (fs : List (Nat × Nat)) : List Nat := fs.foldl dvStep [1]
theorem dvs_snoc {fs : List (Nat × Nat)} {f : Nat × Nat} : dvs (fs ++ [f]) = dvStep (dvs fs) f := by
  unfold dvs
  rw [List.foldl_append] <;> rfl
theorem step_dvd {m p : Nat} (hp : IsP p) (hm : ¬ p ∣ m) : ∀ c k, k ∣ m * p ^ c ↔ ∃ d j, d ∣ m ∧ j ≤ c ∧ k = d * p ^ j := by
  intro c
  induction c with
  | zero =>
    intro k
    constructor
    · intro h
      exact ⟨k, 0, by simpa using h, Nat.le_refl _, by simp⟩
    · rintro ⟨d, j, hd, hj, rfl⟩
      obtain rfl : j = 0 := by omega
      simpa using hd
  | succ c ih =>
    intro k
    constructor
    · intro h
      by_cases hk : p ∣ k
      · obtain ⟨b, rfl⟩ := hk
        rw [Nat.pow_succ, ← Nat.mul_assoc, Nat.mul_comm _ p] at h
        obtain ⟨d, j, hd, hj, rfl⟩ := (ih b).mp (Nat.dvd_of_mul_dvd_mul_left hp.pos h)
        exact ⟨d, j + 1, hd, by omega, by rw [Nat.pow_succ, Nat.mul_comm p, Nat.mul_assoc]⟩
      · have hc : Nat.Coprime k (p ^ (c + 1)) := Nat.Coprime.pow_right _ (hp.cop hk).symm
        exact ⟨k, 0, hc.dvd_of_dvd_mul_right h, Nat.zero_le _, by simp⟩
    · rintro ⟨d, j, hd, hj, rfl⟩
      exact Nat.mul_dvd_mul hd (Nat.pow_dvd_pow p hj)
theorem step_mem {ds : List Nat} {m p c : Nat} (hp : IsP p) (hm : ¬ p ∣ m) (h : ∀ k, k ∈ ds ↔ k ∣ m) (k : Nat) : k ∈ dvStep ds (p, c) ↔ k ∣ m * p ^ c := by
  rw [step_dvd hp hm]
  unfold dvStep
  simp only [List.mem_flatMap, List.mem_map, List.mem_range]
  constructor
  · rintro ⟨d, hd, j, hj, rfl⟩
    exact ⟨d, j, (h d).mp hd, by omega, rfl⟩
  · rintro ⟨d, j, hd, hj, rfl⟩
    exact ⟨d, (h d).mpr hd, j, by omega, rfl⟩
theorem pow_eq {p d e : Nat} (hp : IsP p) (hd : ¬ p ∣ d) (he : ¬ p ∣ e) : ∀ {i j : Nat}, d * p ^ i = e * p ^ j → d = e ∧ i = j
  | 0, 0, h => ⟨by simpa using h, rfl⟩
  | 0, j + 1, h => absurd ⟨e * p ^ j, by rw [Nat.pow_zero, Nat.mul_one] at h; rw [h, Nat.pow_succ]; ac_rfl⟩ hd
  | i + 1, 0, h => absurd ⟨d * p ^ i, by rw [Nat.pow_zero, Nat.mul_one] at h; rw [← h, Nat.pow_succ]; ac_rfl⟩ he
  | i + 1, j + 1, h => by
    have h2 : d * p ^ i = e * p ^ j := by
      rw [Nat.pow_succ, Nat.pow_succ, ← Nat.mul_assoc, ← Nat.mul_assoc] at h
      exact Nat.eq_of_mul_eq_mul_right hp.pos h
    obtain ⟨a, b⟩ := pow_eq hp hd he h2
    exact ⟨a, by omega⟩
theorem step_nodup {ds : List Nat} {m p c : Nat} (hp : IsP p) (hm : ¬ p ∣ m) (h : ∀ k ∈ ds, k ∣ m) (nd : ds.Nodup) : (dvStep ds (p, c)).Nodup := by
  have no : ∀ k ∈ ds, ¬ p ∣ k := fun k hk q => hm (Nat.dvd_trans q (h k hk))
  unfold dvStep
  refine List.pairwise_flatMap.mpr ⟨fun d hd => ?_, List.Pairwise.imp_of_mem (fun {a b} ha hb hne x hx y hy e => ?_) nd⟩
  · rw [List.pairwise_map]
    refine List.Pairwise.imp (fun {i j} hij e => ?_) (List.nodup_range (n := c + 1))
    exact hij (pow_eq hp (no d hd) (no d hd) e).2
  · simp only [List.mem_map, List.mem_range] at hx hy
    obtain ⟨i, _, rfl⟩ := hx
    obtain ⟨j, _, rfl⟩ := hy
    exact hne (pow_eq hp (no a ha) (no b hb) e).1
/-- the divisors made from a factor list: each once -/
theorem dvs_ok : ∀ (gs fs : List (Nat × Nat)), Good (fs ++ gs) → (dvs fs).Nodup → (∀ k, k ∈ dvs fs ↔ k ∣ prodL fs) → (dvs (fs ++ gs)).Nodup ∧ ∀ k, k ∈ dvs (fs ++ gs) ↔ k ∣ prodL (fs ++ gs)
  | [], fs, h, n, m => by simpa using ⟨n, m⟩
  | (p, c) :: gs, fs, h, n, m => by
    have hh : fs ++ (p, c) :: gs = (fs ++ [(p, c)]) ++ gs := by simp
    have hp := (h.pr (p, c) (by simp)).1
    have up := List.pairwise_append.mp h.up
    have nd : ¬ p ∣ prodL fs := h.append.1.not_dvd hp fun f hf e => by
      have := up.2.2 f hf (p, c) (List.mem_cons_self ..)
      simp at this
      omega
    rw [hh] at h ⊢
    refine dvs_ok gs _ h ?_ fun k => ?_
    · rw [dvs_snoc]
      exact step_nodup hp nd (fun k hk => (m k).mp hk) n
    · rw [dvs_snoc, step_mem hp nd m, prodL_append]
      simp
theorem dvs_all {fs : List (Nat × Nat)} (h : Good fs) : (dvs fs).Nodup ∧ ∀ k, k ∈ dvs fs ↔ k ∣ prodL fs := by
  have q := dvs_ok fs [] (by simpa using h) (by decide) (fun k => by simp [dvs])
  simpa using q
end NT

set_option Elab.async false
set_option linter.all false
set_option maxRecDepth 100000
set_option maxHeartbeats 1000000
namespace SX
open PySem PySem.Spec PyProof.Rows L2
section
variable {G : Hq} {σ : Eq'} {N B C : Eq' → Hq → Prop} {R : D → Hq → Prop}
@[simp] theorem wE_var0 {d : D} {Q : D → Hq → Prop} : wE (varC 0 (some d :: σ) G) Q = Q d G := ndP rfl
@[simp] theorem wE_varS {i : Nat} {x : Option D} {Q : D → Hq → Prop} : wE (varC (i + 1) (x :: σ) G) Q = wE (varC i σ G) Q := by
  unfold varC
  rw [List.getElem?_cons_succ]
theorem wS_augV {i : Nat} {g : D → D → Hq → Rs D} {e : EF} : wS (augC i g e σ G) N R B C = wE (varC i σ G) (fun x _ => wE (e σ G) (fun y G1 => wE (g x y G1) (fun z G2 => N (σ.set i (some z)) G2))) := by
  cases h : σ[i]? with
  | none =>
    unfold augC varC
    rw [h] <;> rfl
  | some o =>
    cases o with
    | none =>
      unfold augC varC
      rw [h] <;> rfl
    | some x => rw [wS_aug h, wE_var h]
theorem wE_if2 {b : Bool} {p q : Prop} : (if b = true then p else q) = ((b = true → p) ∧ (b = false → q)) := by
  cases b <;> simp
theorem int_mod (m p : Nat) : (m : Int) % (p : Int) = ((m % p : Nat) : Int) := by simp
theorem int_div (m p : Nat) : (m : Int) / (p : Int) = ((m / p : Nat) : Int) := by simp
end
/-! ### raised -/
noncomputable def raisedB : SF :=
  (seqC (setC 2 (cC (.int 1)))
    (seqC (whileC (valT (binC (cmpD fun i j => decide (j < i)) (varC 1) (cC (.int 0)))) (seqC (ifS (valT (binC (eqD false) (binC modD (varC 1) (cC (.int 2))) (cC (.int 1)))) (augC 2 imulD (varC 0)) passC)
    (seqC (augC 1 fdivD (cC (.int 2)))
    (ifS (valT (binC (cmpD fun i j => decide (j < i)) (varC 1) (cC (.int 0)))) (augC 0 imulD (varC 0)) passC))))
    (retC (varC 2))))
noncomputable def raisedF : FF := bodyC 3 raisedB
theorem imulD_bits {G : Hq} {i j : Int} {B : Nat} (hB : B ≤ 400000) (hi : i.natAbs < 2 ^ B) (hj : j.natAbs < 2 ^ B) : imulD (.int i) (.int j) G = .ok (.int (i * j)) G := by
  have h : ∀ n : Nat, n < 2 ^ B → n.log2 ≤ B := fun n hn => by
    by_cases z : n = 0
    · subst z
      simp
    · exact Nat.le_of_lt ((Nat.log2_lt z).mpr hn)
  have h1 := h _ hi
  have h2 := h _ hj
  have e : mulOk i j = true := decide_eq_true (by omega)
  show (if mulOk i j = true then _ else _) = _
  rw [if_pos e]
theorem mulD_bits {G : Hq} {i j : Int} {B : Nat} (hB : B ≤ 400000) (hi : i.natAbs < 2 ^ B) (hj : j.natAbs < 2 ^ B) : mulD (.int i) (.int j) G = .ok (.int (i * j)) G := imulD_bits hB hi hj
/-- a ** e for a ≥ 1 -/
theorem raised_ok {a e B : Nat} {G : Hq} (ha : 1 ≤ a) (hB : B ≤ 400000) (hb : a ^ e < 2 ^ B) : raisedF [.int a, .int e] G = .ok (.int ((a ^ e : Nat) : Int)) G := by
  have goal : wE (raisedF [.int a, .int e] G) fun v G' => v = .int ((a ^ e : Nat) : Int) ∧ G' = G := by
    unfold raisedF
    rw [wE_body]
    show wS (raisedB [some (.int a), some (.int e), none] G) _ _ _ _
    unfold raisedB
    simp only [wS_seq, wS_set, wE_c, List.set_cons_succ, List.set_cons_zero]
    refine wS_while (fun n σ G' => ∃ f b k : Nat, σ = [some (.int b), some (.int k), some (.int f)] ∧ G' = G ∧ 1 ≤ f ∧ 1 ≤ b ∧ f * b ^ k = a ^ e ∧ n = k) (fun n σ G' h => ?_) e _ G ⟨1, a, e, rfl, rfl, by omega, ha, by simp, rfl⟩
    obtain ⟨f, b, k, rfl, rfl, hf, hb1, hp, rfl⟩ := h
    simp only [wE_val, wE_bin, wE_varS, wE_var0, wE_c, cmpD_int, wE_ok, wE_toB, decide_eq_true_eq]
    by_cases hk : (0 : Int) < (n : Int)
    · rw [if_pos hk]
      have hk' : 1 ≤ n := by omega
      obtain ⟨bs, hbs⟩ : ∃ x, x = b ^ n := ⟨_, rfl⟩
      have fb : f < 2 ^ B := by
        have : f * 1 ≤ f * b ^ n := Nat.mul_le_mul_left f (Nat.pow_pos hb1)
        omega
      have bb : b < 2 ^ B := by
        have h1 : b ^ 1 ≤ b ^ n := Nat.pow_le_pow_right hb1 hk'
        rw [Nat.pow_one] at h1
        have h2 : 1 * b ^ n ≤ f * b ^ n := Nat.mul_le_mul_right _ hf
        omega
      have e2 : b ^ n = b ^ (n % 2) * (b * b) ^ (n / 2) := by
        have : b * b = b ^ 2 := by rw [Nat.pow_two]
        rw [this, ← Nat.pow_mul, ← Nat.pow_add]
        congr 1
        omega
      have tail : ∀ (f' : Nat), 1 ≤ f' → f' * (b * b) ^ (n / 2) = a ^ e → wS (seqC (augC 1 fdivD (cC (.int 2)))
            (ifS (valT (binC (cmpD fun i j => decide (j < i)) (varC 1) (cC (.int 0)))) (augC 0 imulD (varC 0)) passC) [some (.int b), some (.int n), some (.int f')] G')
            (fun σ' G'' => ∃ m, m < n ∧ ∃ f b k : Nat, σ' = [some (.int b), some (.int k), some (.int f)] ∧ G'' = G' ∧ 1 ≤ f ∧ 1 ≤ b ∧ f * b ^ k = a ^ e ∧ m = k) (fun v G'' => v = .int ((a ^ e : Nat) : Int) ∧ G'' = G') (fun _ G'' => False) (fun σ' G'' => ∃ m, m < n ∧ ∃ f b k : Nat, σ' = [some (.int b), some (.int k), some (.int f)] ∧ G'' = G' ∧ 1 ≤ f ∧ 1 ≤ b ∧ f * b ^ k = a ^ e ∧ m = k) := by
        intro f' hf' hp'
        simp only [wS_seq, wS_augV, wE_varS, wE_var0, wE_c, fdivD_int (j := 2) (by omega) (by omega), wE_ok, List.set_cons_succ, List.set_cons_zero, wS_if, wE_val, wE_bin, cmpD_int, wE_toB, decide_eq_true_eq]
        have ed : (n : Int) / 2 = ((n / 2 : Nat) : Int) := by omega
        rw [ed]
        by_cases hk2 : (0 : Int) < ((n / 2 : Nat) : Int)
        · rw [if_pos hk2, imulD_bits hB (by simpa using bb) (by simpa using bb), wE_ok]
          exact ⟨n / 2, by omega, f', b * b, n / 2, by simp, rfl, hf', Nat.mul_pos hb1 hb1, hp', rfl⟩
        · rw [if_neg hk2, wS_pass]
          refine ⟨n / 2, by omega, f', b, n / 2, rfl, rfl, hf', hb1, ?_, rfl⟩
          have z : n / 2 = 0 := by omega
          rw [z] at hp' ⊢
          simpa using hp'
      simp only [wS_seq (a := ifS _ _ _), wS_if, wE_val, wE_bin, wE_varS, wE_var0, wE_c, modD_int (j := 2) (by omega), wE_ok, eqD_int, wE_toB, Bool.false_eq_true, if_false, decide_eq_true_eq]
      by_cases ho : (n : Int) % 2 = 1
      · rw [if_pos ho, wS_augV]
        simp only [wE_varS, wE_var0, imulD_bits hB (i := (f : Int)) (j := (b : Int)) (by simpa using fb) (by simpa using bb), wE_ok, List.set_cons_succ, List.set_cons_zero]
        have t := tail (f * b) (Nat.mul_pos hf hb1) (by
          rw [e2] at hp
          have z : n % 2 = 1 := by omega
          rw [z, Nat.pow_one, ← Nat.mul_assoc] at hp
          exact hp)
        refine wS_imp t (fun _ _ q => by simpa using q) (fun _ _ q => q) (fun _ _ q => q.elim) fun _ _ q => by simpa using q
      · rw [if_neg ho, wS_pass]
        have t := tail f hf (by
          rw [e2] at hp
          have z : n % 2 = 0 := by omega
          rw [z, Nat.pow_zero, Nat.one_mul] at hp
          exact hp)
        refine wS_imp t (fun _ _ q => q) (fun _ _ q => q) (fun _ _ q => q.elim) fun _ _ q => q
    · rw [if_neg hk]
      have z : n = 0 := by omega
      subst z
      simp only [wS_ret, wE_varS, wE_var0]
      rw [Nat.pow_zero, Nat.mul_one] at hp
      rw [← hp]
      simp
  obtain ⟨v, G', e1, rfl, rfl⟩ := wE_get goal
  exact e1
end SX

set_option Elab.async false
set_option linter.all false
set_option maxRecDepth 100000
set_option maxHeartbeats 1000000
namespace SX
open PySem PySem.Spec PyProof.Rows L2 NT
/-! ### primes_of -/
noncomputable def primesB : SF :=
  (seqC (setC 1 (lstC nilA))
    (seqC (setC 2 (cC (.int 2)))
    (seqC (whileC (valT (binC (cmpD fun i j => decide (i ≤ j)) (binC mulD (varC 2) (varC 2)) (varC 0))) (seqC (setC 3 (cC (.int 0)))
    (seqC (whileC (valT (binC (eqD false) (binC modD (varC 0) (varC 2)) (cC (.int 0)))) (seqC (augC 0 fdivD (varC 2))
    (augC 3 iaddD (cC (.int 1)))))
    (seqC (ifS (valT (binC (cmpD fun i j => decide (j < i)) (varC 3) (cC (.int 0)))) (exprC (methC isL appendD (varC 1) (consA (tupC (consA (varC 2) (consA (varC 3) nilA))) nilA))) passC)
    (augC 2 iaddD (ifC (valT (binC (eqD false) (varC 2) (cC (.int 2)))) (cC (.int 1)) (cC (.int 2))))))))
    (seqC (ifS (valT (binC (cmpD fun i j => decide (j < i)) (varC 0) (cC (.int 1)))) (exprC (methC isL appendD (varC 1) (consA (tupC (consA (varC 0) (consA (cC (.int 1)) nilA))) nilA))) passC)
    (retC (varC 1))))))
noncomputable def primesF : FF := bodyC 4 primesB
def pcD (f : Nat × Nat) : D := .tup [.int f.1, .int f.2]
theorem at_last {G : Hq} {c : SX.C} : (G ++ [c])[G.length]? = some c := by simp
/-- the inner loop: p out of m -/
theorem outP {p m0 : Nat} {d1 : D} {G : Hq} (hp : 2 ≤ p) (hb : p < 2 ^ 300) (h0 : 1 ≤ m0) {N : Eq' → Hq → Prop} {R : D → Hq → Prop} {B C : Eq' → Hq → Prop}
    (out : ∀ m c : Nat, m * p ^ c = m0 → 1 ≤ m → ¬ p ∣ m → N [some (.int m), some d1, some (.int p), some (.int c)] G) :
    wS (whileC (valT (binC (eqD false) (binC modD (varC 0) (varC 2)) (cC (.int 0)))) (seqC (augC 0 fdivD (varC 2)) (augC 3 iaddD (cC (.int 1)))) [some (.int m0), some d1, some (.int p), some (.int 0)] G) N R B C := by
  refine wS_while (fun n σ G' => ∃ m c : Nat, σ = [some (.int m), some d1, some (.int p), some (.int c)] ∧ G' = G ∧ m * p ^ c = m0 ∧ 1 ≤ m ∧ n = m) (fun n σ G' h => ?_) m0 _ G ⟨m0, 0, rfl, rfl, by simp, h0, rfl⟩
  obtain ⟨m, c, rfl, rfl, e, h1, rfl⟩ := h
  simp only [wE_val, wE_bin, wE_varS, wE_var0, wE_c, modD_int (j := (p : Int)) (by omega), wE_ok, eqD_int, wE_toB, Bool.false_eq_true, if_false, decide_eq_true_eq, int_mod]
  by_cases hd : ((n % p : Nat) : Int) = 0
  · rw [if_pos hd]
    simp only [wS_seq, wS_augV, wE_varS, wE_var0, wE_c, fdivD_int (j := (p : Int)) (by omega) (by omega), wE_ok, iaddD_int, List.set_cons_succ, List.set_cons_zero, int_div]
    have hd' : n % p = 0 := by omega
    have hm : n = p * (n / p) := by
      have := Nat.div_add_mod n p
      omega
    have hq : 1 ≤ n / p := by
      rcases Nat.eq_zero_or_pos (n / p) with z | z
      · rw [z] at hm
        omega
      · exact z
    refine ⟨n / p, Nat.div_lt_self h1 hp, n / p, c + 1, by simp, by simp, ?_, hq, rfl⟩
    rw [← e, Nat.pow_succ]
    conv => rhs; rw [hm]
    ac_rfl
  · rw [if_neg hd]
    refine out n c e h1 fun q => hd ?_
    rw [Nat.mod_eq_zero_of_dvd q] <;> rfl
theorem primes_ok {n : Nat} {G : Hq} (h1 : 1 ≤ n) (hb : n < 2 ^ 200) :
    ∃ fs, primesF [.int n] G = .ok (.ref G.length) (G ++ [.lst (fs.map pcD)]) ∧ Good fs ∧ prodL fs = n ∧ fs.length ≤ n := by
  have goal : wE (primesF [.int n] G) fun v G' => ∃ fs : List (Nat × Nat), v = .ref G.length ∧ G' = G ++ [.lst (fs.map pcD)] ∧ Good fs ∧ prodL fs = n ∧ fs.length ≤ n := by
    unfold primesF
    rw [wE_body]
    show wS (primesB [some (.int n), none, none, none] G) _ _ _ _
    unfold primesB
    have lens : ∀ fs : List (Nat × Nat), Good fs → fs.length < prodL fs := by
      intro fs hg
      induction fs with
      | nil => simp
      | cons f fs ih =>
        have i := ih hg.tail
        have h2 : 2 ≤ f.1 ^ f.2 := by
          have q := hg.pr f (List.mem_cons_self ..)
          have := q.1.1
          have := Nat.pow_le_pow_right q.1.pos q.2
          rw [Nat.pow_one] at this
          omega
        have := Nat.mul_le_mul_right (prodL fs) h2
        rw [prodL_cons, List.length_cons]
        omega
    simp only [wS_seq, wS_set, wE_lst, wE_nilA, wE_c, List.set_cons_succ, List.set_cons_zero]
    refine wS_while (fun v σ G' => ∃ (m p : Nat) (fs : List (Nat × Nat)) (x : Option D), σ = [some (.int m), some (.ref G.length), some (.int p), x] ∧ G' = G ++ [.lst (fs.map pcD)] ∧ 2 ≤ p ∧ (p = 2 ∨ p % 2 = 1) ∧ 1 ≤ m ∧ p ≤ n + 2 ∧
      m * prodL fs = n ∧ Good fs ∧ (∀ f ∈ fs, f.1 < p) ∧ (∀ d, 2 ≤ d → d < p → ¬ d ∣ m) ∧ v = n + 3 - p) (fun v σ G' h => ?_) (n + 1) _ _ ⟨n, 2, [], none, rfl, rfl, by omega, .inl rfl, h1, by omega, by simp, Good.nil, by simp, fun d h2 h3 => by omega, by omega⟩
    obtain ⟨m, p, fs, x, rfl, rfl, hp, ho, hm, hpn, hprod, hg, hlt, hno, rfl⟩ := h
    have hpos := prodL_pos hg
    have hmn : m ≤ n := by
      have := Nat.mul_le_mul_left m hpos
      omega
    have hfl := lens fs hg
    have hfn : prodL fs ≤ n := by
      have := Nat.mul_le_mul_right (prodL fs) hm
      omega
    have fb : fs.length < 16777216 := by
      -- 2 ^ length ≤ product
      have pw : ∀ gs : List (Nat × Nat), Good gs → 2 ^ gs.length ≤ prodL gs := by
        intro gs hg
        induction gs with
        | nil => simp
        | cons f gs ih =>
          have i := ih hg.tail
          have h2 : 2 ≤ f.1 ^ f.2 := by
            have q := hg.pr f (List.mem_cons_self ..)
            have := q.1.1
            have := Nat.pow_le_pow_right q.1.pos q.2
            rw [Nat.pow_one] at this
            omega
          rw [prodL_cons, List.length_cons, Nat.pow_succ, Nat.mul_comm]
          exact Nat.mul_le_mul h2 i
      have h5 := pw fs hg
      have h6 : 2 ^ fs.length < 2 ^ 200 := by omega
      have h7 := (Nat.pow_lt_pow_iff_right (a := 2) (by omega)).mp h6
      omega
    simp only [wE_val, wE_bin, wE_varS, wE_var0, mulD_int (i := (p : Int)) (j := (p : Int)) (by omega) (by omega), wE_ok, cmpD_int, wE_toB, decide_eq_true_eq]
    have hpp : ((p : Int) * (p : Int) ≤ (m : Int)) ↔ p * p ≤ m := by
      rw [← Int.natCast_mul]
      omega
    by_cases hc : (p : Int) * (p : Int) ≤ (m : Int)
    · rw [if_pos hc]
      have hc' := hpp.mp hc
      have hpm : p ≤ m := Nat.le_trans (Nat.le_mul_of_pos_left p (by omega)) hc'
      simp only [wS_seq, wS_set, wE_c, List.set_cons_succ, List.set_cons_zero]
      refine outP hp (by omega) hm fun m' c e hm' hn' => ?_
      simp only [wS_if, wE_val, wE_bin, wE_varS, wE_var0, wE_c, wE_ok, cmpD_int, wE_toB, decide_eq_true_eq]
      have hm'd : m' ∣ m := ⟨p ^ c, e.symm⟩
      have next : ∀ (fs' : List (Nat × Nat)), m' * prodL fs' = n → Good fs' → (∀ f ∈ fs', f.1 < p + 1) →
          wS (augC 2 iaddD (ifC (valT (binC (eqD false) (varC 2) (cC (.int 2)))) (cC (.int 1)) (cC (.int 2))) [some (.int m'), some (.ref G.length), some (.int p), some (.int c)] (G ++ [.lst (fs'.map pcD)]))
            (fun σ' G'' => ∃ v', v' < n + 3 - p ∧ ∃ (m p : Nat) (fs : List (Nat × Nat)) (x : Option D), σ' = [some (.int m), some (.ref G.length), some (.int p), x] ∧ G'' = G ++ [.lst (fs.map pcD)] ∧ 2 ≤ p ∧ (p = 2 ∨ p % 2 = 1) ∧ 1 ≤ m ∧ p ≤ n + 2 ∧
              m * prodL fs = n ∧ Good fs ∧ (∀ f ∈ fs, f.1 < p) ∧ (∀ d, 2 ≤ d → d < p → ¬ d ∣ m) ∧ v' = n + 3 - p)
            (fun v G'' => ∃ fs : List (Nat × Nat), v = .ref G.length ∧ G'' = G ++ [.lst (fs.map pcD)] ∧ Good fs ∧ prodL fs = n ∧ fs.length ≤ n) (fun _ _ => False) (fun σ' G'' => ∃ v', v' < n + 3 - p ∧ ∃ (m p : Nat) (fs : List (Nat × Nat)) (x : Option D), σ' = [some (.int m), some (.ref G.length), some (.int p), x] ∧ G'' = G ++ [.lst (fs.map pcD)] ∧ 2 ≤ p ∧ (p = 2 ∨ p % 2 = 1) ∧ 1 ≤ m ∧ p ≤ n + 2 ∧
              m * prodL fs = n ∧ Good fs ∧ (∀ f ∈ fs, f.1 < p) ∧ (∀ d, 2 ≤ d → d < p → ¬ d ∣ m) ∧ v' = n + 3 - p) := by
        intro fs' hprod' hg' hlt'
        have base : ∀ d, 2 ≤ d → d < p + 1 → ¬ d ∣ m' := fun d h2 h3 hd => by
          by_cases z : d = p
          · subst z
            exact hn' hd
          · exact hno d h2 (by omega) (Nat.dvd_trans hd hm'd)
        simp only [wS_augV, wE_varS, wE_var0, wE_ifC, wE_val, wE_bin, wE_c, eqD_int, wE_ok, wE_toB, Bool.false_eq_true, if_false, decide_eq_true_eq, iaddD_int, List.set_cons_succ, List.set_cons_zero]
        by_cases h2 : (p : Int) = 2
        · rw [if_pos h2]
          have h2' : p = 2 := by omega
          refine ⟨n + 3 - (p + 1), by omega, m', p + 1, fs', some (.int c), by simp, rfl, by omega, .inr (by omega), hm', by omega, hprod', hg', hlt', base, rfl⟩
        · rw [if_neg h2]
          refine ⟨n + 3 - (p + 2), by omega, m', p + 2, fs', some (.int c), by simp, rfl, by omega, .inr (by omega), hm', by omega, hprod', hg', fun f hf => Nat.lt_trans (hlt' f hf) (by omega), fun d d2 d3 hd => ?_, rfl⟩
          by_cases z : d = p + 1
          · subst z
            have hev : 2 ∣ p + 1 := ⟨(p + 1) / 2, by omega⟩
            exact base 2 (by omega) (by omega) (Nat.dvd_trans hev hd)
          · exact base d d2 (by omega) hd
      by_cases hc0 : (0 : Int) < (c : Int)
      · rw [if_pos hc0]
        have hpd : p ∣ m := by
          obtain ⟨b, rfl⟩ : ∃ b, c = b + 1 := ⟨c - 1, by omega⟩
          exact ⟨m' * p ^ b, by rw [← e, Nat.pow_succ]; ac_rfl⟩
        have ip := least_prime hp hpd hno
        simp only [wS_expr, wE_meth, wE_varS, wE_var0, isL_lst at_last, if_true, wE_consA, wE_tup, wE_nilA, appendD_lst (xs := fs.map pcD) at_last (by simpa using fb), wE_ok, app_last]
        have q := next (fs ++ [(p, c)]) (by rw [prodL_append, ← hprod, ← e]; simp; ac_rfl) (hg.snoc ip (by omega) hlt) (fun f hf => by
          rcases List.mem_append.mp hf with z | z
          · exact Nat.lt_trans (hlt f z) (by omega)
          · rw [List.mem_singleton] at z
            subst z
            simp)
        rw [List.map_append] at q
        exact wS_imp q (fun _ _ q => q) (fun _ _ q => q) (fun _ _ q => q.elim) fun _ _ q => q
      · rw [if_neg hc0, wS_pass]
        have c0 : c = 0 := by omega
        have q := next fs (by rw [← hprod, ← e, c0]; simp) hg (fun f hf => Nat.lt_trans (hlt f hf) (by omega))
        exact wS_imp q (fun _ _ q => q) (fun _ _ q => q) (fun _ _ q => q.elim) fun _ _ q => q
    · rw [if_neg hc]
      have hc' : m < p * p := by
        have := mt hpp.mpr hc
        omega
      simp only [wS_if, wE_val, wE_bin, wE_varS, wE_var0, wE_c, wE_ok, cmpD_int, wE_toB, decide_eq_true_eq]
      by_cases hm1 : (1 : Int) < (m : Int)
      · rw [if_pos hm1]
        have hm1' : 1 < m := by omega
        have ip := rest_prime hm1' hc' hno
        have pm : p ≤ m := by
          rcases Nat.lt_or_ge m p with z | z
          · exact absurd (Nat.dvd_refl m) (hno m (by omega) z)
          · exact z
        simp only [wS_expr, wE_meth, wE_varS, wE_var0, isL_lst at_last, if_true, wE_consA, wE_tup, wE_nilA, wE_c, appendD_lst (xs := fs.map pcD) at_last (by simpa using fb), wE_ok, app_last, wS_ret]
        have hg' : Good (fs ++ [(m, 1)]) := hg.snoc ip (by omega) fun f hf => Nat.lt_of_lt_of_le (hlt f hf) pm
        have hp' : prodL (fs ++ [(m, 1)]) = n := by
          rw [prodL_append, ← hprod]
          simp
          ac_rfl
        have := lens _ hg'
        exact ⟨fs ++ [(m, 1)], by simp, by simp [List.map_append, pcD], hg', hp', by omega⟩
      · rw [if_neg hm1, wS_pass]
        simp only [wS_ret, wE_varS, wE_var0]
        have m1 : m = 1 := by omega
        subst m1
        exact ⟨fs, by simp, by simp, hg, by simpa using hprod, by omega⟩
  obtain ⟨v, G', e1, fs, rfl, rfl, h⟩ := wE_get goal
  exact ⟨fs, e1, h⟩
end SX

set_option Elab.async false
set_option linter.all false
set_option maxRecDepth 100000
set_option maxHeartbeats 1000000
namespace SX
open PySem PySem.Spec PyProof.Rows L2 NT
/-! ### divisors -/
noncomputable def divisorsB : SF :=
  (seqC (setC 1 (lstC (consA (cC (.int 1)) nilA)))
    (seqC (forC (iterC (fnC primesF [] (consA (varC 0) nilA))) (gTp 2 (gCs (gN 2) (gCs (gN 3) gNl))) (setC 1 (lc2C (iterC (varC 1)) (gN 4) yesT (srcC rangeD (consA (binC addD (varC 3) (cC (.int 1))) nilA)) (gN 5) yesT (binC mulD (varC 4) (fnC raisedF [] (consA (varC 2) (consA (varC 5) nilA)))) [4, 5] [5])))
    (retC (callC sortedKD (consA (varC 1) nilA)))))
noncomputable def divisorsF : FF := bodyC 6 divisorsB
abbrev natD (n : Nat) : D := .int (n : Int)
section
variable {G : Hq} {σ : Eq'}
theorem wE_lc2 {i : IF} {g : GF} {t : TF} {i1 : IF} {g1 : GF} {t1 : TF} {e : EF} {vs vs1 : List Nat} {Q : D → Hq → Prop} :
    wE (lc2C i g t i1 g1 t1 e vs vs1 σ G) Q = wE (i σ G) (fun s G1 => wC (lcL s (lc2Turn g t i1 g1 t1 e (wipeD σ vs) vs1 G1.length) 0 (G1 ++ [.lst []])) (fun G2 => Q (.ref G1.length) G2)) := by
  show wE (Rs.bind _ _) Q = _
  rw [wE_bind]
  congr 1
  funext s G1
  exact wE_ofCr
theorem wC_turn2 {g : GF} {t : TF} {i1 : IF} {g1 : GF} {t1 : TF} {e : EF} {vs1 : List Nat} {p : Nat} {d : D} {Q : Hq → Prop} :
    wC (lc2Turn g t i1 g1 t1 e σ vs1 p d G) Q = wE (g d σ G) (fun σ1 G1 => wE (t σ1 G1) (fun x G2 => if x = true then wE (i1 σ1 G2) (fun s1 G3 => wC (lcL s1 (lcTurn g1 t1 e (wipeD σ1 vs1) p) 0 G3) Q) else Q G2)) := by
  unfold lc2Turn
  cases g d σ G with
  | ok σ1 G1 =>
    show wC (match t σ1 G1 with | .ok true G2 => _ | .ok false G2 => _ | _ => _) Q = wE (t σ1 G1) _
    cases t σ1 G1 with
    | ok x G2 =>
      cases x with
      | true =>
        show wC (match i1 σ1 G2 with | .ok s1 G3 => _ | _ => _) Q = wE (i1 σ1 G2) _
        cases i1 σ1 G2 <;> rfl
      | false => rfl
    | ex _ _ _ => rfl
    | bad => rfl
  | ex _ _ _ => rfl
  | bad => rfl
/-- the inner clause's walk, the cell p holding what was gathered: F gives what each item adds -/
theorem lc_more {s : Src} {g : GF} {t : TF} {e : EF} {σ0 : Eq'} {Q : Hq → Prop} (xs : List D) (F : D → List D) (acc0 : List D) (hlen : (acc0 ++ xs.flatMap F).length ≤ 16777216) (src : ∀ (k : Nat) (acc : List D), s k (G ++ [.lst acc]) = gives xs k)
    (turn : ∀ (k : Nat) (d : D) (acc : List D), xs[k]? = some d → wE (g d σ0 (G ++ [.lst acc])) fun σ1 G1 => wE (t σ1 G1) fun x G2 => if x = true then wE (e σ1 G2) fun y G3 => G3 = G ++ [.lst acc] ∧ F d = [y] else G2 = G ++ [.lst acc] ∧ F d = [])
    (out : Q (G ++ [.lst (acc0 ++ xs.flatMap F)])) : wC (lcL s (lcTurn g t e σ0 G.length) 0 (G ++ [.lst acc0])) Q := by
  refine wC_imp (lcL_run xs (fun k G' => G' = G ++ [.lst (acc0 ++ (xs.take k).flatMap F)]) (fun k G' hI => by rw [hI]; exact src k _) (fun k d G' hd hI => ?_) xs.length 0 (G ++ [.lst acc0]) (by omega) (by simp)) fun G' hI => by rw [hI, List.take_length]; exact out
  subst hI
  rw [wC_turn]
  have tk : xs.take (k + 1) = xs.take k ++ [d] := by
    rw [List.take_succ, hd] <;> rfl
  refine wE_imp (turn k d _ hd) fun σ1 G1 q => wE_imp q fun x G2 q => ?_
  split
  · rename_i hx
    rw [if_pos hx] at q
    refine wE_imp q fun y G3 ⟨e3, ey⟩ => ?_
    subst e3
    have lt : (acc0 ++ (xs.take k).flatMap F).length < 16777216 := by
      have e0 : xs.flatMap F = (xs.take k).flatMap F ++ (F d ++ (xs.drop (k + 1)).flatMap F) := by
        conv => lhs; rw [← List.take_append_drop (k + 1) xs, List.flatMap_append, tk, List.flatMap_append]
        simp
      rw [e0, ey] at hlen
      simp only [List.length_append, List.length_cons, List.length_nil] at hlen ⊢
      omega
    rw [wC_app (by simp) lt, app_last, tk, List.flatMap_append]
    simp [ey]
  · rename_i hx
    rw [if_neg hx] at q
    rw [q.1, tk, List.flatMap_append]
    simp [q.2]
theorem rangeD1 {n : Int} (h : small62 n = true) : rangeD [.int n] G = .ok (itR 0 1 n.toNat) G := by
  show (if small62 n = true then _ else _) = _
  rw [if_pos h]
theorem rangeD2 {m n : Int} (h1 : small62 m = true) (h2 : small62 n = true) : rangeD [.int m, .int n] G = .ok (itR m 1 (n - m).toNat) G := by
  show (if (small62 m && small62 n) = true then _ else _) = _
  rw [h1, h2] <;> rfl
theorem small_of {n : Int} (h0 : -(2 ^ 62) ≤ n) (h1 : n < 2 ^ 62) : small62 n = true := by
  unfold small62
  rw [Bool.and_eq_true_iff]
  exact ⟨decide_eq_true h0, decide_eq_true h1⟩
/-- what range(lo, ..) gives, as a list -/
theorem src_itR {lo st : Int} {n k : Nat} : itR lo st n k G = gives ((List.range n).map fun k : Nat => D.int (lo + k * st)) k := by
  unfold gives itR
  by_cases hk : k < n
  · simp [hk]
  · simp [hk]
end
theorem natD_ints (ns : List Nat) : ns.map natD = (ns.map Int.ofNat).map D.int := by
  rw [List.map_map] <;> rfl
/-- the divisors of n, going up -/
def divs (n : Nat) : List Nat := ((List.range n).map (· + 1)).filter fun k => n % k == 0
theorem mem_divs {n k : Nat} (hn : 1 ≤ n) : k ∈ divs n ↔ k ∣ n := by
  unfold divs
  rw [List.mem_filter]
  simp only [List.mem_map, List.mem_range, beq_iff_eq]
  constructor
  · rintro ⟨_, h⟩
    exact Nat.dvd_of_mod_eq_zero h
  · intro h
    have h1 := Nat.le_of_dvd hn h
    have h0 : 0 < k := Nat.pos_of_dvd_of_pos h hn
    exact ⟨⟨k - 1, by omega, by omega⟩, Nat.mod_eq_zero_of_dvd h⟩
theorem up_divs (n : Nat) : (divs n).Pairwise (· < ·) := by
  unfold divs
  refine List.Pairwise.filter _ ?_
  rw [List.pairwise_map]
  exact List.Pairwise.imp (fun h => by omega) List.pairwise_lt_range
/-- sorted: a list of naturals each once, holding what divs holds -/
theorem sort_divs {ns : List Nat} {n : Nat} (hn : 1 ≤ n) (nd : ns.Nodup) (h : ∀ k, k ∈ ns ↔ k ∣ n) : sortI (ns.map Int.ofNat) = (divs n).map Int.ofNat := by
  have perm : (sortI (ns.map Int.ofNat)).Perm (ns.map Int.ofNat) := List.mergeSort_perm _ _
  have le : (sortI (ns.map Int.ofNat)).Pairwise (fun a b => decide (a ≤ b) = true) := List.pairwise_mergeSort (fun a b c h1 h2 => by
    simp at h1 h2 ⊢
    omega) (fun a b => by
    simp
    omega) _
  have nd2 : (sortI (ns.map Int.ofNat)).Nodup := perm.nodup_iff.mpr (by
    refine List.Pairwise.map _ (fun a b hab e => hab ?_) nd
    exact Int.ofNat.inj e)
  have nn : ∀ z ∈ sortI (ns.map Int.ofNat), 0 ≤ z := fun z hz => by
    obtain ⟨k, _, rfl⟩ := List.mem_map.mp (perm.mem_iff.mp hz)
    exact Int.natCast_nonneg k
  refine up_ext (k := Int.toNat) (List.Pairwise.imp_of_mem (fun {a b} ha hb hab => ?_) (le.and nd2)) ?_ fun a => ?_
  · have h1 := of_decide_eq_true hab.1
    have h2 : a ≠ b := hab.2
    have := nn a ha
    have := nn b hb
    omega
  · rw [List.pairwise_map]
    exact List.Pairwise.imp (fun h => by simpa using h) (up_divs n)
  · rw [perm.mem_iff, List.mem_map, List.mem_map]
    constructor
    · rintro ⟨k, hk, rfl⟩
      exact ⟨k, (mem_divs hn).mpr ((h k).mp hk), rfl⟩
    · rintro ⟨k, hk, rfl⟩
      exact ⟨k, (h k).mpr ((mem_divs hn).mp hk), rfl⟩
theorem divs_len (n : Nat) : (divs n).length ≤ n := by
  unfold divs
  refine Nat.le_trans (List.length_filter_le _ _) ?_
  simp
end SX

set_option Elab.async false
set_option linter.all false
set_option maxRecDepth 100000
set_option maxHeartbeats 1000000
namespace SX
open PySem PySem.Spec PyProof.Rows L2 NT
theorem len_without (M : Nat) : ∀ xs : List Nat, xs.Nodup → xs.length ≤ (xs.filter fun x => !(x == M)).length + 1
  | [], _ => by simp
  | x :: xs, nd => by
    obtain ⟨h1, h2⟩ := List.pairwise_cons.mp nd
    by_cases e : x = M
    · have : xs.filter (fun x => !(x == M)) = xs := List.filter_eq_self.mpr fun y hy => by
        have := h1 y hy
        simp
        omega
      rw [List.filter_cons_of_neg (by simp [e]), this, List.length_cons]
      exact Nat.le_refl _
    · rw [List.filter_cons_of_pos (by simp [e]), List.length_cons, List.length_cons]
      have := len_without M xs h2
      omega
theorem few_below : ∀ (M : Nat) (xs : List Nat), xs.Nodup → (∀ x ∈ xs, x < M) → xs.length ≤ M
  | 0, [], _, _ => Nat.le_refl _
  | 0, x :: xs, _, h => absurd (h x (List.mem_cons_self ..)) (by omega)
  | M + 1, xs, nd, h => by
    have i := few_below M (xs.filter fun x => !(x == M)) (nd.filter _) fun x hx => by
      obtain ⟨h1, h2⟩ := List.mem_filter.mp hx
      have := h x h1
      simp at h2
      omega
    have := len_without M xs nd
    omega
theorem flat_one {α β : Type} (f : α → β) : ∀ l : List α, (l.flatMap fun x => [f x]) = l.map f
  | [] => rfl
  | x :: l => by rw [List.flatMap_cons, flat_one f l] <;> rfl
/-- how many divisors -/
theorem few_dvs {n : Nat} {ds : List Nat} (h1 : 1 ≤ n) (hb : n < 2 ^ 44) (nd : ds.Nodup) (h : ∀ k ∈ ds, k ∣ n) : ds.length ≤ 8388612 := by
  have pos : ∀ k ∈ ds, 0 < k := fun k hk => Nat.pos_of_dvd_of_pos (h k hk) h1
  have cof : ∀ k ∈ ds, k * (n / k) = n := fun k hk => Nat.mul_div_cancel' (h k hk)
  have small : ∀ k, k * k ≤ n → k < 4194304 := fun k hk => by
    rcases Nat.lt_or_ge k 4194304 with q | q
    · exact q
    · have := Nat.mul_le_mul q q
      omega
  have co : ∀ k ∈ ds, ¬ k * k ≤ n → (n / k) * (n / k) ≤ n := fun k hk hn => by
    have e := cof k hk
    have p := pos k hk
    have lt : n / k < k := by
      rcases Nat.lt_or_ge (n / k) k with q | q
      · exact q
      · have := Nat.mul_le_mul_left k q
        omega
    have := Nat.mul_le_mul_right (n / k) (Nat.le_of_lt lt)
    omega
  have q := few_below 8388612 (ds.map fun k => if k * k ≤ n then 2 * k else 2 * (n / k) + 1) (by
    refine List.pairwise_map.mpr (List.Pairwise.imp_of_mem (fun {a b} ha hb hab e => hab ?_) nd)
    have ea := cof a ha
    have eb := cof b hb
    have pa := pos a ha
    by_cases ca : a * a ≤ n
    · by_cases cb : b * b ≤ n
      · rw [if_pos ca, if_pos cb] at e
        omega
      · rw [if_pos ca, if_neg cb] at e
        omega
    · by_cases cb : b * b ≤ n
      · rw [if_neg ca, if_pos cb] at e
        omega
      · rw [if_neg ca, if_neg cb] at e
        have e2 : n / a = n / b := by omega
        rw [e2] at ea
        have pq : 0 < n / b := by
          rcases Nat.eq_zero_or_pos (n / b) with z | z
          · rw [z] at eb
            omega
          · exact z
        exact Nat.eq_of_mul_eq_mul_right pq (ea.trans eb.symm)) (fun x hx => by
    obtain ⟨k, hk, rfl⟩ := List.mem_map.mp hx
    by_cases c : k * k ≤ n
    · rw [if_pos c]
      have := small k c
      omega
    · rw [if_neg c]
      have := small _ (co k hk c)
      omega)
  simpa using q
theorem good_bits {fs : List (Nat × Nat)} (hg : Good fs) {p c : Nat} (hm : (p, c) ∈ fs) : p ^ c ≤ prodL fs ∧ p ≤ prodL fs ∧ c < prodL fs := by
  obtain ⟨m, e, hn⟩ := hg.split hm
  have hq := hg.pr _ hm
  have pos := prodL_pos hg
  have m1 : 1 ≤ m := by
    rcases Nat.eq_zero_or_pos m with z | z
    · rw [z] at e
      omega
    · exact z
  have a1 : p ^ c ≤ prodL fs := by
    rw [e]
    exact Nat.le_mul_of_pos_left _ m1
  have a2 : p ^ 1 ≤ p ^ c := Nat.pow_le_pow_right hq.1.pos hq.2
  have a3 : c < p ^ c := Nat.lt_pow_self hq.1.1
  rw [Nat.pow_one] at a2
  exact ⟨a1, by omega, by omega⟩
theorem dvs_prefix {fs : List (Nat × Nat)} (hg : Good fs) (k : Nat) : (dvs (fs.take k)).Nodup ∧ ∀ d ∈ dvs (fs.take k), d ∣ prodL fs := by
  have hg' : Good (fs.take k ++ fs.drop k) := by rw [List.take_append_drop]; exact hg
  obtain ⟨h1, h2⟩ := dvs_all hg'.append.1
  refine ⟨h1, fun d hd => Nat.dvd_trans ((h2 d).mp hd) ?_⟩
  conv => rhs; rw [← List.take_append_drop k fs, prodL_append]
  exact ⟨_, rfl⟩
theorem divisors_ok {n : Nat} {G : Hq} (h1 : 1 ≤ n) (hb : n < 2 ^ 44) :
    ∃ p G', divisorsF [.int n] G = .ok (.ref p) G' ∧ Fr [] G G' ∧ G'[p]? = some (.lst ((divs n).map natD)) ∧ G.length ≤ p := by
  have goal : wE (divisorsF [.int n] G) fun v G' => ∃ p, v = .ref p ∧ Fr [] G G' ∧ G'[p]? = some (.lst ((divs n).map natD)) ∧ G.length ≤ p := by
    unfold divisorsF
    rw [wE_body]
    show wS (divisorsB [some (.int n), none, none, none, none, none] G) _ _ _ _
    unfold divisorsB
    obtain ⟨fs, ef, hg, hp, _⟩ := primes_ok (n := n) (G := G ++ [.lst [.int 1]]) h1 (by omega)
    simp only [wS_seq, wS_set, wE_lst, wE_consA, wE_c, wE_nilA, List.set_cons_succ, List.set_cons_zero, wS_for, wE_iter, wE_fn, wE_varS, wE_var0, List.append_nil, ef, wE_ok]
    have fr1 : Fr [] G (G ++ [.lst [.int 1]] ++ [.lst (fs.map pcD)]) := Fr.new.trans Fr.new
    have at1 : (G ++ [.lst [.int 1]] ++ [.lst (fs.map pcD)])[(G ++ [SX.C.lst [.int 1]]).length]? = some (.lst (fs.map pcD)) := at_last
    have at0 : (G ++ [.lst [.int 1]] ++ [.lst (fs.map pcD)])[G.length]? = some (.lst [.int 1]) := by
      rw [List.getElem?_append_left (by simp)]
      exact at_last
    generalize hG1 : G ++ [.lst [.int 1]] ++ [.lst (fs.map pcD)] = G1 at fr1 at1 at0
    generalize hP : (G ++ [SX.C.lst [.int 1]]).length = P at at1
    simp only [iterD_ref (lstOf_lst at1), wE_ok]
    refine wS_forLs (fs.map pcD) (fun k σ G' => ∃ (q : Nat) (x2 x3 x4 x5 : Option D), σ = [some (.int n), some (.ref q), x2, x3, x4, x5] ∧ Fr [] G1 G' ∧ G'[q]? = some (.lst ((dvs (fs.take k)).map natD)) ∧ G.length ≤ q)
      ⟨G.length, none, none, none, none, rfl, Fr.refl, (by show G1[G.length]? = _; rw [at0]; rfl), Nat.le_refl _⟩ (fun k σ G' h => ?_) (fun k d σ G' hd h => ?_) (fun σ G' h => ?_)
    · obtain ⟨q, x2, x3, x4, x5, rfl, fr, hq, hl⟩ := h
      exact lstOf_lst (fr.get at1 (by simp))
    · obtain ⟨q, x2, x3, x4, x5, rfl, fr, hq, hl⟩ := h
      rw [List.getElem?_map] at hd
      obtain ⟨⟨p, c⟩, hk, rfl⟩ := Option.map_eq_some_iff.mp hd
      have hm : (p, c) ∈ fs := List.mem_of_getElem? hk
      obtain ⟨b1, b2, b3⟩ := good_bits hg hm
      rw [hp] at b1 b2 b3
      have hpp := (hg.pr _ hm).1
      have tk : fs.take (k + 1) = fs.take k ++ [(p, c)] := by
        rw [List.take_succ, hk] <;> rfl
      have nx := dvs_prefix hg (k + 1)
      have nk := dvs_prefix hg k
      rw [hp] at nx nk
      have nl := few_dvs h1 hb nx.1 nx.2
      rw [tk, dvs_snoc] at nl nx
      simp only [pcD, wE_gTp (n := 2) (xs := [.int p, .int c]) rfl, wE_gCs, wE_gN, wE_gNl, List.set_cons_succ, List.set_cons_zero, wS_set, wE_lc2, wE_iter, wE_varS, wE_var0, iterD_ref (lstOf_lst hq), wE_ok]
      have hql : q < G'.length := lt_of_at hq
      have pl : ∀ ds : List Nat, ds <+: dvs (fs.take k) → (dvStep ds (p, c)).length ≤ 16777216 := fun ds hds => by
        obtain ⟨r, hr⟩ := hds
        have : (dvStep (dvs (fs.take k)) (p, c)).length = (dvStep ds (p, c)).length + (dvStep r (p, c)).length := by
          rw [← hr]
          unfold dvStep
          rw [List.flatMap_append, List.length_append]
        omega
      refine wC_imp (lcL_run ((dvs (fs.take k)).map natD) (fun j G2 => G2 = G' ++ [.lst ((dvStep ((dvs (fs.take k)).take j) (p, c)).map natD)]) (fun j G2 hI => ?_) (fun j d G2 hd hI => ?_) _ 0 _ (Nat.zero_add _) (by simp [dvStep])) fun G2 hI => ?_
      · rw [hI]
        exact src_itL (lstOf_lst (by rw [List.getElem?_append_left hql]; exact hq))
      · subst hI
        rw [List.getElem?_map] at hd
        have hex : ∃ a, (dvs (fs.take k))[j]? = some a ∧ natD a = d := Option.map_eq_some_iff.mp hd
        clear hd
        cases hex
        rename_i a hae
        have ha := hae.1
        rw [← hae.2]
        have ham : a ∈ dvs (fs.take k) := List.mem_of_getElem? ha
        have had : a ∣ n := nk.2 a ham
        have hab : a ≤ n := Nat.le_of_dvd h1 had
        have tj : (dvs (fs.take k)).take (j + 1) = (dvs (fs.take k)).take j ++ [a] := by
          rw [List.take_succ, ha] <;> rfl
        simp only [wC_turn2, wE_gN, wipeD, List.set_cons_succ, List.set_cons_zero, wE_yes, if_true, wE_src, wE_consA, wE_bin, wE_varS, wE_var0, wE_c, addD_int, wE_ok, wE_nilA]
        rw [rangeD1 (small_of (by omega) (by omega)), wE_ok]
        have en : ((c : Int) + 1).toNat = c + 1 := by omega
        rw [en]
        have flat : ((dvStep ((dvs (fs.take k)).take j) (p, c)).map natD) ++ (((List.range (c + 1)).map fun i : Nat => D.int (0 + i * 1)).flatMap fun d => match d with | .int i => [natD (a * p ^ i.toNat)] | _ => []) = (dvStep ((dvs (fs.take k)).take (j + 1)) (p, c)).map natD := by
          rw [tj]
          unfold dvStep
          rw [List.flatMap_append, List.map_append]
          congr 1
          rw [List.flatMap_map]
          have e3 : (fun i : Nat => (match D.int (0 + (i : Int) * 1) with | .int i => [natD (a * p ^ i.toNat)] | _ => [])) = fun i : Nat => [natD (a * p ^ i)] := by
            funext i
            have hz : (0 + (i : Int) * 1).toNat = i := by omega
            show [natD (a * p ^ (0 + (i : Int) * 1).toNat)] = _
            rw [hz]
          refine (congrArg (fun F => (List.range (c + 1)).flatMap F) e3).trans ?_
          rw [flat_one]
          simp only [List.flatMap_cons, List.flatMap_nil, List.append_nil, List.map_map]
          rfl
        refine lc_more ((List.range (c + 1)).map fun i : Nat => D.int (0 + i * 1)) (fun d => match d with | .int i => [natD (a * p ^ i.toNat)] | _ => []) _ (by
          rw [flat, List.length_map]
          exact pl _ (List.take_prefix _ _)) (fun i acc => src_itR) (fun i d acc hi => ?_) (by rw [flat])
        have hic : i < c + 1 := by
          rcases Nat.lt_or_ge i (c + 1) with z | z
          · exact z
          · rw [List.getElem?_eq_none (by simpa using z)] at hi
            cases hi
        rw [List.getElem?_map, List.getElem?_range hic] at hi
        cases hi
        have pb : p ^ i ≤ p ^ c := Nat.pow_le_pow_right hpp.pos (by omega)
        have hz : (0 : Int) + (i : Int) * 1 = (i : Int) := by omega
        simp only [hz, wE_gN, wipeD, List.set_cons_succ, List.set_cons_zero, wE_yes, if_true, wE_bin, wE_varS, wE_var0, wE_fn, wE_consA, wE_nilA, wE_ok, List.append_nil, raised_ok (a := p) (e := i) (B := 100) hpp.pos (by omega) (by omega)]
        rw [mulD_bits (B := 100) (by omega) (by simp; omega) (by rw [Int.natAbs_natCast]; omega), wE_ok]
        refine ⟨by simp, ?_⟩
        simp
      · rw [List.length_map, List.take_length] at hI
        subst hI
        refine ⟨G'.length, _, _, _, _, rfl, fr.trans Fr.new, ?_, by
          have := fr1.le
          have := fr.le
          omega⟩
        rw [tk, dvs_snoc]
        exact at_last
    · obtain ⟨q, x2, x3, x4, x5, rfl, fr, hq, hl⟩ := h
      rw [List.length_map, List.take_length] at hq
      simp only [wS_ret, wE_call, wE_consA, wE_varS, wE_var0, wE_nilA]
      have da := dvs_all hg
      rw [hp] at da
      have es : sortedKD [.ref q] G' = .ok (.ref G'.length) (G' ++ [.lst ((divs n).map natD)]) := by
        unfold sortedKD
        simp only [hq, sortedD, lstOf_lst hq, Option.bind_some]
        rw [natD_ints, intsD_map]
        show Rs.ok _ (G' ++ [.lst ((sortI _).map D.int)]) = _
        rw [sort_divs h1 da.1 da.2, natD_ints]
      rw [es, wE_ok]
      refine ⟨_, rfl, fr1.trans (fr.trans Fr.new), at_last, ?_⟩
      have := fr1.le
      have := fr.le
      omega
  obtain ⟨v, G', e1, p, rfl, h⟩ := wE_get goal
  exact ⟨p, G', e1, h⟩
end SX

set_option Elab.async false
set_option linter.all false
set_option maxRecDepth 100000
set_option maxHeartbeats 1000000
namespace SX
open PySem PySem.Spec PyProof.Rows L2 NT
/-! ### comprehensions over a list of known make -/
theorem lc_sel {α : Type} {G : Hq} {s : Src} {g : GF} {t : TF} {e : EF} {σ0 : Eq'} {Q : Hq → Prop} (l : List α) (g1 h : α → D) (p : α → Bool) (hlen : l.length ≤ 16777216) (src : ∀ (k : Nat) (acc : List D), s k (G ++ [.lst acc]) = gives (l.map g1) k)
    (turn : ∀ a ∈ l, ∀ acc : List D, wE (g (g1 a) σ0 (G ++ [.lst acc])) fun σ1 G1 => wE (t σ1 G1) fun x G2 => x = p a ∧ G2 = G ++ [.lst acc] ∧ (p a = true → wE (e σ1 G2) fun y G3 => y = h a ∧ G3 = G ++ [.lst acc]))
    (out : Q (G ++ [.lst ((l.filter p).map h)])) : wC (lcL s (lcTurn g t e σ0 G.length) 0 (G ++ [.lst []])) Q := by
  refine wC_imp (lcL_run (l.map g1) (fun k G' => G' = G ++ [.lst (((l.take k).filter p).map h)]) (fun k G' hI => by rw [hI]; exact src k _) (fun k d G' hd hI => ?_) (l.map g1).length 0 (G ++ [.lst []]) (by omega) (by simp)) fun G' hI => by
    rw [hI, List.length_map, List.take_length]
    exact out
  subst hI
  rw [List.getElem?_map] at hd
  have hex : ∃ a, l[k]? = some a ∧ g1 a = d := Option.map_eq_some_iff.mp hd
  cases hex
  rename_i a hae
  have ha := hae.1
  rw [← hae.2, wC_turn]
  have tk : l.take (k + 1) = l.take k ++ [a] := by
    rw [List.take_succ, ha] <;> rfl
  refine wE_imp (turn a (List.mem_of_getElem? ha) _) fun σ1 G1 q => wE_imp q fun x G2 ⟨ex, eG, q⟩ => ?_
  subst ex
  cases hp : p a with
  | true =>
    rw [if_pos rfl]
    refine wE_imp (q hp) fun y G3 ⟨ey, e3⟩ => ?_
    subst ey
    subst e3
    have hk : k < l.length := (List.getElem?_eq_some_iff.mp ha).1
    have lt : (((l.take k).filter p).map h).length < 16777216 := by
      rw [List.length_map]
      have h1 := List.length_filter_le p (l.take k)
      have h2 : (l.take k).length ≤ k := by
        rw [List.length_take]
        exact Nat.min_le_left _ _
      omega
    rw [wC_app (by simp) lt, app_last, tk, List.filter_append, List.map_append]
    simp [hp]
  | false =>
    rw [if_neg (by simp)]
    show G2 = _
    rw [eG, tk, List.filter_append, List.map_append]
    simp [hp]
theorem lc_map {α : Type} {G : Hq} {s : Src} {g : GF} {t : TF} {e : EF} {σ0 : Eq'} {Q : Hq → Prop} (l : List α) (g1 h : α → D) (hlen : l.length ≤ 16777216) (src : ∀ (k : Nat) (acc : List D), s k (G ++ [.lst acc]) = gives (l.map g1) k)
    (turn : ∀ a ∈ l, ∀ acc : List D, wE (g (g1 a) σ0 (G ++ [.lst acc])) fun σ1 G1 => wE (t σ1 G1) fun x G2 => x = true ∧ wE (e σ1 G2) fun y G3 => y = h a ∧ G3 = G ++ [.lst acc])
    (out : Q (G ++ [.lst (l.map h)])) (same : ∀ a ∈ l, ∀ acc : List D, wE (g (g1 a) σ0 (G ++ [.lst acc])) fun σ1 G1 => wE (t σ1 G1) fun x G2 => G2 = G ++ [.lst acc]) : wC (lcL s (lcTurn g t e σ0 G.length) 0 (G ++ [.lst []])) Q := by
  refine lc_sel l g1 h (fun _ => true) hlen src (fun a ha acc => ?_) (by
    have e : l.filter (fun _ => true) = l := List.filter_eq_self.mpr fun _ _ => rfl
    rw [e]
    exact out)
  have q1 := turn a ha acc
  have q2 := same a ha acc
  cases eg : g (g1 a) σ0 (G ++ [.lst acc]) with
  | ok σ1 G1 =>
    rw [eg] at q1 q2
    rw [wE_ok] at q1 q2 ⊢
    cases et : t σ1 G1 with
    | ok x G2 =>
      rw [et] at q1 q2
      exact ⟨q1.1, q2, fun _ => q1.2⟩
    | ex _ _ _ =>
      rw [et] at q1
      exact q1.elim
    | bad =>
      rw [et] at q1
      exact q1.elim
  | ex _ _ _ =>
    rw [eg] at q1
    exact q1.elim
  | bad =>
    rw [eg] at q1
    exact q1.elim
theorem wE_eq {α : Type} {r : Rs α} {a : α} {G1 : Hq} (h : wE r fun v G' => v = a ∧ G' = G1) : r = .ok a G1 := by
  cases r with
  | ok v G' =>
    obtain ⟨h1, h2⟩ := (show v = a ∧ G' = G1 from h)
    rw [h1, h2]
  | ex _ _ _ => exact h.elim
  | bad => exact h.elim
/-! ### repr, and two values that show alike -/
mutual
def fineP : PyData → Bool
  | .none => true
  | .bool _ => true
  | .int i => decide (i.natAbs.log2 < 1920)
  | .str x => x.cps.toList.all fun c => decide (c < 16 ^ 8)
  | .list xs => finePs xs
  | .tuple xs => finePs xs
  | .dict _ => false
def finePs : List PyData → Bool
  | [] => true
  | x :: xs => fineP x && finePs xs
end
mutual
def szP : PyData → Nat
  | .none => 4
  | .bool _ => 5
  | .int i => i.natAbs.log2 + 2
  | .str x => 10 * x.cps.size + 2
  | .list xs => szPs xs + 3
  | .tuple xs => szPs xs + 3
  | .dict _ => 0
def szPs : List PyData → Nat
  | [] => 0
  | x :: xs => szP x + 2 + szPs xs
end
mutual
theorem fine_show : ∀ d : PyData, fineP d = true → d.showable = true
  | .none, _ => by simp only [PyData.showable]
  | .bool _, _ => by simp only [PyData.showable]
  | .int i, h => by
    simp only [fineP] at h
    simpa only [PyData.showable] using h
  | .str x, _ => by simp only [PyData.showable]
  | .list xs, h => by
    simp only [fineP] at h
    simpa only [PyData.showable] using fine_shows xs h
  | .tuple xs, h => by
    simp only [fineP] at h
    simpa only [PyData.showable] using fine_shows xs h
  | .dict _, h => by simp [fineP] at h
theorem fine_shows : ∀ ds : List PyData, finePs ds = true → PyData.showableAll ds = true
  | [], _ => by simp only [PyData.showableAll]
  | x :: xs, h => by
    simp only [finePs, Bool.and_eq_true] at h
    simp only [PyData.showableAll, Bool.and_eq_true]
    exact ⟨fine_show x h.1, fine_shows xs h.2⟩
end
mutual
theorem fine_dict : ∀ d : PyData, fineP d = true → d.hasDict = false
  | .none, _ => by simp only [PyData.hasDict]
  | .bool _, _ => by simp only [PyData.hasDict]
  | .int i, h => by simp only [PyData.hasDict]
  | .str x, _ => by simp only [PyData.hasDict]
  | .list xs, h => by
    simp only [fineP] at h
    simpa only [PyData.hasDict] using fine_dicts xs h
  | .tuple xs, h => by
    simp only [fineP] at h
    simpa only [PyData.hasDict] using fine_dicts xs h
  | .dict _, h => by simp [fineP] at h
theorem fine_dicts : ∀ ds : List PyData, finePs ds = true → PyData.hasDictAll ds = false
  | [], _ => by simp only [PyData.hasDictAll]
  | x :: xs, h => by
    simp only [finePs, Bool.and_eq_true] at h
    simp only [PyData.hasDictAll, fine_dict x h.1, fine_dicts xs h.2, Bool.or_self]
end
theorem shownAll_len : ∀ ds : List PyData, (PyData.shownAll ds).length = ds.length
  | [] => by simp only [PyData.shownAll, List.length_nil]
  | x :: xs => by simp only [PyData.shownAll, List.length_cons, shownAll_len xs]
mutual
theorem shown_sz : ∀ d : PyData, fineP d = true → d.shown.length ≤ szP d
  | .none, _ => by
    have e : (PyData.shown .none).length = 4 := rfl
    simp only [szP]
    omega
  | .bool b, _ => by
    have e : (PyData.shown (.bool b)).length ≤ 5 := by cases b <;> decide
    simp only [szP]
    omega
  | .int i, h => by
    have e := int_text_length_le (a := i) (k := i.natAbs.log2 + 1) (by omega) (by omega)
    simp only [szP]
    show (Str.ofString (toString i)).length ≤ _
    rw [PySem.ofString_length]
    omega
  | .str x, h => by
    simp only [fineP, List.all_eq_true, decide_eq_true_eq] at h
    have e := StrLaws.reprText_len x h
    have e2 : x.length = x.cps.size := rfl
    simp only [szP, PyData.shown]
    omega
  | .list xs, h => by
    simp only [fineP] at h
    have h1 := shown_szs xs h
    have h2 := listText_len_le (PyData.shownAll xs)
    simp only [PyData.shown, szP]
    omega
  | .tuple xs, h => by
    simp only [fineP] at h
    have h1 := shown_szs xs h
    have h2 := tupleText_len_le (PyData.shownAll xs)
    simp only [PyData.shown, szP]
    omega
  | .dict _, h => by simp [fineP] at h
theorem shown_szs : ∀ ds : List PyData, finePs ds = true → ((PyData.shownAll ds).map (·.length)).sum + 2 * (PyData.shownAll ds).length ≤ szPs ds
  | [], _ => by simp [PyData.shownAll, szPs]
  | x :: xs, h => by
    simp only [finePs, Bool.and_eq_true] at h
    have h1 := shown_sz x h.1
    have h2 := shown_szs xs h.2
    simp only [PyData.shownAll, szPs, List.map_cons, List.sum_cons, List.length_cons]
    omega
end
section
variable {G : Hq}
theorem reprD_of {x : D} {a : PyData} (hx : toPy G 24 x = some a) (hf : fineP a = true) (hd : a.depth ≤ 60) (hs : szP a ≤ 16777216) : reprD [x] G = .ok (.str a.shown) G := by
  simp only [reprD, hx]
  rw [if_pos ⟨fine_show a hf, fine_dict a hf, hd, Nat.le_trans (shown_sz a hf) hs⟩]
@[simp] theorem eqD_str {neg : Bool} {a b : Str} : eqD neg (.str a) (.str b) G = .ok (.bl (if neg then !decide (a = b) else decide (a = b))) G := nd rfl
noncomputable def isB : SF := (retC (binC (eqD false) (callC reprD (consA (varC 0) nilA)) (callC reprD (consA (varC 1) nilA))))
noncomputable def isF : FF := bodyC 2 isB
theorem is_same {x y : D} {a : PyData} (hx : toPy G 24 x = some a) (hy : toPy G 24 y = some a) (hf : fineP a = true) (hd : a.depth ≤ 60) (hs : szP a ≤ 16777216) : isF [x, y] G = .ok (.bl true) G := by
  have goal : wE (isF [x, y] G) fun v G' => v = .bl true ∧ G' = G := by
    unfold isF
    rw [wE_body]
    show wS (isB [some x, some y] G) _ _ _ _
    unfold isB
    simp only [wS_ret, wE_bin, wE_call, wE_consA, wE_varS, wE_var0, wE_nilA, reprD_of hx hf hd hs, reprD_of hy hf hd hs, wE_ok, eqD_str]
    simp
  obtain ⟨v, G', e, rfl, rfl⟩ := wE_get goal
  exact e
@[simp] theorem toPy_int {n : Nat} {i : Int} : toPy G n (.int i) = some (.int i) := by
  cases n <;> rfl
@[simp] theorem toPy_str {n : Nat} {i : Str} : toPy G n (.str i) = some (.str i) := by
  cases n <;> rfl
@[simp] theorem toPy_bl {n : Nat} {i : Bool} : toPy G n (.bl i) = some (.bool i) := by
  cases n <;> rfl
@[simp] theorem toPy_non {n : Nat} : toPy G n .non = some .none := by
  cases n <;> rfl
theorem toPy_tup {n : Nat} {xs : List D} {ds : List PyData} (h : toPyL (toPy G n) xs = some ds) : toPy G (n + 1) (.tup xs) = some (.tuple ds) := by
  show (toPyL (toPy G n) xs).map _ = _
  rw [h] <;> rfl
theorem toPy_lst {n p : Nat} {xs : List D} {ds : List PyData} (hp : G[p]? = some (.lst xs)) (h : toPyL (toPy G n) xs = some ds) : toPy G (n + 1) (.ref p) = some (.list ds) := by
  show (match G[p]? with | some (.lst xs) => (toPyL (toPy G n) xs).map PyData.list | some (.ro xs) => (toPyL (toPy G n) xs).map PyData.list | _ => none) = _
  rw [hp]
  show (toPyL (toPy G n) xs).map _ = _
  rw [h] <;> rfl
theorem toPyL_nil {f : D → Option PyData} : toPyL f [] = some [] := rfl
theorem toPyL_cons {f : D → Option PyData} {x : D} {xs : List D} {a : PyData} {ds : List PyData} (h1 : f x = some a) (h2 : toPyL f xs = some ds) : toPyL f (x :: xs) = some (a :: ds) := by
  unfold toPyL
  rw [h1, h2]
theorem toPyL_map {α : Type} {f : D → Option PyData} {g : α → D} {h : α → PyData} : ∀ {l : List α}, (∀ a ∈ l, f (g a) = some (h a)) → toPyL f (l.map g) = some (l.map h)
  | [], _ => rfl
  | a :: l, q => toPyL_cons (q a (List.mem_cons_self ..)) (toPyL_map fun b hb => q b (List.mem_cons_of_mem _ hb))
end
theorem fine_map {α : Type} {h : α → PyData} : ∀ {l : List α}, (∀ a ∈ l, fineP (h a) = true) → finePs (l.map h) = true
  | [], _ => by simp only [List.map_nil, finePs]
  | a :: l, q => by
    simp only [List.map_cons, finePs, Bool.and_eq_true]
    exact ⟨q a (List.mem_cons_self ..), fine_map fun b hb => q b (List.mem_cons_of_mem _ hb)⟩
theorem sz_map {α : Type} {h : α → PyData} {B : Nat} : ∀ {l : List α}, (∀ a ∈ l, szP (h a) + 2 ≤ B) → szPs (l.map h) ≤ B * l.length
  | [], _ => by simp [szPs]
  | a :: l, q => by
    have h1 := q a (List.mem_cons_self ..)
    have h2 := sz_map (B := B) (l := l) fun b hb => q b (List.mem_cons_of_mem _ hb)
    simp only [List.map_cons, szPs, List.length_cons]
    rw [Nat.mul_add]
    omega
theorem depth_map {α : Type} {h : α → PyData} {B : Nat} : ∀ {l : List α}, (∀ a ∈ l, (h a).depth ≤ B) → PyData.depthAll (l.map h) ≤ B
  | [], _ => by simp [PyData.depthAll]
  | a :: l, q => by
    have h1 := q a (List.mem_cons_self ..)
    have h2 := depth_map (B := B) (l := l) fun b hb => q b (List.mem_cons_of_mem _ hb)
    simp only [List.map_cons, PyData.depthAll]
    omega
theorem fine_int {i : Int} {k : Nat} (h : i.natAbs < 2 ^ k) (hk : k ≤ 1920) : fineP (.int i) = true := by
  simp only [fineP]
  refine decide_eq_true ?_
  by_cases z : i.natAbs = 0
  · rw [z]
    decide
  · exact Nat.lt_of_lt_of_le ((Nat.log2_lt z).mpr h) hk
theorem sz_int {i : Int} {k : Nat} (h : i.natAbs < 2 ^ k) (hk : 0 < k) : szP (.int i) ≤ k + 1 := by
  simp only [szP]
  by_cases z : i.natAbs = 0
  · rw [z]
    simp
    omega
  · have := (Nat.log2_lt z).mpr h
    omega
end SX

set_option Elab.async false
set_option linter.all false
set_option maxRecDepth 100000
set_option maxHeartbeats 1000000
namespace SX
open PySem PySem.Spec PyProof.Rows L2 NT
section
variable {G : Hq} {n d : Nat}
theorem draw_of {b : Int} {Q : D → Hq → Prop} (h : Dk n G d) (hn : n < 2 ^ 200) (h1 : 0 < b) (h2 : b.natAbs < 2 ^ 400) (q : ∀ (r : Nat) G', (r : Int) < b → Dk (n + 1) G' d → Fr [d] G G' → Q (.int r) G') : wE (drawF [.ref d, .int b] G) Q := by
  refine wE_imp (draw_ok h hn h1 h2) fun v G' hv => ?_
  obtain ⟨r, rfl, h0, hb, hd, hf, _⟩ := hv
  have e : r = ((r.toNat : Nat) : Int) := by omega
  rw [e]
  exact q r.toNat G' (by omega) hd hf
/-- an item of a written list, drawn -/
theorem pick_of {b : Int} {xs : List D} {Q : D → Hq → Prop} (h : Dk n G d) (hn : n < 2 ^ 200) (hb : b = (xs.length : Int)) (h1 : 0 < xs.length) (h2 : xs.length < 2 ^ 60) (q : ∀ x ∈ xs, ∀ G', Dk (n + 1) G' d → Fr [d] G G' → Q x G') :
    wE (drawF [.ref d, .int b] (G ++ [.lst xs])) fun y G2 => wE (ixD (.ref G.length) y G2) Q := by
  have hd := h.fr (Fr.new (c := .lst xs))
  refine draw_of hd hn (by omega) (by omega) fun r G' hr hd' hf => ?_
  have hg : G'[G.length]? = some (.lst xs) := hf.get at_last (by
    have := h.lt
    simp
    omega)
  have hr' : r < xs.length := by omega
  rw [ixD_lst hg, atI_at hr', oneD_some, wE_ok]
  exact q _ (List.getElem_mem hr') G' hd' (Fr.new.trans hf)
end
end SX

set_option Elab.async false
set_option linter.all false
set_option maxRecDepth 100000
set_option maxHeartbeats 1000000
namespace SX
open PySem PySem.Spec PyProof.Rows L2
/-! ### what is never reached -/
def badC : SF := fun _ _ => .bad
def badE : EF := fun _ _ => .bad
section
variable {X : Cx} {W : L2.St → XW}
theorem xs_never {st : Stmt} : PS X st (tS X W badC) := ⟨fun pins s σ H Dd I ⟨m, σ', G, S, R, q⟩ => (show False from q).elim⟩
theorem xe_never {e : Expr} : PE X e (tE X W badE) := ⟨fun pins s σ H Q I ⟨m, σ', G, S, R, q⟩ => (show False from q).elim⟩
/-! ### a module's number -/
theorem xe_globI {x : Str} {pos : Pos} {i : Int} (h : ∃ t, X.mg x = some (.int i t)) (hg : Gl X x := by rfl) (hd : (x == ("__debug__" : Str)) = false := by decide) : PE X (.Name x pos) (tE X W (cC (.int i))) := by
  obtain ⟨t, hm⟩ := h
  refine ⟨fun pins s σ H Q I ⟨m, σ', G, S, R, q⟩ => (pe_glob hg hm (show RelV (.int i) (.int i t) from ⟨t, rfl⟩) hd).run pins s σ H Q I ?_⟩
  exact q.here S (.int i)
/-! ### isinstance(x, T), T a built-in type by its name -/
def tyD (G : Hq) : D → Option String
  | .non => some "NoneType"
  | .bl _ => some "bool"
  | .int _ => some "int"
  | .str _ => some "str"
  | .tup _ => some "tuple"
  | .kt _ => none
  | .kl _ => none
  | .ref p => match G[p]? with
    | some (.lst _) => some "list"
    | some (.ro _) => some "list"
    | some (.dK _) => some "dict"
    | some (.dT _) => some "dict"
    | _ => none
/-- whether a value of the type t is one of T -/
def isTy (t T : String) : Option Bool := match T with
  | "int" => some (t == "int" || t == "bool")
  | "bool" => some (t == "bool")
  | "list" => some (t == "list")
  | "tuple" => some (t == "tuple")
  | "str" => some (t == "str")
  | "dict" => some (t == "dict")
  | _ => none
def isiC (T : String) (fo : EF) : EF := fun σ G => (fo σ G).bind fun x G1 => match (tyD G1 x).bind fun t => isTy t T with
  | some b => .ok (.bl b) G1
  | none => .bad
theorem ty_tys {G : Hq} {d : D} {t : String} (h : tyD G d = some t) : t ∈ ["NoneType", "bool", "int", "str", "tuple", "list", "dict"] := by
  unfold tyD at h
  cases d with
  | ref p =>
    simp only at h
    split at h <;> first | (cases h; decide) | cases h
  | _ => first | (cases h; decide) | cases h
theorem kit_all : (["NoneType", "bool", "int", "str", "tuple", "list", "dict"].all fun t => ["int", "bool", "list", "tuple", "str", "dict"].all fun T => decide (kitB t T = isTy t T)) = true := by decide +kernel
theorem isTy_T {t T : String} {b : Bool} (h : isTy t T = some b) : T ∈ ["int", "bool", "list", "tuple", "str", "dict"] := by
  unfold isTy at h
  split at h <;> first | decide | cases h
theorem isTy_kit {t T : String} {b : Bool} (ht : t ∈ ["NoneType", "bool", "int", "str", "tuple", "list", "dict"]) (h : isTy t T = some b) : kitB t T = some b := by
  have h1 := List.all_eq_true.mp kit_all t ht
  have h2 := of_decide_eq_true (List.all_eq_true.mp h1 T (isTy_T h))
  rw [h2]
  exact h
theorem ty_x {K : PySem.W.Frag} {m : List Addr} {G : Hq} {H : Hp} {d : D} {v : V} {t : String} (S : Sim K m G H) (r : VR K m H d v) (h : tyD G d = some t) : TyX K H v (.type t) := by
  cases r with
  | non => cases h; exact .base .non
  | bl b => cases h; exact .base (.bl b)
  | int i => cases h; exact .base (.int i)
  | str x => cases h; exact .base (.str x)
  | tup h1 h2 => cases h; exact .base (.tup h1)
  | kt h1 h2 => cases h
  | kl h1 h2 => cases h
  | @ref i a ha =>
    unfold tyD at h
    simp only at h
    split at h
    · rename_i xs hg
      cases h
      obtain ⟨vs, h1, h2⟩ := S.cell i a _ ha hg
      exact .base (.lst h1)
    · rename_i xs hg
      cases h
      obtain ⟨vs, o, h1, h2⟩ := S.cell i a _ ha hg
      exact .base (.frz h1)
    · rename_i xs hg
      cases h
      obtain ⟨vs, h1, h2⟩ := S.cell i a _ ha hg
      exact .base (.dK h1)
    · rename_i xs hg
      cases h
      obtain ⟨vs, h1, h2⟩ := S.cell i a _ ha hg
      exact .base (.dT h1)
    · cases h
theorem xe_isi {e : Expr} {T : Str} {n : String} {pf pt pos : Pos} {fo : EF} (he : PE X e (tE X W fo)) (hm : X.mg "isinstance" = none) (hmT : X.mg T = none) (hvT : bootBuiltins T = some (.type n) := by decide +kernel) (hg : Gl X "isinstance" := by rfl) (hgT : Gl X T := by rfl)
    (hnT : T ≠ "__name__" := by decide) (hdT : (T == ("__debug__" : Str)) = false := by decide) (hs : starEach [e, .Name T pt] X.env = (false, eval e X.env) :: starEach [.Name T pt] X.env := by rfl) (hs2 : starEach [.Name T pt] X.env = (false, eval (.Name T pt) X.env) :: starEach [] X.env := by rfl)
    (hpl : (backTo pos (starEach [.Name T pt] X.env)).any (·.1) = false := by rfl) : PE X (.Call (.Name "isinstance" pf) [e, .Name T pt] [] pos) (tE X W (isiC n fo)) := by
  have pT : PE X (.Name T pt) (tC (.ty n)) := pe_bltn hgT hmT hvT rfl hnT hdT
  have pa : PA X [e, .Name T pt] (tCons (tE X W fo) (tCons (tC (.ty n)) tNil)) := pa_cons he (pa_cons pT pa_nil hs2) hs
  refine ⟨fun pins s σ H Q I ⟨m, σ', G, S, R, q⟩ => (pe_callB call_isi hg hm (by decide +kernel) pa (by decide) (by decide) hs hpl).run pins s σ H Q I ?_⟩
  refine ⟨m, σ', G, S, R, (PostR.bnd (R := VR X.K) q).imp fun v H1 ⟨m1, G1, d, e1, S1, r1, _, h1⟩ => ?_⟩
  split at h1
  · rename_i b hb
    obtain ⟨t, ht, hi⟩ := Option.bind_eq_some_iff.mp hb
    exact ⟨v, .ty n, .type t, .type n, b, rfl, .ty n, ty_x S1 r1 ht, kit_ty (isTy_kit (ty_tys ht) hi), h1.here S1 (.bl b)⟩
  · exact h1.elim
/-! ### in, not in -/
def flatD : D → Bool
  | .non => true
  | .bl _ => true
  | .int _ => true
  | .str _ => true
  | _ => false
/-- x in a tuple of flat items (the order of eqV: item, then x) -/
def pyFlat : D → PyData
  | .non => .none
  | .bl b => .bool b
  | .int i => .int i
  | .str x => .str x
  | _ => .none
def inD0 (neg : Bool) (x y : D) (G : Hq) : Rs D := match toPy G 24 x, toPy G 24 y with
  | some d, some (.list ds) => if SeqAt.shaped d ∧ SeqAt.shaped (.list ds) then .ok (.bl (if neg then !ds.any fun z => PyData.eqv z d else ds.any fun z => PyData.eqv z d)) G else .bad
  | _, _ => .bad
def vFlat : D → V
  | .bl b => .bl b
  | .int i => .int i
  | .str x => .str x
  | _ => .non
def inF (neg : Bool) (x : D) (ys : List D) (G : Hq) : Rs D := if flatD x = true ∧ ys.all flatD = true then .ok (.bl (if neg then !inV (vFlat x) (ys.map vFlat) else inV (vFlat x) (ys.map vFlat))) G else .bad
/-- x in a list, or in a tuple of flat items -/
def inD (neg : Bool) (x y : D) (G : Hq) : Rs D := match y with
  | .tup ys => inF neg x ys G
  | y => inD0 neg x y G
theorem vr_flat {K : PySem.W.Frag} {m : List Addr} {H : Hp} {d : D} {v : V} (r : VR K m H d v) (f : flatD d = true) : v = vFlat d ∧ flatV v = true := by
  cases r <;> first | exact ⟨rfl, rfl⟩ | cases f
theorem vrs_flat {K : PySem.W.Frag} {m : List Addr} {H : Hp} : ∀ {ds : List D} {vs : List V}, VRs K m H ds vs → ds.all flatD = true → vs = ds.map vFlat ∧ vs.all flatV = true
  | [], _, .nil, _ => ⟨rfl, rfl⟩
  | d :: ds, _, .cons r t, f => by
    rw [List.all_cons, Bool.and_eq_true] at f
    obtain ⟨h1, h2⟩ := vr_flat r f.1
    obtain ⟨h3, h4⟩ := vrs_flat t f.2
    subst h3
    rw [List.all_cons, h2, h4, h1]
    exact ⟨rfl, rfl⟩
theorem in_flat {neg : Bool} {op : CmpOp} (base : OpR X (compareOp op) (rIn X.K neg)) {pins : List (Addr × Obj)} {s : Shared} {σ : L2.St} {m : List Addr} {G : Hq} {H : Hp} {x : D} {ys : List D} {v w : V} {u z : Value} {Q : VK} {Wx : XW} (I : L2.Inv X pins σ H s) (S : Sim X.K m G H) (rx : VR X.K m H x v) (ry : VR X.K m H (.tup ys) w) (ru : RelV v u) (rz : RelV w z)
    (q : PostR X.K X.mg (VR X.K) Wx m H (inF neg x ys G) Q) : wpAny (model X.prog X.w) X.A (compareOp op u z) (fun v s' => ∃ x H', L2.Inv X pins σ H' s' ∧ RelV x v ∧ Q x H') X.xe s := by
  unfold inF at q
  split at q
  · rename_i hf
    obtain ⟨h1, h2⟩ := vr_flat rx hf.1
    obtain ⟨a, vs, rfl, h3, h4⟩ := tup_at ry rfl
    obtain ⟨h5, h6⟩ := vrs_flat h4 hf.2
    subst h1
    subst h5
    exact base pins s σ H _ _ u z _ I ru rz ⟨a, _, rfl, .inr h3, h2, h6, q.here S (.bl _)⟩
  · exact q.elim
theorem f_in {k : Nat} (C : Ctx X W k) : OpF X (compareOp .In) (inD false) := by
  have hu : X.A.units + 65 < cLine := by have := C.room.un; omega
  intro pins s σ m G H x y v w u z Q Wx I S rx ry ru rz q
  unfold inD at q
  split at q
  · exact in_flat op_in_seq I S rx ry ru rz q
  unfold inD0 at q
  split at q
  · rename_i d ds h1 h2
    split at q
    · rename_i hs
      exact op_inD hu pins s σ H v w u z Q I ru rz ⟨d, ds, toPy_dp S _ _ _ _ rx h1, toPy_dp S _ _ _ _ ry h2, hs.1, hs.2, q.here S (.bl _)⟩
    · exact q.elim
  · exact q.elim
theorem f_notIn {k : Nat} (C : Ctx X W k) : OpF X (compareOp .NotIn) (inD true) := by
  have hu : X.A.units + 65 < cLine := by have := C.room.un; omega
  intro pins s σ m G H x y v w u z Q Wx I S rx ry ru rz q
  unfold inD at q
  split at q
  · exact in_flat op_notIn_seq I S rx ry ru rz q
  unfold inD0 at q
  split at q
  · rename_i d ds h1 h2
    split at q
    · rename_i hs
      exact op_notInD hu pins s σ H v w u z Q I ru rz ⟨d, ds, toPy_dp S _ _ _ _ rx h1, toPy_dp S _ _ _ _ ry h2, hs.1, hs.2, q.here S (.bl _)⟩
    · exact q.elim
  · exact q.elim
/-! ### a op b op c -/
def chainC (g g' : D → D → Hq → Rs D) (a b c : EF) : EF := fun σ G => (a σ G).bind fun x G1 => (b σ G1).bind fun y G2 => (g x y G2).bind fun z G3 => match z with
  | .bl true => (c σ G3).bind fun w G4 => g' y w G4
  | .bl false => .ok (.bl false) G3
  | _ => .bad
theorem xe_chain {op op' : CmpOp} {g g' : D → D → Hq → Rs D} {a b c : Expr} {fa fb fc : EF} {pos : Pos} (ho : OpF X (compareOp op) g) (ho' : OpF X (compareOp op') g') (ha : PE X a (tE X W fa)) (hb : PE X b (tE X W fb)) (hc : PE X c (tE X W fc))
    (hm : lastMarks [op, op'] [b, c] = false := by with_unfolding_all rfl) : PE X (.Compare a [op, op'] [b, c] pos) (tE X W (chainC g g' fa fb fc)) := by
  refine ⟨fun pins s σ H Q I ⟨m, σ', G, S, R, q⟩ => ?_⟩
  have q0 : tE X W fa σ H fun v H1 => ∃ m1 G1 x, Sim X.K m1 G1 H1 ∧ SR X.K m1 H1 σ' σ ∧ VR X.K m1 H1 x v ∧ PostR X.K X.mg (VR X.K) (W σ) m1 H1 ((fb σ' G1).bind fun y G2 => (g x y G2).bind fun z G3 => match z with
      | .bl true => (fc σ' G3).bind fun w G4 => g' y w G4
      | .bl false => .ok (.bl false) G3
      | _ => .bad) Q := ⟨m, σ', G, S, R, (PostR.bnd (R := VR X.K) q).imp fun v H1 ⟨m1, G1, x, e1, S1, r1, _, h1⟩ => ⟨m1, G1, x, S1, R.mono e1, r1, h1⟩⟩
  refine Compare_chain (thn (ha.run pins s σ H _ I q0) fun v s1 ⟨x, H1, I1, rv1, m1, G1, dx, S1, R1, r1, q1⟩ => chain_link ?_) hm
  have q1' : tE X W fb σ H1 fun w H2 => ∃ m2 G2 y, Xt X.K m1 H1 m2 H2 ∧ Sim X.K m2 G2 H2 ∧ VR X.K m2 H2 y w ∧ PostR X.K X.mg (VR X.K) (W σ) m2 H2 ((g dx y G2).bind fun z G3 => match z with
      | .bl true => (fc σ' G3).bind fun w G4 => g' y w G4
      | .bl false => .ok (.bl false) G3
      | _ => .bad) Q := ⟨m1, σ', G1, S1, R1, (PostR.bnd (R := VR X.K) q1).imp fun w H2 ⟨m2, G2, y, e2, S2, r2, _, h2⟩ => ⟨m2, G2, y, e2, S2, r2, h2⟩⟩
  refine thn (hb.run pins s1 σ H1 _ I1 q1') fun u s2 ⟨y, H2, I2, rv2, m2, G2, dy, e2, S2, r2, q2⟩ => ?_
  have q2' : PostR X.K X.mg (VR X.K) (W σ) m2 H2 (g dx dy G2) fun d H3 => ∃ m3 G3 z, Xt X.K m2 H2 m3 H3 ∧ Sim X.K m3 G3 H3 ∧ VR X.K m3 H3 z d ∧ PostR X.K X.mg (VR X.K) (W σ) m3 H3 (match z with
      | .bl true => (fc σ' G3).bind fun w G4 => g' dy w G4
      | .bl false => .ok (.bl false) G3
      | _ => .bad) Q := (PostR.bnd (R := VR X.K) q2).imp fun d H3 ⟨m3, G3, z, e3, S3, r3, _, h3⟩ => ⟨m3, G3, z, e3, S3, r3, h3⟩
  refine thn (ho pins s2 σ m2 G2 H2 dx dy x y v u _ (W σ) I2 S2 (r1.mono e2) r2 rv1 rv2 q2') fun d s3 ⟨z, H3, I3, rv3, m3, G3, dz, e3, S3, r3, q3⟩ => ?_
  cases dz with
  | bl k =>
    cases r3
    cases rv3
    refine wpAny_truthy_bool ?_
    cases k with
    | false => exact ite_ff ⟨.bl false, H3, I3, rfl, PostR.here (x := D.bl false) q3 S3 (.bl false)⟩
    | true =>
      refine ite_tt (chain_last ?_)
      have q4 : tE X W fc σ H3 fun w' H4 => ∃ m4 G4 dw, Xt X.K m3 H3 m4 H4 ∧ Sim X.K m4 G4 H4 ∧ VR X.K m4 H4 dw w' ∧ PostR X.K X.mg (VR X.K) (W σ) m4 H4 (g' dy dw G4) Q :=
        ⟨m3, σ', G3, S3, (R1.mono e2).mono e3, (PostR.bnd (R := VR X.K) q3).imp fun w' H4 ⟨m4, G4, dw, e4, S4, r4, _, h4⟩ => ⟨m4, G4, dw, e4, S4, r4, h4⟩⟩
      exact thn (hc.run pins s3 σ H3 _ I3 q4) fun w' s4 ⟨z', H4, I4, rv4, m4, G4, dw, e4, S4, r4, h4⟩ => ho' pins s4 σ m4 G4 H4 dy dw y z' u w' Q (W σ) I4 S4 ((r2.mono e3).mono e4) r4 rv2 rv4 h4
  | _ => exact q3.elim
end
/-! ### slices of lists -/
def cutD (xs : List D) (lo hi : Option Int) : List D := (xs.drop (HT.sIx xs.length 0 lo)).take (HT.sIx xs.length xs.length hi - HT.sIx xs.length 0 lo)
abbrev OF := Eq' → Hq → Rs (Option Int)
def noP : OF := fun _ G => .ok none G
def someP (e : EF) : OF := fun σ G => (e σ G).bind fun d G1 => match d with
  | .int i => .ok (some i) G1
  | _ => .bad
def cutOf (x : D) (lo hi : Option Int) (G : Hq) : Rs D := match x with
  | .tup xs => if HT.sIx xs.length 0 lo = 0 ∧ HT.sIx xs.length xs.length hi = xs.length then .ok (.tup xs) G else .ok (.tup (cutD xs lo hi)) G
  | d => match lstOf G d with
    | some xs => .ok (.ref G.length) (G ++ [.lst (cutD xs lo hi)])
    | none => .bad
def sliceC (o : EF) (lo hi : OF) : EF := fun σ G => (o σ G).bind fun x G1 => (lo σ G1).bind fun l G2 => (hi σ G2).bind fun h G3 => cutOf x l h G3
section
variable {X : Cx} {W : L2.St → XW}
def tO (f : OF) : TO := fun σ H Q => ∃ m σ' G, Sim X.K m G H ∧ SR X.K m H σ' σ ∧ PostR X.K X.mg (fun _ _ a b => a = b) (W σ) m H (f σ' G) Q
theorem xo_none : PO X none (tO (X := X) (W := W) noP) := ⟨fun pins s σ H Q I ⟨m, σ', G, S, R, q⟩ => po_none.run pins s σ H Q I (PostR.here (x := none) q S rfl)⟩
theorem xo_some {e : Expr} {fe : EF} (he : PE X e (tE X W fe)) : PO X (some e) (tO (X := X) (W := W) (someP fe)) := by
  refine ⟨fun pins s σ H Q I ⟨m, σ', G, S, R, q⟩ => (po_some he).run pins s σ H Q I ?_⟩
  refine ⟨m, σ', G, S, R, (PostR.bnd (R := VR X.K) q).imp fun v H1 ⟨m1, G1, x, e1, S1, r1, _, h1⟩ => ?_⟩
  cases x with
  | int i =>
    cases r1
    exact ⟨i, rfl, PostR.here (x := some i) h1 S1 rfl⟩
  | _ => exact h1.elim
theorem VRs.cut {K : PySem.W.Frag} {m : List Addr} {H : Hp} {xs : List D} {vs : List V} (r : VRs K m H xs vs) (lo hi : Option Int) : VRs K m H (cutD xs lo hi) (cutV vs lo hi) := by
  unfold cutD cutV
  rw [r.length]
  exact (r.drop _).take _
theorem xe_slice {e : Expr} {lo hi : Option Expr} {fo : EF} {fl fh : OF} {p2 pos : Pos} (he : PE X e (tE X W fo)) (hl : PO X lo (tO (X := X) (W := W) fl)) (hh : PO X hi (tO (X := X) (W := W) fh)) : PE X (.Subscript e (.Slice lo hi none p2) pos) (tE X W (sliceC fo fl fh)) := by
  have sr : SlR X (fun v lo hi H Q => ∃ m G x Wx, Sim X.K m G H ∧ VR X.K m H x v ∧ PostR X.K X.mg (VR X.K) Wx m H (cutOf x lo hi G) Q) := by
    intro pins s σ H v u vl vu lo hi sl Q I rv hs pl pu ⟨m, G, x, Wx, S, r, q⟩
    have listGo : ∀ xs, lstOf G x = some xs → PostR X.K X.mg (VR X.K) Wx m H (.ok (.ref G.length) (G ++ [.lst (cutD xs lo hi)])) Q → ∃ T id, typeLookup (.type T) "__getitem__" = pure (some (.builtin id)) ∧ s.TypeIs u T ∧ wpAny (model X.prog X.w) X.A (getItem u (.ref sl)) (EP X pins σ Q) X.xe s := by
      intro xs hx q
      obtain ⟨a, vs, rfl, h1, h2⟩ := lst_at S r hx
      refine sl_list pins s σ H (.ref a) u vl vu lo hi sl Q I rv hs pl pu ⟨a, vs, rfl, h1, fun p hp => ?_⟩
      have hc : CR X.K (m ++ [p]) (upd H p (.lst (cutV vs lo hi))) p (.lst (cutD xs lo hi)) := ⟨_, upd_same, (h2.mono (xt_push hp)).cut lo hi⟩
      exact q (m ++ [p]) _ _ (xt_push hp) (S.push hp hc) (.ref (by rw [← S.len]; simp))
    cases r with
    | @tup a xs vs h1 h2 =>
      have e := h2.length
      show _
      unfold cutOf at q
      simp only at q
      split at q
      · rename_i hw
        rw [e] at hw
        cases rv
        obtain ⟨its, rr, ht, hz⟩ := I.tuple (.inl (.inl h1))
        have hlen : its.toArray.size = vs.length := by rw [List.size_toArray]; exact rr.length.symm
        refine ⟨"tuple", _, PyProof.Rows.slot_tuple_getitem.lookup, ht.typeIs, ?_⟩
        refine getItem_tuple_whole ht hs pl pu (by rw [hlen]; exact hw) ⟨.ref a, H, I, rfl, PostR.here (x := D.tup xs) q S (.tup h1 h2)⟩
      · rename_i hw
        rw [e] at hw
        refine sl_tup pins s σ H (.ref a) u vl vu lo hi sl Q I rv hs pl pu ⟨a, vs, rfl, .inl (.inl h1), hw, fun p hp => ?_⟩
        exact q m _ _ (xt_more hp) (S.more hp) (.tup upd_same ((h2.mono (xt_more hp)).cut lo hi))
    | _ =>
      unfold cutOf at q
      simp only at q
      split at q
      · rename_i xs hx
        exact listGo xs hx q
      · exact q.elim
  refine ⟨fun pins s σ H Q I ⟨m, σ', G, S, R, q⟩ => (pe_slice sr he hl hh).run pins s σ H Q I ?_⟩
  refine ⟨m, σ', G, S, R, (PostR.bnd (R := VR X.K) q).imp fun v H1 ⟨m1, G1, x, e1, S1, r1, _, h1⟩ => ?_⟩
  refine ⟨m1, σ', G1, S1, R.mono e1, (PostR.bnd (R := fun _ _ a b => a = b) h1).imp fun l H2 ⟨m2, G2, l', e2, S2, r2, _, h2⟩ => ?_⟩
  refine ⟨m2, σ', G2, S2, (R.mono e1).mono e2, (PostR.bnd (R := fun _ _ a b => a = b) h2).imp fun h H3 ⟨m3, G3, h', e3, S3, r3, _, h3⟩ => ?_⟩
  subst r2
  subst r3
  exact ⟨m3, G3, x, W σ, S3, (r1.mono e2).mono e3, h3⟩
/-! ### enumerate, zip -/
def itEn (p : Nat) : Src := fun k G => match lstOf G (.ref p) with
  | some xs => match xs[k]? with
    | some d => .item (.tup [.int (k : Nat), d])
    | none => .stop
  | none => .bad
def enumD (xs : List D) (G : Hq) : Rs Src := match xs with
  | [.ref p] => if isL G (.ref p) then .ok (itEn p) G else .bad
  | _ => .bad
theorem itE_ok {K : PySem.W.Frag} {m0 : List Addr} {H0 : Hp} {p : Nat} {a : Addr} (ha : m0[p]? = some a) : ItOk K m0 H0 (itEn p) (Ite K a) := by
  intro k m G H x S
  unfold itEn
  cases hl : lstOf G (.ref p) with
  | none => trivial
  | some xs =>
    obtain ⟨b, vs, e, h1, h2⟩ := lst_at S (.ref (x.at ha)) hl
    cases e
    simp only
    cases hd : xs[k]? with
    | some d =>
      obtain ⟨v, hv, r⟩ := h2.get hd
      refine ⟨⟨vs, v, h1, hv⟩, fun w H' hy => ?_⟩
      obtain ⟨T, y, rfl, hT, rfl, hy⟩ := hy
      have := hy vs h1
      rw [hv] at this
      cases this
      exact ⟨xt_more hT, S.more hT, .tup upd_same (.cons (.int _) (.cons (r.mono (xt_more hT)) .nil))⟩
    | none => exact ⟨vs, h1, by rw [← h2.length]; exact List.getElem?_eq_none_iff.mp hd⟩
theorem xi_enum {e : Expr} {fr : AF} {p pos tpos : Pos} {elts : List Expr} {kk : Nat} (hm : X.mg "enumerate" = none) (ha : PA X [e] (tA X W fr)) (hg : Gl X "enumerate" := by rfl) (hs : starEach [e] X.env = [(false, eval e X.env)] := by rfl) :
    PI X (.Tuple elts kk tpos) (.Call (.Name "enumerate" p) [e] [] pos) (tI X W (srcC enumD fr)) := by
  refine ⟨fun pins s σ H R I h => (pi_enum hg hm ha hs).run pins s σ H R I ?_⟩
  obtain ⟨m, σ', G, S, Rr, q⟩ := src_read h
  refine ⟨m, σ', G, S, Rr, q.imp fun vs H1 ⟨m1, G1, xs, S1, r1, h1⟩ => ?_⟩
  unfold enumD at h1
  split at h1
  · rename_i p
    split at h1
    · rename_i hl
      cases r1 with
      | cons rr rt =>
        cases rt
        obtain ⟨xs, hl⟩ := Option.isSome_iff_exists.mp hl
        obtain ⟨a, vs, rfl, h2, h3⟩ := lst_at S1 rr hl
        cases rr with
        | ref ha => exact ⟨a, vs, rfl, h2, PostR.here h1 S1 (itE_ok ha)⟩
    · exact h1.elim
  · exact h1.elim
def itZp (p q : Nat) : Src := fun k G => match lstOf G (.ref p), lstOf G (.ref q) with
  | some xs, some ys => match xs[k]?, ys[k]? with
    | some x, some y => .item (.tup [x, y])
    | _, _ => .stop
  | _, _ => .bad
def zipD (xs : List D) (G : Hq) : Rs Src := match xs with
  | [.ref p, .ref q] => if isL G (.ref p) && isL G (.ref q) then .ok (itZp p q) G else .bad
  | _ => .bad
theorem itZ_ok {K : PySem.W.Frag} {m0 : List Addr} {H0 : Hp} {p q : Nat} {a b : Addr} (ha : m0[p]? = some a) (hb : m0[q]? = some b) : ItOk K m0 H0 (itZp p q) (Itz K a b) := by
  intro k m G H x S
  unfold itZp
  cases hl : lstOf G (.ref p) with
  | none => trivial
  | some xs =>
    cases hl2 : lstOf G (.ref q) with
    | none => trivial
    | some ys =>
      obtain ⟨a', vs, e, h1, h2⟩ := lst_at S (.ref (x.at ha)) hl
      cases e
      obtain ⟨b', ws, e, h3, h4⟩ := lst_at S (.ref (x.at hb)) hl2
      cases e
      simp only
      cases hd : xs[k]? with
      | none => exact ⟨vs, ws, h1, h3, .inl (by rw [← h2.length]; exact List.getElem?_eq_none_iff.mp hd)⟩
      | some d =>
        cases hd2 : ys[k]? with
        | none => exact ⟨vs, ws, h1, h3, .inr (by rw [← h4.length]; exact List.getElem?_eq_none_iff.mp hd2)⟩
        | some d2 =>
          obtain ⟨v, hv, r⟩ := h2.get hd
          obtain ⟨v2, hv2, r2⟩ := h4.get hd2
          refine ⟨⟨vs, ws, v, v2, h1, h3, hv, hv2⟩, fun w H' hy => ?_⟩
          obtain ⟨T, y, y2, rfl, hT, rfl, hy, hy2⟩ := hy
          have := hy vs h1
          rw [hv] at this
          cases this
          have := hy2 ws h3
          rw [hv2] at this
          cases this
          exact ⟨xt_more hT, S.more hT, .tup upd_same (.cons (r.mono (xt_more hT)) (.cons (r2.mono (xt_more hT)) .nil))⟩
theorem xi_zip {e e2 : Expr} {fr : AF} {p pos tpos : Pos} {elts : List Expr} {kk : Nat} (hm : X.mg "zip" = none) (ha : PA X [e, e2] (tA X W fr)) (hg : Gl X "zip" := by rfl) (hs : starEach [e, e2] X.env = (false, eval e X.env) :: starEach [e2] X.env := by rfl)
    (hpl : (backTo pos (starEach [e2] X.env)).any (·.1) = false := by rfl) : PI X (.Tuple elts kk tpos) (.Call (.Name "zip" p) [e, e2] [] pos) (tI X W (srcC zipD fr)) := by
  refine ⟨fun pins s σ H R I h => (pi_zip hg hm ha hs hpl).run pins s σ H R I ?_⟩
  obtain ⟨m, σ', G, S, Rr, q⟩ := src_read h
  refine ⟨m, σ', G, S, Rr, q.imp fun vs H1 ⟨m1, G1, xs, S1, r1, h1⟩ => ?_⟩
  unfold zipD at h1
  split at h1
  · rename_i p q
    split at h1
    · rename_i hl
      rw [Bool.and_eq_true] at hl
      cases r1 with
      | cons rr rt =>
        cases rt with
        | cons rr2 rt =>
          cases rt
          obtain ⟨xs, hl1⟩ := Option.isSome_iff_exists.mp hl.1
          obtain ⟨ys, hl2⟩ := Option.isSome_iff_exists.mp hl.2
          obtain ⟨a, vs, rfl, h2, h3⟩ := lst_at S1 rr hl1
          obtain ⟨b, ws, rfl, h4, h5⟩ := lst_at S1 rr2 hl2
          cases rr with
          | ref ha =>
            cases rr2 with
            | ref hb => exact ⟨a, b, vs, ws, rfl, h2, h4, PostR.here h1 S1 (itZ_ok ha hb)⟩
    · exact h1.elim
  · exact h1.elim
end
end SX

set_option Elab.async false
set_option linter.all false
set_option maxRecDepth 100000
set_option maxHeartbeats 1000000
namespace SX
open PySem PySem.Spec PyProof.Rows L2
/-! ### a, b = a tuple or a list -/
def gSq (n : Nat) (g : List D → Eq' → Hq → Rs Eq') : GF := fun d σ G => match d with
  | .tup xs => if xs.length = n then g xs σ G else .bad
  | d => match lstOf G d with
    | some xs => if xs.length = n then g xs σ G else .bad
    | none => .bad
section
variable {X : Cx} {W : L2.St → XW} {es : List Expr} {pos : Pos}
theorem xg_seq {n kk : Nat} {gr : List D → Eq' → Hq → Rs Eq'} (hc : X.calm = true) (h : PGs X es (tGs X gr)) (hn : (assignEach es X.env).length = n := by rfl) (hst : (assignEach es X.env).findIdx? (·.1) = none := by rfl) : PG X (.Tuple es kk pos) (tG X (gSq n gr)) := by
  refine ⟨fun pins s σ H v u Q I r ⟨m, σ', G, d, S, R, rd, q⟩ => ?_⟩
  have go : ∀ xs, lstOf G d = some xs → PostR X.K X.mg (SR X.K) W0 m H (if xs.length = n then gr xs σ' G else .bad) (fun σ1 H1 => Q σ1 H1) → wpAny (model X.prog X.w) X.A (assign (.Tuple es kk pos) X.env u) (fun _ s' => ∃ σ1 H1, Inv X pins σ1 H1 s' ∧ Q σ1 H1) X.xe s := by
    intro xs hx q
    obtain ⟨a, vs, rfl, h1, h2⟩ := lst_at S rd hx
    by_cases hl : xs.length = n
    · rw [if_pos hl] at q
      exact (pg_lst hc h hn hst).run pins s σ H _ u Q I r ⟨a, vs, rfl, h1, by rw [← h2.length]; exact hl, m, σ', G, xs, S, R, h2, q⟩
    · rw [if_neg hl] at q
      exact q.elim
  cases rd with
  | @tup aa xs vs hs hr =>
    by_cases hl : xs.length = n
    · have e : gSq n gr (.tup xs) σ' G = gr xs σ' G := if_pos hl
      rw [e] at q
      exact (pg_tup hc h hn hst).run pins s σ H _ u Q I r ⟨aa, vs, rfl, SqT.of hs, by rw [← hr.length]; exact hl, m, σ', G, xs, S, R, hr, q⟩
    · have e : gSq n gr (.tup xs) σ' G = .bad := if_neg hl
      rw [e] at q
      exact q.elim
  | _ =>
    unfold gSq at q
    simp only at q
    split at q
    · rename_i xs hx
      exact go xs hx q
    · exact q.elim
/-! ### a call that leaves defaults out -/
theorem xe_callD {k n : Nat} {x : Str} {f : Addr} {fd : FuncData} {ps : List Str} {ff : FF} {e : Expr} {es : List Expr} {fr : AF} {p pos : Pos} {vs0 : List V} {dvs : List D} (C : Ctx X W k) (F : FnG X.prog X.w X.K X.mg X.base k f fd ps (spF X.K X.mg ps.length ff)) (hm : X.mg x = some (.ref f)) (hk : PySem.W.keepIn X.K (.ref f) = true)
    (hb : ∃ ds, Vals vs0 ds ∧ Binds X.K fd ps ds) (hd : ∀ m H, VRs X.K m H dvs vs0) (ha : PA X (e :: es) (tA X W fr)) (hl : ALen fr n) (hn : n + dvs.length = ps.length := by rfl) (hg : Gl X x := by rfl) (hdb : (x == ("__debug__" : Str)) = false := by decide)
    (he : starEach (e :: es) X.env = (false, eval e X.env) :: starEach es X.env := by rfl) (hpl : (backTo pos (starEach es X.env)).any (·.1) = false := by rfl) : PE X (.Call (.Name x p) (e :: es) [] pos) (tE X W (fnC ff dvs fr)) := by
  obtain ⟨ds, hv, hb⟩ := hb
  refine ⟨fun pins s σ H Q I ⟨m, σ', G, S, R, q⟩ => wpAny_Call_Name_kw (ld_glob I hg hm ?_ hdb)⟩
  have q' : tA X W fr σ H fun vs H1 => ∃ vs0, Vals vs0 ds ∧ spF X.K X.mg ps.length ff (vs ++ vs0) H1 Q (W σ) := by
    refine ⟨m, σ', G, S, R, (PostR.bnd (R := VRs X.K) q).imp fun vs H1 ⟨m1, G1, xs, e1, S1, r1, er, h1⟩ => ?_⟩
    have rr := r1.append (hd m1 H1)
    refine ⟨vs0, hv, ?_, m1, xs ++ dvs, G1, S1, rr, h1⟩
    rw [← rr.length, List.length_append, hl _ _ _ _ er]
    exact hn
  refine PySem.W.callWith_K (h₀ := X.base) I.ok.mod.kin hk (thn (ha.run pos pins s σ H _ I q') fun us s1 z => ?_) he hpl
  obtain ⟨vs, H1, I1, r, vs1, hv1, z⟩ := z
  exact ⟨I1.kIn, run_G C F hb hv1 I1 r z⟩
end
end SX

set_option linter.all false
set_option maxRecDepth 100000
namespace NT
/-! squarefree numbers, the squarefree part -/
theorem exists_prime : ∀ n : Nat, 2 ≤ n → ∃ p, IsP p ∧ p ∣ n := by
  intro n hn
  have key : ∀ k d, 2 ≤ d → d + k = n → (∀ e, 2 ≤ e → e < d → ¬ e ∣ n) → ∃ p, IsP p ∧ p ∣ n := by
    intro k
    induction k with
    | zero =>
      intro d hd he no
      have e : d = n := by omega
      subst e
      exact ⟨d, least_prime hd (Nat.dvd_refl d) no, Nat.dvd_refl d⟩
    | succ k ih =>
      intro d hd he no
      by_cases h : d ∣ n
      · exact ⟨d, least_prime hd h no, h⟩
      · refine ih (d + 1) (by omega) (by omega) fun e h2 h3 hd2 => ?_
        by_cases z : e = d
        · subst z
          exact h hd2
        · exact no e h2 (by omega) hd2
  exact key (n - 2) 2 (Nat.le_refl _) (by omega) fun e h2 h3 => by omega
def Sqf (m : Nat) : Prop := ∀ k, 2 ≤ k → ¬ k * k ∣ m
theorem sqf_of_primes {m : Nat} (h : ∀ p, IsP p → ¬ p * p ∣ m) : Sqf m := fun k hk hd => by
  obtain ⟨p, hp, hpk⟩ := exists_prime k hk
  exact h p hp (Nat.dvd_trans (Nat.mul_dvd_mul hpk hpk) hd)
def oddP : List (Nat × Nat) → Nat
  | [] => 1
  | (p, c) :: r => (if c % 2 = 1 then p else 1) * oddP r
def halfP : List (Nat × Nat) → Nat
  | [] => 1
  | (p, c) :: r => p ^ (c / 2) * halfP r
theorem odd_half : ∀ fs : List (Nat × Nat), prodL fs = oddP fs * (halfP fs * halfP fs)
  | [] => rfl
  | (p, c) :: r => by
    have e : p ^ c = (if c % 2 = 1 then p else 1) * (p ^ (c / 2) * p ^ (c / 2)) := by
      rw [← Nat.pow_add]
      by_cases h : c % 2 = 1
      · rw [if_pos h, ← Nat.pow_succ']
        congr 1
        omega
      · rw [if_neg h, Nat.one_mul]
        congr 1
        omega
    rw [prodL_cons, odd_half r]
    show p ^ c * _ = _
    rw [e]
    show _ = ((if c % 2 = 1 then p else 1) * oddP r) * ((p ^ (c / 2) * halfP r) * (p ^ (c / 2) * halfP r))
    ac_rfl
def ones (fs : List (Nat × Nat)) : List (Nat × Nat) := (fs.filter fun f => f.2 % 2 == 1).map fun f => (f.1, 1)
theorem ones_good {fs : List (Nat × Nat)} (h : Good fs) : Good (ones fs) := by
  refine ⟨?_, fun f hf => ?_⟩
  · unfold ones
    rw [List.pairwise_map]
    exact h.up.filter _
  · obtain ⟨g, hg, rfl⟩ := List.mem_map.mp hf
    exact ⟨(h.pr g (List.mem_filter.mp hg).1).1, Nat.le_refl _⟩
theorem ones_prod : ∀ fs : List (Nat × Nat), prodL (ones fs) = oddP fs
  | [] => rfl
  | (p, c) :: r => by
    have ih := ones_prod r
    unfold ones at ih ⊢
    unfold oddP
    rw [List.filter_cons]
    by_cases h : c % 2 = 1
    · have h2 : (c % 2 == 1) = true := by simp [h]
      rw [if_pos h]
      simp only [h2, if_true, List.map_cons, prodL_cons, Nat.pow_one, ih]
    · have h2 : (c % 2 == 1) = false := by simp [h]
      rw [if_neg h, Nat.one_mul]
      simp only [h2, Bool.false_eq_true, if_false, ih]
theorem sqf_ones {gs : List (Nat × Nat)} (h : Good gs) (h1 : ∀ f ∈ gs, f.2 = 1) : Sqf (prodL gs) := sqf_of_primes fun p hp hd => by
  have hd1 : p ∣ prodL gs := Nat.dvd_trans ⟨p, rfl⟩ hd
  obtain ⟨⟨q, c⟩, hm, e⟩ := h.prime_mem hp hd1
  have e' : q = p := e
  subst e'
  have c1 : c = 1 := h1 _ hm
  subst c1
  obtain ⟨m, em, nm⟩ := h.split hm
  rw [em] at hd
  have := (pow_dvd_iff hp nm 2 1).mp (by rw [Nat.pow_two]; exact hd)
  omega
theorem sqf_oddP {fs : List (Nat × Nat)} (h : Good fs) : Sqf (oddP fs) := by
  rw [← ones_prod]
  refine sqf_ones (ones_good h) fun f hf => ?_
  obtain ⟨g, _, rfl⟩ := List.mem_map.mp hf
  rfl
/-- the exponents of a squarefree number -/
theorem sqf_exps {fs : List (Nat × Nat)} (h : Good fs) (hs : Sqf (prodL fs)) : ∀ f ∈ fs, f.2 = 1 := fun ⟨p, c⟩ hm => by
  have hp := h.pr _ hm
  obtain ⟨m, em, nm⟩ := h.split hm
  have hc : 1 ≤ c := hp.2
  by_cases hc2 : 2 ≤ c
  · exfalso
    refine hs p hp.1.1 ?_
    rw [em, ← Nat.pow_two]
    exact (pow_dvd_iff hp.1 nm 2 c).mpr hc2
  · show c = 1
    omega
theorem odd_of_ones : ∀ {fs : List (Nat × Nat)}, (∀ f ∈ fs, f.2 = 1) → oddP fs = prodL fs
  | [], _ => rfl
  | (p, c) :: r, h => by
    have h1 : c = 1 := h _ (List.mem_cons_self ..)
    subst h1
    rw [prodL_cons]
    show (if 1 % 2 = 1 then p else 1) * oddP r = p ^ 1 * prodL r
    rw [if_pos rfl, Nat.pow_one, odd_of_ones fun f hf => h f (List.mem_cons_of_mem _ hf)]
theorem odd_of_evens : ∀ {fs : List (Nat × Nat)}, (∀ f ∈ fs, f.2 % 2 = 0) → oddP fs = 1
  | [], _ => rfl
  | (p, c) :: r, h => by
    have h1 : c % 2 = 0 := h _ (List.mem_cons_self ..)
    show (if c % 2 = 1 then p else 1) * oddP r = 1
    rw [if_neg (by omega), odd_of_evens fun f hf => h f (List.mem_cons_of_mem _ hf)]
/-- a square's exponents are even -/
theorem square_odd {fs gs : List (Nat × Nat)} (hf : Good fs) (hg : Good gs) (e : prodL fs = prodL gs * prodL gs) : oddP fs = 1 := by
  have hd : Good (gs.map fun f => (f.1, 2 * f.2)) := by
    refine ⟨by rw [List.pairwise_map]; exact hg.up, fun f hf => ?_⟩
    obtain ⟨g, hg', rfl⟩ := List.mem_map.mp hf
    have := hg.pr g hg'
    exact ⟨this.1, by show 1 ≤ 2 * g.2; omega⟩
  have pd : ∀ gs : List (Nat × Nat), prodL (gs.map fun f => (f.1, 2 * f.2)) = prodL gs * prodL gs := by
    intro gs
    induction gs with
    | nil => rfl
    | cons g r ih =>
      rw [List.map_cons, prodL_cons, prodL_cons, ih]
      show g.1 ^ (2 * g.2) * _ = _
      rw [Nat.two_mul, Nat.pow_add]
      ac_rfl
  have u := hf.unique hd (e.trans (pd gs).symm)
  rw [u]
  refine odd_of_evens fun f hf => ?_
  obtain ⟨g, _, rfl⟩ := List.mem_map.mp hf
  show 2 * g.2 % 2 = 0
  omega
theorem isP2 : IsP 2 := ⟨Nat.le_refl _, fun d hd => by
  have := Nat.le_of_dvd (by omega) hd
  have h0 : d ≠ 0 := by
    intro z
    subst z
    simp at hd
  omega⟩
/-- 4m, m squarefree and not 1 mod 4 -/
theorem four_odd {fs gs : List (Nat × Nat)} (hf : Good fs) (hg : Good gs) (hs : Sqf (prodL gs)) (e : prodL fs = 4 * prodL gs) : oddP fs = prodL gs := by
  have h1 := sqf_exps hg hs
  by_cases h2 : 2 ∣ prodL gs
  · -- gs begins with (2, 1)
    obtain ⟨f, hm, ef⟩ := hg.prime_mem isP2 h2
    cases gs with
    | nil => cases hm
    | cons g r =>
      have gp := hg.pr g (List.mem_cons_self ..)
      have eg : g = (2, 1) := by
        have l2 : g.2 = 1 := h1 g (List.mem_cons_self ..)
        have : g.1 = 2 := by
          rcases List.mem_cons.mp hm with z | z
          · rw [← z]
            exact ef
          · have := (List.pairwise_cons.mp hg.up).1 f z
            have := gp.1.1
            omega
        exact Prod.ext this l2
      subst eg
      have hg3 : Good ((2, 3) :: r) := ⟨List.pairwise_cons.mpr ⟨(List.pairwise_cons.mp hg.up).1, (List.pairwise_cons.mp hg.up).2⟩, fun f hf => by
        rcases List.mem_cons.mp hf with z | z
        · subst z
          exact ⟨isP2, by simp⟩
        · exact hg.pr f (List.mem_cons_of_mem _ z)⟩
      have u := hf.unique hg3 (by
        rw [e, prodL_cons, prodL_cons]
        show 4 * (2 ^ 1 * prodL r) = 2 ^ 3 * prodL r
        omega)
      rw [u]
      show (if 3 % 2 = 1 then 2 else 1) * oddP r = 2 ^ 1 * prodL r
      rw [if_pos rfl, Nat.pow_one, odd_of_ones fun f hf => h1 f (List.mem_cons_of_mem _ hf)]
  · have hg3 : Good ((2, 2) :: gs) := ⟨List.pairwise_cons.mpr ⟨fun f hf => by
        have gp := hg.pr f hf
        have n2 : f.1 ≠ 2 := fun z => h2 (by
          have q := Nat.dvd_trans (⟨f.1 ^ (f.2 - 1), by
            have := gp.2
            conv => lhs; rw [show f.2 = (f.2 - 1) + 1 by omega, Nat.pow_succ]
            exact Nat.mul_comm _ _⟩ : f.1 ∣ f.1 ^ f.2) (show f.1 ^ f.2 ∣ prodL gs by
              obtain ⟨m, em, _⟩ := hg.split (show (f.1, f.2) ∈ gs from hf)
              exact ⟨m, by rw [em, Nat.mul_comm]⟩)
          rw [z] at q
          exact q)
        have := gp.1.1
        show 2 < f.1
        omega, hg.up⟩, fun f hf => by
        rcases List.mem_cons.mp hf with z | z
        · subst z
          exact ⟨isP2, by simp⟩
        · exact hg.pr f z⟩
    have u := hf.unique hg3 (by
      rw [e, prodL_cons]
      show 4 * prodL gs = 2 ^ 2 * prodL gs
      omega)
    rw [u]
    show (if 2 % 2 = 1 then 2 else 1) * oddP gs = prodL gs
    rw [if_neg (by omega), Nat.one_mul, odd_of_ones h1]
theorem oddP_pos {fs : List (Nat × Nat)} (h : Good fs) : 0 < oddP fs := by
  rw [← ones_prod]
  exact prodL_pos (ones_good h)
/-! the sign of a discriminant at n, as a product over the primes, for any values at the primes -/
def Kr (x : Nat → Int) : Nat → Nat → Nat → Int
  | 0, _, _ => 1
  | f + 1, n, p => if n ≤ 1 then 1 else if n % p = 0 then x p * Kr x f (n / p) p else Kr x f n (p + 1)
theorem Kr_mul {x y z : Nat → Int} : ∀ f n p, 2 ≤ p → (∀ d, 2 ≤ d → d < p → ¬ d ∣ n) → (∀ q, IsP q → q ∣ n → x q = y q * z q) → Kr x f n p = Kr y f n p * Kr z f n p
  | 0, _, _, _, _, _ => rfl
  | f + 1, n, p, hp, no, h => by
    unfold Kr
    by_cases h1 : n ≤ 1
    · rw [if_pos h1, if_pos h1, if_pos h1] <;> rfl
    · rw [if_neg h1, if_neg h1, if_neg h1]
      by_cases h2 : n % p = 0
      · rw [if_pos h2, if_pos h2, if_pos h2]
        have hd := Nat.dvd_of_mod_eq_zero h2
        have ip := least_prime hp hd no
        have hq : n / p ∣ n := Nat.div_dvd_of_dvd hd
        rw [Kr_mul f (n / p) p hp (fun d a b c => no d a b (Nat.dvd_trans c hq)) (fun q a b => h q a (Nat.dvd_trans b hq)), h p ip hd]
        rw [Int.mul_assoc, Int.mul_assoc]
        congr 1
        rw [Int.mul_left_comm]
      · rw [if_neg h2, if_neg h2, if_neg h2]
        refine Kr_mul f n (p + 1) (by omega) (fun d a b c => ?_) h
        by_cases e : d = p
        · subst e
          exact h2 (Nat.mod_eq_zero_of_dvd c)
        · exact no d a (by omega) c
theorem Kr_one {x : Nat → Int} (h : ∀ p, 2 ≤ p → x p = 1) : ∀ f n p, 2 ≤ p → Kr x f n p = 1
  | 0, _, _, _ => rfl
  | f + 1, n, p, hp => by
    unfold Kr
    split
    · rfl
    · split
      · rw [h p hp, Kr_one h f _ p hp] <;> rfl
      · exact Kr_one h f n (p + 1) (by omega)
end NT

set_option Elab.async false
set_option linter.all false
set_option maxRecDepth 100000
set_option maxHeartbeats 1000000
namespace SX
open PySem PySem.Spec PyProof.Rows L2 NT
section
variable {G : Hq} {σ : Eq'}
@[simp] theorem wE_isi {T : String} {fo : EF} {Q : D → Hq → Prop} : wE (isiC T fo σ G) Q = wE (fo σ G) (fun x G1 => match (tyD G1 x).bind fun t => isTy t T with | some b => Q (.bl b) G1 | none => False) := by
  show wE (Rs.bind _ _) Q = _
  rw [wE_bind]
  congr 1
  funext x G1
  cases (tyD G1 x).bind fun t => isTy t T <;> rfl
theorem ty_int_int {i : Int} : ((tyD G (.int i)).bind fun t => isTy t "int") = some true := nd rfl
theorem ty_int_bool {i : Int} : ((tyD G (.int i)).bind fun t => isTy t "bool") = some false := nd rfl
theorem any_map_int (l : List Int) (i : Int) : ((l.map PyData.int).any fun z => PyData.eqv z (.int i)) = l.any fun z => decide (z = i) := by
  rw [List.any_map]
  refine congrArg (fun f => l.any f) (funext fun z => ?_)
  show PyData.eqv (.int z) (.int i) = decide (z = i)
  unfold PyData.eqv
  rw [Bool.eq_iff_iff]
  simp
theorem shaped_ints (l : List Int) : SeqAt.shaped (.list (l.map PyData.int)) = true := by
  unfold SeqAt.shaped
  rw [Bool.and_eq_true_iff]
  refine ⟨?_, decide_eq_true ?_⟩
  · simp only [PyData.canLay0]
    induction l with
    | nil => rfl
    | cons a r ih => simpa only [List.map_cons, PyData.canLayAll0, PyData.canLay0, Bool.true_and] using ih
  · simp only [PyData.depth]
    have := depth_map (h := PyData.int) (B := 0) (l := l) fun a _ => by simp [PyData.depth]
    omega
theorem inD_ints {neg : Bool} {p : Nat} {l : List Int} {i : Int} (h : G[p]? = some (.lst (l.map D.int))) : inD neg (.int i) (.ref p) G = .ok (.bl (if neg then !l.any (fun z => decide (z = i)) else l.any fun z => decide (z = i))) G := by
  have e : toPy G 24 (.ref p) = some (.list (l.map PyData.int)) := toPy_lst h (toPyL_map fun a _ => toPy_int)
  show inD0 neg _ _ G = _
  unfold inD0
  simp only [toPy_int, e, shaped_int, shaped_ints, any_map_int]
  simp
/-- an integer in a written tuple of integers -/
theorem inV_ints {i : Int} : ∀ l : List Int, inV (.int i) ((l.map D.int).map vFlat) = l.any fun z => decide (z = i)
  | [] => rfl
  | a :: l => by
    have ih := inV_ints (i := i) l
    show (eqV (.int a) (.int i) || inV (.int i) ((l.map D.int).map vFlat)) = _
    rw [ih, List.any_cons]
    show ((a == i) || _) = _
    rw [show (a == i) = decide (a = i) by rw [Bool.eq_iff_iff]; simp]
theorem inD_tups {neg : Bool} {l : List Int} {i : Int} : inD neg (.int i) (.tup (l.map D.int)) G = .ok (.bl (if neg then !l.any (fun z => decide (z = i)) else l.any fun z => decide (z = i))) G := by
  show inF neg _ _ G = _
  unfold inF
  have h : (l.map D.int).all flatD = true := by
    rw [List.all_map]
    exact List.all_eq_true.mpr fun _ _ => rfl
  rw [if_pos ⟨rfl, h⟩, ← inV_ints]
  rfl
theorem allD_bls {p : Nat} {l : List Bool} (h : G[p]? = some (.lst (l.map D.bl))) : allD [.ref p] G = .ok (.bl (l.all id)) G := by
  have hb : ∀ bs : List Bool, blsD (bs.map D.bl) = some bs := by
    intro bs
    induction bs with
    | nil => rfl
    | cons b r ih =>
      show (blsD (r.map D.bl)).map (b :: ·) = _
      rw [ih] <;> rfl
  unfold allD
  simp only [lstOf_lst h, Option.bind_some, hb]
theorem anyD_bls {p : Nat} {l : List Bool} (h : G[p]? = some (.lst (l.map D.bl))) : anyD [.ref p] G = .ok (.bl (l.any id)) G := by
  have hb : ∀ bs : List Bool, blsD (bs.map D.bl) = some bs := by
    intro bs
    induction bs with
    | nil => rfl
    | cons b r ih =>
      show (blsD (r.map D.bl)).map (b :: ·) = _
      rw [ih] <;> rfl
  unfold anyD
  simp only [lstOf_lst h, Option.bind_some, hb]
end
/-! ### the law's own test of a discriminant -/
noncomputable def discB : SF :=
  (seqC (ifS (orT (notT (truthT (isiC "int" (varC 0)))) (orT (truthT (isiC "bool" (varC 0))) (valT (binC (eqD false) (varC 0) (cC (.int 0)))))) (retC (cC (.bl false))) passC)
    (seqC (ifS (valT (binC (eqD false) (varC 0) (cC (.int 1)))) (retC (cC (.bl true))) passC)
    (seqC (setC 1 (varC 0))
    (seqC (ifS (valT (binC (eqD false) (binC modD (callC intD (consA (varC 0) nilA)) (cC (.int 4))) (cC (.int 0)))) (seqC (setC 1 (binC fdivD (varC 0) (cC (.int 4))))
    (ifS (valT (binC (inD true) (binC modD (callC intD (consA (varC 1) nilA)) (cC (.int 4))) (lstC (consA (cC (.int 2)) (consA (cC (.int 3)) nilA))))) (retC (cC (.bl false))) passC)) (ifS (valT (binC (eqD true) (binC modD (callC intD (consA (varC 0) nilA)) (cC (.int 4))) (cC (.int 1)))) (retC (cC (.bl false))) passC))
    (seqC (setC 2 (callC absD (consA (varC 1) nilA)))
    (retC (callC allD (consA (lcC (srcC rangeD (consA (cC (.int 2)) (consA (binC addD (varC 2) (cC (.int 1))) nilA))) (gN 3) (valT (binC (cmpD fun i j => decide (i ≤ j)) (binC mulD (varC 3) (varC 3)) (varC 2))) (binC (eqD true) (binC modD (callC intD (consA (varC 2) nilA)) (binC mulD (varC 3) (varC 3))) (cC (.int 0))) [3]) nilA))))))))
noncomputable def discF : FF := bodyC 4 discB
def sqfB (m : Nat) : Bool := (((List.range (m - 1)).map (· + 2)).filter fun k => decide (k * k ≤ m)).all fun k => !decide (m % (k * k) = 0)
theorem sqfB_iff {m : Nat} (hm : 1 ≤ m) : sqfB m = true ↔ Sqf m := by
  unfold sqfB
  rw [List.all_eq_true]
  constructor
  · intro h k hk hd
    have hle := Nat.le_of_dvd hm hd
    have hkk : k ≤ k * k := Nat.le_mul_of_pos_left k (by omega)
    have := h k (List.mem_filter.mpr ⟨List.mem_map.mpr ⟨k - 2, List.mem_range.mpr (by omega), by omega⟩, decide_eq_true hle⟩)
    simp at this
    exact this (Nat.mod_eq_zero_of_dvd hd)
  · intro h k hk
    obtain ⟨h1, _⟩ := List.mem_filter.mp hk
    obtain ⟨j, _, rfl⟩ := List.mem_map.mp h1
    simp
    intro z
    exact h (j + 2) (by omega) (Nat.dvd_of_mod_eq_zero z)
def isDB (d : Int) : Bool := if d = 0 then false else if d = 1 then true else if d % 4 = 0 then (if d / 4 % 4 = 2 ∨ d / 4 % 4 = 3 then sqfB (d / 4).natAbs else false) else if d % 4 = 1 then sqfB d.natAbs else false
theorem disc_end {x0 : Option D} {m : Nat} {G : Hq} {N B C : Eq' → Hq → Prop} {part : Int} (hp : part.natAbs = m) (hm : m < 2 ^ 23) {R : D → Hq → Prop} (out : ∀ G', Fr [] G G' → R (.bl (sqfB m)) G') :
    wS ((seqC (setC 2 (callC absD (consA (varC 1) nilA)))
    (retC (callC allD (consA (lcC (srcC rangeD (consA (cC (.int 2)) (consA (binC addD (varC 2) (cC (.int 1))) nilA))) (gN 3) (valT (binC (cmpD fun i j => decide (i ≤ j)) (binC mulD (varC 3) (varC 3)) (varC 2))) (binC (eqD true) (binC modD (callC intD (consA (varC 2) nilA)) (binC mulD (varC 3) (varC 3))) (cC (.int 0))) [3]) nilA))))
      [x0, some (.int part), none, none] G) N R B C := by
  have ea : (if part < 0 then -part else part) = (m : Int) := by
    split <;> omega
  simp only [wS_seq, wS_set, wE_call, wE_consA, wE_varS, wE_var0, wE_nilA, absD_int, wE_ok, List.set_cons_succ, List.set_cons_zero, ea, wS_ret, wE_lc, wE_src, wE_c, wE_bin, addD_int]
  rw [rangeD2 (small_of (by omega) (by omega)) (small_of (by omega) (by omega)), wE_ok]
  have e0 : ((m : Int) + 1 - 2).toNat = m - 1 := by omega
  rw [e0]
  have e1 : (fun k : Nat => D.int (2 + (k : Int) * 1)) = fun k : Nat => natD (k + 2) := by
    funext k
    have : 2 + (k : Int) * 1 = ((k + 2 : Nat) : Int) := by omega
    rw [this]
  refine lc_sel ((List.range (m - 1)).map (· + 2)) natD (fun k => .bl (!decide (m % (k * k) = 0))) (fun k => decide (k * k ≤ m)) (by simp; omega) (fun j acc => by rw [src_itR, e1, List.map_map]; rfl) (fun a ha acc => ?_) ?_
  · have ha1 : 2 ≤ a ∧ a < 2 ^ 24 := by
      simp only [List.mem_map, List.mem_range] at ha
      obtain ⟨b, hb, rfl⟩ := ha
      omega
    have em : (a : Int) * (a : Int) = ((a * a : Nat) : Int) := by rw [Int.natCast_mul]
    have pos : 0 < a * a := Nat.mul_pos (by omega) (by omega)
    simp only [wE_gN, wipeD, List.set_cons_succ, List.set_cons_zero, wE_val, wE_bin, wE_call, wE_consA, wE_nilA, wE_varS, wE_var0, wE_c, intD_int, wE_ok, mulD_int (i := (a : Int)) (j := (a : Int)) (by omega) (by omega), em, cmpD_int, wE_toB, modD_int (j := ((a * a : Nat) : Int)) (by omega), eqD_int, int_mod]
    refine ⟨?_, by simp, fun _ => ⟨?_, by simp⟩⟩
    · rw [Bool.eq_iff_iff]
      simp only [decide_eq_true_eq]
      omega
    · have : ((((m % (a * a) : Nat) : Int) = 0) ↔ m % (a * a) = 0) := by omega
      simp only [if_true, this]
  · have e3 : (((List.range (m - 1)).map (· + 2)).filter fun k => decide (k * k ≤ m)).map (fun k => D.bl (!decide (m % (k * k) = 0))) = ((((List.range (m - 1)).map (· + 2)).filter fun k => decide (k * k ≤ m)).map fun k => !decide (m % (k * k) = 0)).map D.bl := by
      rw [List.map_map] <;> rfl
    rw [e3, allD_bls at_last, wE_ok]
    have e4 : (((((List.range (m - 1)).map (· + 2)).filter fun k => decide (k * k ≤ m)).map fun k => !decide (m % (k * k) = 0)).all id) = sqfB m := by
      unfold sqfB
      rw [List.all_map]
      rfl
    rw [e4]
    exact out _ Fr.new
theorem disc_ok {d : Int} {G : Hq} (hd : d.natAbs < 2 ^ 23) : ∃ G', discF [.int d] G = .ok (.bl (isDB d)) G' ∧ Fr [] G G' := by
  have goal : wE (discF [.int d] G) fun v G' => v = .bl (isDB d) ∧ Fr [] G G' := by
    unfold discF
    rw [wE_body]
    show wS (discB [some (.int d), none, none, none] G) _ _ _ _
    unfold discB
    rw [wS_seq]
    simp only [wS_if, wE_orT, wE_notT, wE_truth, wE_isi, wE_varS, wE_var0, ty_int_int, ty_int_bool, truthD, wE_ok, Bool.not_true, Bool.false_eq_true, if_false, wE_val, wE_bin, wE_c, eqD_int, wE_toB, decide_eq_true_eq]
    unfold isDB
    by_cases h0 : d = 0
    · rw [if_pos h0, if_pos h0]
      simp only [wS_ret, wE_c]
      exact ⟨trivial, Fr.refl⟩
    rw [if_neg h0, if_neg h0, wS_pass, wS_seq]
    simp only [wS_if, wE_varS, wE_var0, wE_val, wE_bin, wE_c, eqD_int, wE_ok, wE_toB, Bool.false_eq_true, if_false, decide_eq_true_eq]
    by_cases h1 : d = 1
    · rw [if_pos h1, if_pos h1]
      simp only [wS_ret, wE_c]
      exact ⟨trivial, Fr.refl⟩
    rw [if_neg h1, if_neg h1, wS_pass, wS_seq]
    simp only [wS_set, wE_varS, wE_var0, List.set_cons_succ, List.set_cons_zero]
    rw [wS_seq]
    simp only [wS_if, wE_call, wE_consA, wE_nilA, intD_int, wE_varS, wE_var0, wE_val, wE_bin, wE_c, modD_int (j := 4) (by omega), eqD_int, wE_ok, wE_toB, Bool.false_eq_true, if_false, if_true, decide_eq_true_eq]
    by_cases h4 : d % 4 = 0
    · rw [if_pos h4, if_pos h4, wS_seq]
      simp only [wS_set, wE_bin, wE_varS, wE_var0, wE_c, fdivD_int (j := 4) (by omega) (by omega), wE_ok, List.set_cons_succ, List.set_cons_zero, wS_if, wE_val, wE_call, wE_consA, wE_nilA, intD_int, modD_int (j := 4) (by omega), wE_lst]
      have e23 : inD true (.int (d / 4 % 4)) (.ref G.length) (G ++ [.lst [.int 2, .int 3]]) = _ := inD_ints (l := [2, 3]) at_last
      rw [e23, wE_ok, wE_toB]
      by_cases h23 : d / 4 % 4 = 2 ∨ d / 4 % 4 = 3
      · rw [if_pos h23]
        have ez : (if true = true then !([2, 3] : List Int).any (fun z => decide (z = d / 4 % 4)) else ([2, 3] : List Int).any fun z => decide (z = d / 4 % 4)) = false := by
          rcases h23 with z | z <;> rw [z] <;> rfl
        rw [ez, if_neg (by simp), wS_pass]
        exact disc_end rfl (by omega) fun G' f => ⟨rfl, Fr.new.trans f⟩
      · rw [if_neg h23]
        have ez : (if true = true then !([2, 3] : List Int).any (fun z => decide (z = d / 4 % 4)) else ([2, 3] : List Int).any fun z => decide (z = d / 4 % 4)) = true := by
          have z1 : ¬ (2 : Int) = d / 4 % 4 := fun z => h23 (.inl z.symm)
          have z2 : ¬ (3 : Int) = d / 4 % 4 := fun z => h23 (.inr z.symm)
          simp [z1, z2]
        rw [ez, if_pos rfl]
        simp only [wS_ret, wE_c]
        exact ⟨trivial, Fr.new⟩
    · rw [if_neg h4, if_neg h4]
      by_cases h5 : d % 4 = 1
      · rw [if_pos h5]
        have ez : (!decide (d % 4 = 1)) = false := by simp [h5]
        rw [ez, if_neg (by simp), wS_pass]
        exact disc_end rfl hd fun G' f => ⟨rfl, f⟩
      · rw [if_neg h5]
        have ez : (!decide (d % 4 = 1)) = true := by simp [h5]
        rw [ez, if_pos rfl]
        simp only [wS_ret, wE_c]
        exact ⟨trivial, Fr.refl⟩
  obtain ⟨v, G', e, rfl, f⟩ := wE_get goal
  exact ⟨G', e, f⟩
/-! ### gcd -/
noncomputable def lgcdB : SF :=
  (seqC (parC 2 3 (consA (callC absD (consA (varC 0) nilA)) (consA (callC absD (consA (varC 1) nilA)) nilA)))
    (seqC (whileC (valT (binC (cmpD fun i j => decide (j < i)) (varC 3) (cC (.int 0)))) (parC 2 3 (consA (varC 3) (consA (binC modD (callC intD (consA (varC 2) nilA)) (varC 3)) nilA))))
    (retC (varC 2))))
noncomputable def lgcdF : FF := bodyC 4 lgcdB
theorem abs_nat (i : Int) : (if i < 0 then -i else i) = (i.natAbs : Int) := by split <;> omega
theorem lgcd_ok {a b : Int} {G : Hq} : lgcdF [.int a, .int b] G = .ok (.int ((Nat.gcd a.natAbs b.natAbs : Nat) : Int)) G := by
  have goal : wE (lgcdF [.int a, .int b] G) fun v G' => v = .int ((Nat.gcd a.natAbs b.natAbs : Nat) : Int) ∧ G' = G := by
    unfold lgcdF
    rw [wE_body]
    show wS (lgcdB [some (.int a), some (.int b), none, none] G) _ _ _ _
    unfold lgcdB
    rw [wS_seq]
    simp only [wS_par, wE_consA, wE_call, wE_varS, wE_var0, wE_nilA, absD_int, wE_ok, abs_nat, List.set_cons_succ, List.set_cons_zero]
    rw [wS_seq]
    refine wS_while (fun n σ G' => ∃ x y : Nat, σ = [some (.int a), some (.int b), some (.int x), some (.int y)] ∧ G' = G ∧ Nat.gcd x y = Nat.gcd a.natAbs b.natAbs ∧ n = y) (fun n σ G' h => ?_) b.natAbs _ _ ⟨a.natAbs, b.natAbs, rfl, rfl, rfl, rfl⟩
    obtain ⟨x, y, rfl, rfl, e, rfl⟩ := h
    simp only [wE_val, wE_bin, wE_varS, wE_var0, wE_c, cmpD_int, wE_ok, wE_toB, decide_eq_true_eq]
    by_cases hy : (0 : Int) < (n : Int)
    · rw [if_pos hy]
      simp only [wS_par, wE_consA, wE_call, wE_bin, wE_varS, wE_var0, wE_nilA, intD_int, wE_ok, modD_int (j := (n : Int)) hy, int_mod, List.set_cons_succ, List.set_cons_zero]
      refine ⟨x % n, Nat.mod_lt _ (by omega), n, x % n, by simp, by simp, ?_, rfl⟩
      rw [← e, Nat.gcd_comm x n, Nat.gcd_rec n x, Nat.gcd_comm]
    · rw [if_neg hy]
      have z : n = 0 := by omega
      subst z
      simp only [wS_ret, wE_varS, wE_var0]
      rw [← e, Nat.gcd_zero_right]
      simp
  refine wE_eq ?_
  assumption
/-! ### the core -/
noncomputable def coreB : SF :=
  (seqC (setC 1 (ifC (valT (binC (cmpD fun i j => decide (j < i)) (varC 0) (cC (.int 0)))) (cC (.int 1)) (unC negD (cC (.int 1)))))
    (seqC (forC (iterC (fnC primesF [] (consA (callC absD (consA (varC 0) nilA)) nilA))) (gTp 2 (gCs (gN 2) (gCs (gN 3) gNl))) (ifS (valT (binC (eqD false) (binC modD (varC 3) (cC (.int 2))) (cC (.int 1)))) (augC 1 imulD (varC 2)) passC))
    (retC (ifC (valT (binC (eqD false) (binC modD (varC 1) (cC (.int 4))) (cC (.int 1)))) (varC 1) (binC mulD (cC (.int 4)) (varC 1))))))
noncomputable def coreF : FF := bodyC 4 coreB
def discOf (c : Int) : Int := if c % 4 = 1 then c else 4 * c
def sgn (n : Int) : Int := if 0 < n then 1 else -1
theorem odd_snoc (fs : List (Nat × Nat)) (p c : Nat) : oddP (fs ++ [(p, c)]) = oddP fs * (if c % 2 = 1 then p else 1) := by
  induction fs with
  | nil =>
    show (if c % 2 = 1 then p else 1) * 1 = 1 * (if c % 2 = 1 then p else 1)
    omega
  | cons f r ih =>
    show (if f.2 % 2 = 1 then f.1 else 1) * oddP (r ++ [(p, c)]) = (if f.2 % 2 = 1 then f.1 else 1) * oddP r * _
    rw [ih, Nat.mul_assoc]
theorem core_ok {n : Int} {fs : List (Nat × Nat)} {G : Hq} (h0 : n ≠ 0) (hb : n.natAbs < 2 ^ 60) (hg : Good fs) (hp : prodL fs = n.natAbs) : ∃ G', coreF [.int n] G = .ok (.int (discOf (sgn n * (oddP fs : Int)))) G' ∧ Fr [] G G' := by
  obtain ⟨gs, eg, hgs, pgs, _⟩ := primes_ok (n := n.natAbs) (G := G) (by omega) (by omega)
  obtain rfl : gs = fs := hgs.unique hg (pgs.trans hp.symm)
  have goal : wE (coreF [.int n] G) fun v G' => v = .int (discOf (sgn n * (oddP gs : Int))) ∧ Fr [] G G' := by
    unfold coreF
    rw [wE_body]
    show wS (coreB [some (.int n), none, none, none] G) _ _ _ _
    unfold coreB
    rw [wS_seq]
    simp only [wS_set, wE_ifC, wE_val, wE_bin, wE_varS, wE_var0, wE_c, cmpD_int, wE_ok, wE_toB, decide_eq_true_eq, wE_un, negD_int]
    have tail : ∀ s0 : Int, s0 = sgn n → wS (seqC (forC (iterC (fnC primesF [] (consA (callC absD (consA (varC 0) nilA)) nilA))) (gTp 2 (gCs (gN 2) (gCs (gN 3) gNl))) (ifS (valT (binC (eqD false) (binC modD (varC 3) (cC (.int 2))) (cC (.int 1)))) (augC 1 imulD (varC 2)) passC))
      (retC (ifC (valT (binC (eqD false) (binC modD (varC 1) (cC (.int 4))) (cC (.int 1)))) (varC 1) (binC mulD (cC (.int 4)) (varC 1)))) [some (.int n), some (.int s0), none, none] G) (fun _ G' => D.non = .bl (discOf (sgn n * (oddP gs : Int)) == 0 && false) ∧ False) (fun v G' => v = .int (discOf (sgn n * (oddP gs : Int))) ∧ Fr [] G G') (fun _ _ => False) (fun _ _ => False) := by
      intro s0 es
      have sg : s0 = 1 ∨ s0 = -1 := by
        rw [es]
        unfold sgn
        split <;> omega
      have ob : ∀ k, oddP (gs.take k) ≤ n.natAbs := fun k => by
        have h1 : oddP (gs.take k) ≤ prodL (gs.take k) := by
          have hg2 : Good (gs.take k ++ gs.drop k) := by rw [List.take_append_drop]; exact hg
          rw [odd_half]
          refine Nat.le_mul_of_pos_right _ (Nat.mul_pos ?_ ?_) <;>
          · rcases Nat.eq_zero_or_pos (halfP (gs.take k)) with z | z
            · have := prodL_pos hg2.append.1
              rw [odd_half, z] at this
              simp at this
            · exact z
        have h2 : prodL (gs.take k) ≤ prodL gs := by
          have hg2 : Good (gs.take k ++ gs.drop k) := by rw [List.take_append_drop]; exact hg
          have e : prodL gs = prodL (gs.take k) * prodL (gs.drop k) := by rw [← prodL_append, List.take_append_drop]
          rw [e]
          exact Nat.le_mul_of_pos_right _ (prodL_pos hg2.append.2)
        omega
      rw [wS_seq, wS_for, wE_iter, wE_fn]
      simp only [wE_consA, wE_call, wE_varS, wE_var0, wE_nilA, absD_int, wE_ok, abs_nat, List.append_nil, eg, iterD_ref (lstOf_lst at_last)]
      refine wS_forLs (gs.map pcD) (fun k σ G' => ∃ x2 x3, σ = [some (.int n), some (.int (s0 * (oddP (gs.take k) : Int))), x2, x3] ∧ G' = G ++ [.lst (gs.map pcD)]) ⟨none, none, by simp [oddP], rfl⟩ (fun k σ G' h => ?_) (fun k d σ G' hd h => ?_) (fun σ G' h => ?_)
      · obtain ⟨x2, x3, rfl, rfl⟩ := h
        exact lstOf_lst at_last
      · obtain ⟨x2, x3, rfl, rfl⟩ := h
        rw [List.getElem?_map] at hd
        have hex : ∃ f, gs[k]? = some f ∧ pcD f = d := Option.map_eq_some_iff.mp hd
        cases hex
        rename_i f hf
        obtain ⟨p, c⟩ := f
        rw [← hf.2]
        have tk : gs.take (k + 1) = gs.take k ++ [(p, c)] := by
          rw [List.take_succ, hf.1] <;> rfl
        have o1 := ob (k + 1)
        have o0 := ob k
        obtain ⟨b1, b2, b3⟩ := good_bits hg (List.mem_of_getElem? hf.1)
        rw [tk, odd_snoc] at o1
        simp only [pcD, wE_gTp (n := 2) (xs := [.int (p : Int), .int (c : Int)]) rfl, wE_gCs, wE_gN, wE_gNl, List.set_cons_succ, List.set_cons_zero, wS_if, wE_val, wE_bin, wE_varS, wE_var0, wE_c, modD_int (j := 2) (by omega), wE_ok, eqD_int, wE_toB, Bool.false_eq_true, if_false, decide_eq_true_eq]
        by_cases hc : (c : Int) % 2 = 1
        · rw [if_pos hc]
          have hc' : c % 2 = 1 := by omega
          have bb : (s0 * (oddP (gs.take k) : Int)).natAbs < 2 ^ 400 := by
            rw [Int.natAbs_mul, Int.natAbs_natCast]
            rcases sg with z | z <;> rw [z] <;> simp <;> omega
          simp only [wS_augV, wE_varS, wE_var0, imulD_int bb (show ((p : Nat) : Int).natAbs < 2 ^ 400 by omega), wE_ok, List.set_cons_succ, List.set_cons_zero]
          refine ⟨some (.int p), some (.int c), ?_, by simp⟩
          rw [tk, odd_snoc, if_pos hc', Int.natCast_mul, Int.mul_assoc]
        · rw [if_neg hc, wS_pass]
          have hc' : ¬ c % 2 = 1 := by omega
          refine ⟨some (.int p), some (.int c), ?_, by simp⟩
          rw [tk, odd_snoc, if_neg hc', Nat.mul_one]
      · obtain ⟨x2, x3, rfl, rfl⟩ := h
        rw [List.length_map, List.take_length]
        have o1 := ob gs.length
        rw [List.take_length] at o1
        have bb : (s0 * (oddP gs : Int)).natAbs < 2 ^ 400 := by
          rw [Int.natAbs_mul, Int.natAbs_natCast]
          rcases sg with z | z <;> rw [z] <;> simp <;> omega
        simp only [wS_ret, wE_ifC, wE_val, wE_bin, wE_varS, wE_var0, wE_c, modD_int (j := 4) (by omega), wE_ok, eqD_int, wE_toB, Bool.false_eq_true, if_false, decide_eq_true_eq, mulD_int (i := 4) (by omega) bb]
        rw [es]
        unfold discOf
        by_cases h4 : sgn n * (oddP gs : Int) % 4 = 1
        · rw [if_pos h4, if_pos h4]
          exact ⟨rfl, Fr.new⟩
        · rw [if_neg h4, if_neg h4]
          exact ⟨rfl, Fr.new⟩
    by_cases hn : (0 : Int) < n
    · rw [if_pos hn]
      simp only [List.set_cons_succ, List.set_cons_zero]
      exact wS_imp (tail 1 (by unfold sgn; rw [if_pos hn])) (fun _ _ q => q.2.elim) (fun _ _ q => q) (fun _ _ q => q.elim) fun _ _ q => q.elim
    · rw [if_neg hn]
      simp only [List.set_cons_succ, List.set_cons_zero]
      exact wS_imp (tail (-1) (by unfold sgn; rw [if_neg hn])) (fun _ _ q => q.2.elim) (fun _ _ q => q) (fun _ _ q => q.elim) fun _ _ q => q.elim
  obtain ⟨v, G', e, rfl, f⟩ := wE_get goal
  exact ⟨G', e, f⟩
end SX

set_option Elab.async false
set_option linter.all false
set_option maxRecDepth 100000
set_option maxHeartbeats 1000000
namespace SX
open PySem PySem.Spec PyProof.Rows L2 NT
/-! ### the law's own sign, prime by prime -/
noncomputable def turnS : SF := (ifS (valT (binC (eqD false) (binC modD (callC intD (consA (varC 1) nilA)) (varC 3)) (cC (.int 0)))) (seqC (setC 1 (binC fdivD (varC 1) (varC 3)))
    (ifS (valT (binC (eqD false) (binC modD (callC intD (consA (varC 0) nilA)) (varC 3)) (cC (.int 0)))) (setC 2 (cC (.int 0))) (ifS (valT (binC (eqD false) (varC 3) (cC (.int 2)))) (setC 2 (binC mulD (varC 2) (binC ixD (lstC (consA (cC (.int 0)) (consA (cC (.int 1)) (consA (cC (.int 0)) (consA (unC negD (cC (.int 1))) (consA (cC (.int 0)) (consA (unC negD (cC (.int 1))) (consA (cC (.int 0)) (consA (cC (.int 1)) nilA))))))))) (binC modD (callC intD (consA (varC 0) nilA)) (cC (.int 8)))))) (ifS (notT (truthT (callC anyD (consA (lcC (srcC rangeD (consA (cC (.int 1)) (consA (binC addD (binC fdivD (varC 3) (cC (.int 2))) (cC (.int 1))) nilA))) (gN 4) yesT (binC (eqD false) (binC modD (callC intD (consA (binC subD (binC mulD (varC 4) (varC 4)) (varC 0)) nilA)) (varC 3)) (cC (.int 0))) [4]) nilA)))) (setC 2 (unC negD (varC 2))) passC)))) (setC 3 (binC addD (varC 3) (cC (.int 1)))))
noncomputable def lsignB : SF :=
  (seqC (setC 2 (cC (.int 1)))
    (seqC (setC 3 (cC (.int 2)))
    (seqC (whileC (andT (valT (binC (cmpD fun i j => decide (j < i)) (varC 1) (cC (.int 1)))) (valT (binC (eqD true) (varC 0) (cC (.int 1))))) turnS)
    (retC (varC 2)))))
noncomputable def lsignF : FF := bodyC 5 lsignB
def tab8 (i : Int) : Int := ([0, 1, 0, -1, 0, -1, 0, 1] : List Int).getD i.toNat 0
def anySq (d : Int) (p : Nat) : Bool := ((List.range (p / 2)).map (fun k : Nat => k + 1)).any fun x : Nat => decide (((x : Int) * x - d) % (p : Int) = 0)
def chi (d : Int) (p : Nat) : Int := if d % (p : Int) = 0 then 0 else if p = 2 then tab8 (d % 8) else if anySq d p = true then 1 else -1
theorem tab8_small : ∀ i : Int, 0 ≤ i → i < 8 → (tab8 i).natAbs ≤ 1 := fun i h0 h8 => by
  have : i = 0 ∨ i = 1 ∨ i = 2 ∨ i = 3 ∨ i = 4 ∨ i = 5 ∨ i = 6 ∨ i = 7 := by omega
  rcases this with e | e | e | e | e | e | e | e <;> rw [e] <;> decide
theorem chi_small (d : Int) (p : Nat) : (chi d p).natAbs ≤ 1 := by
  unfold chi
  split
  · decide
  · split
    · exact tab8_small _ (Int.emod_nonneg _ (by omega)) (Int.emod_lt_of_pos _ (by omega))
    · split <;> decide
theorem tab8_at {i : Int} (h0 : 0 ≤ i) (h8 : i < 8) : atI [D.int 0, .int 1, .int 0, .int (-1), .int 0, .int (-1), .int 0, .int 1] i = some (.int (tab8 i)) := by
  have : i = 0 ∨ i = 1 ∨ i = 2 ∨ i = 3 ∨ i = 4 ∨ i = 5 ∨ i = 6 ∨ i = 7 := by omega
  rcases this with e | e | e | e | e | e | e | e <;> rw [e] <;> rfl
/-- one prime out of m -/
theorem turnS_div {d f : Int} {m p : Nat} {x4 : Option D} {G : Hq} {N B C : Eq' → Hq → Prop} {R : D → Hq → Prop} (hp : 2 ≤ p) (hps : p < 2 ^ 20) (hd : d.natAbs < 2 ^ 60) (hf : f.natAbs ≤ 1) (hm : m % p = 0)
    (out : ∀ x4' G', Fr [] G G' → N [some (.int d), some (.int (m / p : Nat)), some (.int (f * chi d p)), some (.int p), x4'] G') :
    wS (turnS [some (.int d), some (.int m), some (.int f), some (.int p), x4] G) N R B C := by
  unfold turnS
  have hz : ((m % p : Nat) : Int) = 0 := by omega
  simp only [wS_if (c := valT (binC (eqD false) (binC modD (callC intD (consA (varC 1) nilA)) (varC 3)) (cC (.int 0)))), wE_val, wE_bin, wE_call, wE_consA, wE_nilA, intD_int, wE_varS, wE_var0, wE_c, modD_int (j := (p : Int)) (by omega), int_mod, hz, eqD_int, wE_ok, wE_toB, Bool.false_eq_true, if_false, decide_eq_true_eq]
  rw [if_pos trivial, wS_seq]
  simp only [wS_set, wE_bin, wE_varS, wE_var0, fdivD_int (j := (p : Int)) (by omega) (by omega), wE_ok, int_div, List.set_cons_succ, List.set_cons_zero]
  rw [wS_if]
  simp only [wE_val, wE_bin, wE_call, wE_consA, wE_nilA, intD_int, wE_varS, wE_var0, wE_c, modD_int (j := (p : Int)) (by omega), eqD_int, wE_ok, wE_toB, Bool.false_eq_true, if_false, decide_eq_true_eq]
  unfold chi at out
  by_cases h0 : d % (p : Int) = 0
  · rw [if_pos h0]
    rw [if_pos h0] at out
    simp only [wS_set, wE_c, List.set_cons_succ, List.set_cons_zero]
    have q := out x4 G Fr.refl
    rw [Int.mul_zero] at q
    exact q
  rw [if_neg h0]
  rw [if_neg h0] at out
  rw [wS_if]
  simp only [wE_val, wE_bin, wE_varS, wE_var0, wE_c, eqD_int, wE_ok, wE_toB, Bool.false_eq_true, if_false, decide_eq_true_eq]
  by_cases h2 : (p : Int) = 2
  · rw [if_pos h2]
    rw [if_pos (show p = 2 by omega)] at out
    have b0 := Int.emod_nonneg d (b := 8) (by omega)
    have b1 := Int.emod_lt_of_pos d (b := 8) (by omega)
    have ts := tab8_small _ b0 b1
    simp only [wS_set, wE_bin, wE_varS, wE_var0, wE_lst, wE_consA, wE_c, wE_un, negD_int, wE_nilA, wE_call, intD_int, wE_ok, modD_int (j := 8) (by omega)]
    have e8 : ixD (.ref G.length) (.int (d % 8)) (G ++ [.lst [.int 0, .int 1, .int 0, .int (-1), .int 0, .int (-1), .int 0, .int 1]]) = .ok (.int (tab8 (d % 8))) (G ++ [.lst [.int 0, .int 1, .int 0, .int (-1), .int 0, .int (-1), .int 0, .int 1]]) := by
      rw [ixD_lst at_last, tab8_at b0 b1, oneD_some]
    rw [e8, wE_ok, mulD_int (by omega) (by omega), wE_ok]
    exact out x4 _ Fr.new
  rw [if_neg h2]
  rw [if_neg (show ¬ p = 2 by omega)] at out
  rw [wS_if]
  simp only [wE_notT, wE_truth, wE_call (g := anyD), wE_consA, wE_nilA, wE_lc, wE_src, wE_c, wE_bin, wE_varS, wE_var0, fdivD_int (j := 2) (by omega) (by omega), addD_int, wE_ok]
  rw [rangeD2 (small_of (by omega) (by omega)) (small_of (by omega) (by omega)), wE_ok]
  have e0 : ((p : Int) / 2 + 1 - 1).toNat = p / 2 := by omega
  rw [e0]
  have e1 : (fun k : Nat => D.int (1 + (k : Int) * 1)) = fun k : Nat => natD (k + 1) := by
    funext k
    have : 1 + (k : Int) * 1 = ((k + 1 : Nat) : Int) := by omega
    rw [this]
  refine lc_map ((List.range (p / 2)).map (fun k : Nat => k + 1)) natD (fun x : Nat => .bl (decide (((x : Int) * x - d) % (p : Int) = 0))) (by simp; omega) (fun j acc => by rw [src_itR, e1, List.map_map]; rfl) (fun a ha acc => ?_) ?_ (fun a ha acc => ?_)
  · have ha1 : a < 2 ^ 20 := by
      simp only [List.mem_map, List.mem_range] at ha
      obtain ⟨b, hb, rfl⟩ := ha
      omega
    simp only [wE_gN, wipeD, List.set_cons_succ, List.set_cons_zero, wE_yes, wE_bin, wE_call, wE_consA, wE_nilA, wE_varS, wE_var0, wE_c, mulD_int (i := (a : Int)) (j := (a : Int)) (by omega) (by omega), subD_int, intD_int, wE_ok, modD_int (j := (p : Int)) (by omega), eqD_int, Bool.false_eq_true, if_false]
    simp
  rotate_left
  · simp only [wE_gN, wipeD, List.set_cons_succ, List.set_cons_zero, wE_yes]
  have e3 : ((List.range (p / 2)).map (fun k : Nat => k + 1)).map (fun x : Nat => D.bl (decide (((x : Int) * x - d) % (p : Int) = 0))) = (((List.range (p / 2)).map (fun k : Nat => k + 1)).map fun x : Nat => decide (((x : Int) * x - d) % (p : Int) = 0)).map D.bl := by
    rw [List.map_map, List.map_map, List.map_map] <;> rfl
  have e4 : (((List.range (p / 2)).map (fun k : Nat => k + 1)).map fun x : Nat => decide (((x : Int) * x - d) % (p : Int) = 0)).any id = anySq d p := by
    unfold anySq
    rw [List.any_map]
    rfl
  rw [e3, anyD_bls at_last, e4, wE_ok]
  simp only [truthD, wE_ok]
  cases ha : anySq d p with
  | true =>
    rw [if_pos ha, Int.mul_one] at out
    simp only [Bool.not_true, Bool.false_eq_true, if_false, wS_pass]
    exact out x4 _ Fr.new
  | false =>
    rw [ha] at out
    simp only [Bool.not_false, if_true, wS_set, wE_un, wE_varS, wE_var0, negD_int, wE_ok, List.set_cons_succ, List.set_cons_zero]
    have q := out x4 _ (Fr.new (c := .lst ((((List.range (p / 2)).map (fun k : Nat => k + 1)).map fun x : Nat => decide (((x : Int) * x - d) % (p : Int) = 0)).map D.bl)))
    rw [if_neg (by simp)] at q
    have em : f * -1 = -f := by omega
    rw [em] at q
    exact q
theorem turnS_next {d f : Int} {m p : Nat} {x4 : Option D} {G : Hq} {N B C : Eq' → Hq → Prop} {R : D → Hq → Prop} (hp : 2 ≤ p) (hm : ¬ m % p = 0)
    (out : N [some (.int d), some (.int m), some (.int f), some (.int (p + 1 : Nat)), x4] G) : wS (turnS [some (.int d), some (.int m), some (.int f), some (.int p), x4] G) N R B C := by
  unfold turnS
  have hz : ¬ ((m % p : Nat) : Int) = 0 := by omega
  rw [wS_if]
  simp only [wE_val, wE_bin, wE_call, wE_consA, wE_nilA, intD_int, wE_varS, wE_var0, wE_c, modD_int (j := (p : Int)) (by omega), int_mod, eqD_int, wE_ok, wE_toB, Bool.false_eq_true, if_false, decide_eq_true_eq]
  rw [if_neg hz]
  simp only [wS_set, wE_bin, wE_varS, wE_var0, wE_c, addD_int, wE_ok, List.set_cons_succ, List.set_cons_zero]
  exact out
theorem lsign_ok {d : Int} {n : Nat} {G : Hq} (h1 : 1 ≤ n) (hn : n < 2 ^ 20) (hd : d.natAbs < 2 ^ 60) : ∃ G', lsignF [.int d, .int n] G = .ok (.int (if d = 1 then 1 else Kr (chi d) (2 * n) n 2)) G' ∧ Fr [] G G' := by
  have goal : wE (lsignF [.int d, .int n] G) fun v G' => v = .int (if d = 1 then 1 else Kr (chi d) (2 * n) n 2) ∧ Fr [] G G' := by
    unfold lsignF
    rw [wE_body]
    show wS (lsignB [some (.int d), some (.int n), none, none, none] G) _ _ _ _
    unfold lsignB
    rw [wS_seq]
    simp only [wS_set, wE_c, List.set_cons_succ, List.set_cons_zero]
    rw [wS_seq]
    simp only [wS_set, wE_c, List.set_cons_succ, List.set_cons_zero]
    rw [wS_seq]
    by_cases hd1 : d = 1
    · rw [if_pos hd1, whileC_eq, wS_onE]
      simp only [wE_andT, wE_val, wE_bin, wE_varS, wE_var0, wE_c, cmpD_int, wE_ok, wE_toB, decide_eq_true_eq, eqD_int, if_true, hd1, decide_true, Bool.not_true]
      by_cases hn1 : (1 : Int) < (n : Int)
      · rw [if_pos hn1]
        simp only [Bool.false_eq_true, if_false, wS_nx, wS_ret, wE_varS, wE_var0]
        exact ⟨trivial, Fr.refl⟩
      · rw [if_neg hn1]
        simp only [Bool.false_eq_true, if_false, wS_nx, wS_ret, wE_varS, wE_var0]
        exact ⟨trivial, Fr.refl⟩
    rw [if_neg hd1]
    refine wS_while (fun v σ G' => ∃ (m p : Nat) (f : Int) (x4 : Option D), σ = [some (.int d), some (.int m), some (.int f), some (.int p), x4] ∧ Fr [] G G' ∧ 2 ≤ p ∧ 1 ≤ m ∧ m ≤ n ∧ (1 < m → p ≤ m ∧ 2 * m ≤ v + p) ∧ (∀ e, 2 ≤ e → e < p → ¬ e ∣ m) ∧ f.natAbs ≤ 1 ∧ f * Kr (chi d) v m p = Kr (chi d) (2 * n) n 2)
      (fun v σ G' h => ?_) (2 * n) _ _ ⟨n, 2, 1, none, rfl, Fr.refl, by omega, h1, by omega, fun h => ⟨by omega, by omega⟩, fun e a b => by omega, by decide, by rw [Int.one_mul]⟩
    obtain ⟨m, p, f, x4, rfl, fr, hp, hm, hmn, hv, hno, hf, hK⟩ := h
    generalize Kr (chi d) (2 * n) n 2 = T at hK ⊢
    have dn : (!decide (d = 1)) = true := by simp [hd1]
    simp only [wE_andT, wE_val, wE_bin, wE_varS, wE_var0, wE_c, cmpD_int, wE_ok, wE_toB, decide_eq_true_eq, eqD_int, if_true, dn]
    by_cases hm1 : (1 : Int) < (m : Int)
    · rw [if_pos hm1]
      have hm1' : 1 < m := by omega
      obtain ⟨hpm, hvm⟩ := hv hm1'
      obtain ⟨w, rfl⟩ : ∃ w, v = w + 1 := ⟨v - 1, by omega⟩
      unfold Kr at hK
      rw [if_neg (show ¬ m ≤ 1 by omega)] at hK
      by_cases hz : m % p = 0
      · rw [if_pos hz] at hK
        have hdv := Nat.dvd_of_mod_eq_zero hz
        have hmp : 1 ≤ m / p := Nat.div_pos hpm (by omega)
        have hle : m / p * 2 ≤ m := by
          have h9 := Nat.div_mul_le_self m p
          have h10 := Nat.mul_le_mul_left (m / p) hp
          omega
        have hdm : m / p ∣ m := Nat.div_dvd_of_dvd hdv
        refine turnS_div hp (by omega) hd hf hz fun x4' G'' f2 => ⟨w, by omega, m / p, p, f * chi d p, x4', rfl, fr.trans f2, hp, hmp, by omega, fun h1p => ⟨?_, by omega⟩, fun e a b c => hno e a b (Nat.dvd_trans c hdm), ?_, ?_⟩
        · rcases Nat.lt_or_ge (m / p) p with q | q
          · exact absurd hdm (hno _ (by omega) q)
          · exact q
        · rw [Int.natAbs_mul]
          have := chi_small d p
          have h9 := Nat.mul_le_mul hf this
          omega
        · rw [Int.mul_assoc]
          exact hK
      · rw [if_neg hz] at hK
        refine turnS_next hp hz ⟨w, by omega, m, p + 1, f, x4, rfl, fr, by omega, hm, hmn, fun _ => ⟨?_, by omega⟩, fun e a b c => ?_, hf, hK⟩
        · rcases Nat.lt_or_ge p m with q | q
          · exact q
          · have : p = m := by omega
            subst this
            rw [Nat.mod_self] at hz
            exact absurd rfl hz
        · by_cases e2 : e = p
          · subst e2
            exact hz (Nat.mod_eq_zero_of_dvd c)
          · exact hno e a (by omega) c
    · rw [if_neg hm1]
      simp only [Bool.false_eq_true, if_false, wS_ret, wE_varS, wE_var0]
      have k1 : Kr (chi d) v m p = 1 := by
        cases v with
        | zero => rfl
        | succ w =>
          unfold Kr
          rw [if_pos (by omega)]
      rw [k1, Int.mul_one] at hK
      rw [hK]
      exact ⟨rfl, fr⟩
  obtain ⟨v, G', e, rfl, f⟩ := wE_get goal
  exact ⟨G', e, f⟩
end SX

set_option Elab.async false
set_option linter.all false
set_option maxRecDepth 100000
set_option maxHeartbeats 1000000
namespace SX
open PySem PySem.Spec PyProof.Rows L2 NT
/-! ### fractions: a pair of num and den stands for a Rat -/
def fracD (r : Rat) : D := .tup [.int r.num, .int (r.den : Int)]
theorem fdiv_exact {a f q : Int} (hf : f ≠ 0) (h : q * f = a) : a.fdiv f = q := by
  rw [Int.fdiv_eq_ediv_of_dvd ⟨q, by rw [← h, Int.mul_comm]⟩]
  exact Int.ediv_eq_of_eq_mul_left hf h.symm
theorem fdivD_exact {a f q : Int} {G : Hq} (hf : f ≠ 0) (hb : f.natAbs < 2 ^ 400) (h : q * f = a) : fdivD (.int a) (.int f) G = .ok (.int q) G := by
  have hd : divOk f = true := by
    unfold divOk
    have : f.natAbs.log2 < 400 := (Nat.log2_lt (by omega)).mpr hb
    rw [Bool.and_eq_true_iff]
    exact ⟨decide_eq_true hf, decide_eq_true (by omega)⟩
  show (if divOk f = true then _ else _) = _
  rw [if_pos hd, fdiv_exact hf h]
/-- the common divisor, signed as b -/
def gsg (a b : Int) : Int := if b < 0 then -((Nat.gcd a.natAbs b.natAbs : Nat) : Int) else ((Nat.gcd a.natAbs b.natAbs : Nat) : Int)
theorem gsg_ne {a b : Int} (hb : b ≠ 0) : gsg a b ≠ 0 := by
  have : 0 < Nat.gcd a.natAbs b.natAbs := Nat.gcd_pos_of_pos_right _ (by omega)
  unfold gsg
  split <;> omega
theorem gsg_le {a b : Int} (hb : b ≠ 0) : (gsg a b).natAbs ≤ b.natAbs := by
  have := Nat.le_of_dvd (by omega) (Nat.gcd_dvd_right a.natAbs b.natAbs)
  unfold gsg
  split <;> omega
theorem gsg_num {a b : Int} (hb : b ≠ 0) : (Rat.divInt a b).num * gsg a b = a := by
  have gc : b.gcd a = Nat.gcd a.natAbs b.natAbs := by
    rw [Int.gcd_eq_natAbs_gcd_natAbs, Nat.gcd_comm]
  rw [Rat.num_divInt, gc]
  have hd : ((Nat.gcd a.natAbs b.natAbs : Nat) : Int) ∣ a := Int.ofNat_dvd_left.mpr (Nat.gcd_dvd_left _ _)
  have pos : ((Nat.gcd a.natAbs b.natAbs : Nat) : Int) ≠ 0 := by
    have : 0 < Nat.gcd a.natAbs b.natAbs := Nat.gcd_pos_of_pos_right _ (by omega)
    omega
  unfold gsg
  generalize ((Nat.gcd a.natAbs b.natAbs : Nat) : Int) = g at *
  obtain ⟨k, rfl⟩ := hd
  by_cases h : b < 0
  · rw [if_pos h, Int.sign_eq_neg_one_of_neg h]
    have e : -1 * (g * k) / g = -k := by
      rw [show -1 * (g * k) = g * (-k) by grind, Int.mul_ediv_cancel_left _ pos]
    rw [e]
    grind
  · rw [if_neg h, Int.sign_eq_one_of_pos (by omega), Int.one_mul, Int.mul_ediv_cancel_left _ pos]
    grind
theorem gsg_den {a b : Int} (hb : b ≠ 0) : ((Rat.divInt a b).den : Int) * gsg a b = b := by
  have gc : b.gcd a = Nat.gcd a.natAbs b.natAbs := by
    rw [Int.gcd_eq_natAbs_gcd_natAbs, Nat.gcd_comm]
  rw [Rat.den_divInt, if_neg hb, gc]
  have hd : Nat.gcd a.natAbs b.natAbs ∣ b.natAbs := Nat.gcd_dvd_right _ _
  have e := Nat.div_mul_cancel hd
  unfold gsg
  by_cases h : b < 0
  · rw [if_pos h]
    have e2 : ((b.natAbs / Nat.gcd a.natAbs b.natAbs : Nat) : Int) * ((Nat.gcd a.natAbs b.natAbs : Nat) : Int) = (b.natAbs : Int) := by rw [← Int.natCast_mul, e]
    rw [Int.mul_neg, e2]
    omega
  · rw [if_neg h]
    have e2 : ((b.natAbs / Nat.gcd a.natAbs b.natAbs : Nat) : Int) * ((Nat.gcd a.natAbs b.natAbs : Nat) : Int) = (b.natAbs : Int) := by rw [← Int.natCast_mul, e]
    rw [e2]
    omega
/-! the law's own fraction -/
noncomputable def lfracB : SF :=
  (seqC (parC 2 3 (consA (callC absD (consA (varC 0) nilA)) (consA (callC absD (consA (varC 1) nilA)) nilA)))
    (seqC (whileC (valT (binC (cmpD fun i j => decide (j < i)) (varC 3) (cC (.int 0)))) (parC 2 3 (consA (varC 3) (consA (binC modD (callC intD (consA (varC 2) nilA)) (varC 3)) nilA))))
    (seqC (ifS (valT (binC (cmpD fun i j => decide (i < j)) (varC 1) (cC (.int 0)))) (setC 2 (unC negD (varC 2))) passC)
    (retC (tupC (consA (binC fdivD (varC 0) (varC 2)) (consA (binC fdivD (varC 1) (varC 2)) nilA)))))))
noncomputable def lfracF : FF := bodyC 4 lfracB
theorem lfrac_ok {a b : Int} {G : Hq} (hb : b ≠ 0) (hs : b.natAbs < 2 ^ 400) : lfracF [.int a, .int b] G = .ok (fracD (Rat.divInt a b)) G := by
  have goal : wE (lfracF [.int a, .int b] G) fun v G' => v = fracD (Rat.divInt a b) ∧ G' = G := by
    unfold lfracF
    rw [wE_body]
    show wS (lfracB [some (.int a), some (.int b), none, none] G) _ _ _ _
    unfold lfracB
    rw [wS_seq]
    simp only [wS_par, wE_consA, wE_call, wE_varS, wE_var0, wE_nilA, absD_int, wE_ok, abs_nat, List.set_cons_succ, List.set_cons_zero]
    rw [wS_seq]
    refine wS_while (fun n σ G' => ∃ x y : Nat, σ = [some (.int a), some (.int b), some (.int x), some (.int y)] ∧ G' = G ∧ Nat.gcd x y = Nat.gcd a.natAbs b.natAbs ∧ n = y) (fun n σ G' h => ?_) b.natAbs _ _ ⟨a.natAbs, b.natAbs, rfl, rfl, rfl, rfl⟩
    obtain ⟨x, y, rfl, rfl, e, rfl⟩ := h
    simp only [wE_val, wE_bin, wE_varS, wE_var0, wE_c, cmpD_int, wE_ok, wE_toB, decide_eq_true_eq]
    by_cases hy : (0 : Int) < (n : Int)
    · rw [if_pos hy]
      simp only [wS_par, wE_consA, wE_call, wE_bin, wE_varS, wE_var0, wE_nilA, intD_int, wE_ok, modD_int (j := (n : Int)) hy, int_mod, List.set_cons_succ, List.set_cons_zero]
      refine ⟨x % n, Nat.mod_lt _ (by omega), n, x % n, by simp, by simp, ?_, rfl⟩
      rw [← e, Nat.gcd_comm x n, Nat.gcd_rec n x, Nat.gcd_comm]
    · rw [if_neg hy]
      have z : n = 0 := by omega
      subst z
      rw [Nat.gcd_zero_right] at e
      subst e
      rw [wS_seq, wS_if]
      simp only [wE_val, wE_bin, wE_varS, wE_var0, wE_c, cmpD_int, wE_ok, wE_toB, decide_eq_true_eq]
      have fin : ∀ f : Int, f = gsg a b → wS (retC (tupC (consA (binC fdivD (varC 0) (varC 2)) (consA (binC fdivD (varC 1) (varC 2)) nilA))) [some (.int a), some (.int b), some (.int f), some (.int (0 : Nat))] G') (fun _ G_1 => D.non = fracD (Rat.divInt a b) ∧ G_1 = G') (fun v G_1 => v = fracD (Rat.divInt a b) ∧ G_1 = G') (fun _ _ => False) (fun _ _ => False) := by
        intro f hf
        subst hf
        have ne := gsg_ne (a := a) hb
        have le := gsg_le (a := a) hb
        simp only [wS_ret, wE_tup, wE_consA, wE_bin, wE_varS, wE_var0, wE_nilA]
        rw [fdivD_exact ne (by omega) (gsg_num hb), wE_ok, fdivD_exact ne (by omega) (gsg_den hb), wE_ok]
        exact ⟨rfl, rfl⟩
      by_cases hn : b < 0
      · rw [if_pos hn]
        simp only [wS_set, wE_un, wE_varS, wE_var0, negD_int, wE_ok, List.set_cons_succ, List.set_cons_zero]
        exact fin _ (by unfold gsg; rw [if_pos hn])
      · rw [if_neg hn, wS_pass]
        exact fin _ (by unfold gsg; rw [if_neg hn])
  refine wE_eq ?_
  assumption
noncomputable def lplusB : SF :=
  (retC (fnC lfracF [] (consA (binC addD (binC mulD (binC ixD (varC 0) (cC (.int 0))) (binC ixD (varC 1) (cC (.int 1)))) (binC mulD (binC ixD (varC 1) (cC (.int 0))) (binC ixD (varC 0) (cC (.int 1))))) (consA (binC mulD (binC ixD (varC 0) (cC (.int 1))) (binC ixD (varC 1) (cC (.int 1)))) nilA))))
noncomputable def lplusF : FF := bodyC 2 lplusB
noncomputable def ltimesB : SF :=
  (retC (fnC lfracF [] (consA (binC mulD (binC ixD (varC 0) (cC (.int 0))) (binC ixD (varC 1) (cC (.int 0)))) (consA (binC mulD (binC ixD (varC 0) (cC (.int 1))) (binC ixD (varC 1) (cC (.int 1)))) nilA))))
noncomputable def ltimesF : FF := bodyC 2 ltimesB
/-- numerator and denominator below 2 ^ k -/
def SmR (k : Nat) (r : Rat) : Prop := r.num.natAbs < 2 ^ k ∧ r.den < 2 ^ k
theorem two0 {a b : Int} : atI [D.int a, D.int b] 0 = some (.int a) := rfl
theorem two1 {a b : Int} : atI [D.int a, D.int b] 1 = some (.int b) := rfl
theorem rat_add (x y : Rat) : Rat.divInt (x.num * (y.den : Int) + y.num * (x.den : Int)) ((x.den : Int) * (y.den : Int)) = x + y := by
  conv => rhs; rw [← Rat.num_divInt_den x, ← Rat.num_divInt_den y]
  have hx := x.den_nz
  have hy := y.den_nz
  rw [Rat.divInt_add_divInt _ _ (by omega) (by omega)]
theorem rat_mul (x y : Rat) : Rat.divInt (x.num * y.num) ((x.den : Int) * (y.den : Int)) = x * y := by
  conv => rhs; rw [← Rat.num_divInt_den x, ← Rat.num_divInt_den y]
  rw [Rat.divInt_mul_divInt]
theorem pow_mul_small {a b k : Nat} (ha : a < 2 ^ k) (hb : b < 2 ^ k) : a * b < 2 ^ (k + k) := by
  rw [Nat.pow_add]
  exact Nat.mul_lt_mul'' ha hb
theorem lplus_ok {x y : Rat} {G : Hq} (hx : SmR 150 x) (hy : SmR 150 y) : lplusF [fracD x, fracD y] G = .ok (fracD (x + y)) G := by
  have goal : wE (lplusF [fracD x, fracD y] G) fun v G' => v = fracD (x + y) ∧ G' = G := by
    unfold lplusF
    rw [wE_body]
    show wS (lplusB [some (fracD x), some (fracD y)] G) _ _ _ _
    unfold lplusB
    have d1 := x.den_nz
    have d2 := y.den_nz
    have sm := pow_mul_small hx.2 hy.2
    simp only [wS_ret, wE_fn, wE_consA, wE_bin, wE_varS, wE_var0, wE_c, wE_nilA, fracD, ixD_tup, two0, two1, oneD_some, wE_ok, List.append_nil]
    have b1 := hx.1
    have b2 := hx.2
    have b3 := hy.1
    have b4 := hy.2
    rw [mulD_int (by omega) (by omega), wE_ok, mulD_int (by omega) (by omega), wE_ok, addD_int, wE_ok, mulD_int (by omega) (by omega), wE_ok, lfrac_ok (by
      have : 0 < x.den * y.den := Nat.mul_pos (by omega) (by omega)
      rw [← Int.natCast_mul]
      omega) (by
      rw [← Int.natCast_mul, Int.natAbs_natCast]
      exact Nat.lt_of_lt_of_le sm (Nat.pow_le_pow_right (by omega) (by omega))), wE_ok, rat_add]
    exact ⟨rfl, rfl⟩
  refine wE_eq ?_
  assumption
theorem ltimes_ok {x y : Rat} {G : Hq} (hx : SmR 150 x) (hy : SmR 150 y) : ltimesF [fracD x, fracD y] G = .ok (fracD (x * y)) G := by
  have goal : wE (ltimesF [fracD x, fracD y] G) fun v G' => v = fracD (x * y) ∧ G' = G := by
    unfold ltimesF
    rw [wE_body]
    show wS (ltimesB [some (fracD x), some (fracD y)] G) _ _ _ _
    unfold ltimesB
    have d1 := x.den_nz
    have d2 := y.den_nz
    have sm := pow_mul_small hx.2 hy.2
    simp only [wS_ret, wE_fn, wE_consA, wE_bin, wE_varS, wE_var0, wE_c, wE_nilA, fracD, ixD_tup, two0, two1, oneD_some, wE_ok, List.append_nil]
    have b1 := hx.1
    have b2 := hx.2
    have b3 := hy.1
    have b4 := hy.2
    rw [mulD_int (by omega) (by omega), wE_ok, mulD_int (by omega) (by omega), wE_ok, lfrac_ok (by
      have : 0 < x.den * y.den := Nat.mul_pos (by omega) (by omega)
      rw [← Int.natCast_mul]
      omega) (by
      rw [← Int.natCast_mul, Int.natAbs_natCast]
      exact Nat.lt_of_lt_of_le sm (Nat.pow_le_pow_right (by omega) (by omega))), wE_ok, rat_mul]
    exact ⟨rfl, rfl⟩
  refine wE_eq ?_
  assumption
end SX

set_option Elab.async false
set_option linter.all false
set_option maxRecDepth 100000
set_option maxHeartbeats 1000000
namespace SX
open PySem PySem.Spec PyProof.Rows L2 NT
section
variable {G : Hq} {σ : Eq'}
@[simp] theorem wE_slice {o : EF} {lo hi : OF} {Q : D → Hq → Prop} : wE (sliceC o lo hi σ G) Q = wE (o σ G) (fun x G1 => wE (lo σ G1) (fun l G2 => wE (hi σ G2) (fun h G3 => wE (cutOf x l h G3) Q))) := by
  show wE (Rs.bind _ _) Q = _
  rw [wE_bind]
  refine congrArg (wE _) (funext fun x => funext fun G1 => ?_)
  rw [wE_bind]
  refine congrArg (wE _) (funext fun l => funext fun G2 => ?_)
  exact wE_bind
@[simp] theorem wE_noP {Q : Option Int → Hq → Prop} : wE (noP σ G) Q = Q none G := ndP rfl
@[simp] theorem wE_someP {e : EF} {Q : Option Int → Hq → Prop} : wE (someP e σ G) Q = wE (e σ G) (fun d G1 => match d with | .int i => Q (some i) G1 | _ => False) := by
  show wE (Rs.bind _ _) Q = _
  rw [wE_bind]
  refine congrArg (wE _) (funext fun d => funext fun G1 => ?_)
  cases d <;> rfl
theorem cutD_to {xs : List D} {n : Nat} : cutD xs none (some (n : Int)) = xs.take n := by
  have e0 : HT.sIx xs.length 0 none = 0 := rfl
  unfold cutD
  rw [e0, List.drop_zero, Nat.sub_zero]
  rcases Nat.lt_or_ge n xs.length with q | q
  · have e1 : HT.sIx xs.length xs.length (some (n : Int)) = n := by
      rw [HT.sIx_nat]
      omega
    rw [e1]
  · have e1 : HT.sIx xs.length xs.length (some (n : Int)) = xs.length := by
      rw [HT.sIx_nat]
      omega
    rw [e1, List.take_of_length_le (Nat.le_refl _), List.take_of_length_le q]
theorem cutOf_to {p n : Nat} {xs : List D} (h : lstOf G (.ref p) = some xs) : cutOf (.ref p) none (some (n : Int)) G = .ok (.ref G.length) (G ++ [.lst (xs.take n)]) := by
  unfold cutOf
  simp only [h]
  rw [cutD_to]
theorem minD_nat {a b : Nat} : minD [.int (a : Int), .int (b : Int)] G = .ok (.int ((min a b : Nat) : Int)) G := by
  show Rs.ok (D.int (if (b : Int) < (a : Int) then (b : Int) else (a : Int))) G = _
  congr 2
  split <;> omega
theorem src_zip {p q n k : Nat} {F H : Nat → D} (hp : lstOf G (.ref p) = some ((List.range n).map F)) (hq : lstOf G (.ref q) = some ((List.range n).map H)) : itZp p q k G = gives ((List.range n).map fun k => D.tup [F k, H k]) k := by
  unfold itZp gives
  rw [hp, hq]
  by_cases hk : k < n
  · simp [hk]
  · simp [hk]
theorem zipD_of {p q : Nat} {xs ys : List D} (hp : lstOf G (.ref p) = some xs) (hq : lstOf G (.ref q) = some ys) : zipD [.ref p, .ref q] G = .ok (itZp p q) G := by
  have e1 : isL G (.ref p) = true := by
    unfold isL
    rw [hp] <;> rfl
  have e2 : isL G (.ref q) = true := by
    unfold isL
    rw [hq] <;> rfl
  show (if (isL G (.ref p) && isL G (.ref q)) = true then _ else _) = _
  rw [e1, e2] <;> rfl
theorem enumD_of {p : Nat} {xs : List D} (hp : lstOf G (.ref p) = some xs) : enumD [.ref p] G = .ok (itEn p) G := by
  have e1 : isL G (.ref p) = true := by
    unfold isL
    rw [hp] <;> rfl
  show (if isL G (.ref p) = true then _ else _) = _
  rw [if_pos e1]
theorem src_enum {p k : Nat} {xs : List D} (hp : lstOf G (.ref p) = some xs) : itEn p k G = gives ((List.range xs.length).map fun k : Nat => D.tup [.int (k : Int), xs.getD k .non]) k := by
  unfold itEn gives
  rw [hp]
  by_cases hk : k < xs.length
  · simp [hk]
  · simp [hk]
end
end SX

set_option Elab.async false
set_option linter.all false
set_option maxRecDepth 100000
set_option maxHeartbeats 1000000
namespace SX
open PySem PySem.Spec PyProof.Rows L2
section
variable {X : Cx} {W : L2.St → XW}
/-- x is b, x is not b: two truth values -/
def isBD (neg : Bool) (x y : D) (G : Hq) : Rs D := match x, y with
  | .bl a, .bl b => .ok (.bl (if neg then !(a == b) else a == b)) G
  | _, _ => .bad
theorem f_isB : OpF X (compareOp .Is) (isBD false) := by
  intro pins s σ m G H x y v w u z Q Wx I S rx ry ru rz q
  unfold isBD at q
  split at q
  · rename_i a b
    cases rx
    cases ry
    cases ru
    cases rz
    exact PyProof.Rows.is_bool ⟨.bl (a == b), H, I, rfl, q.here S (.bl _)⟩
  · exact q.elim
theorem f_isNotB : OpF X (compareOp .IsNot) (isBD true) := by
  intro pins s σ m G H x y v w u z Q Wx I S rx ry ru rz q
  unfold isBD at q
  split at q
  · rename_i a b
    cases rx
    cases ry
    cases ru
    cases rz
    by_cases e : a = b
    · subst e
      refine wpAny_isNot_self (by cases a <;> rfl) ⟨.bl false, H, I, rfl, ?_⟩
      have e2 : (if true = true then !(a == a) else a == a) = false := by cases a <;> rfl
      rw [e2] at q
      exact q.here S (.bl _)
    · refine wpAny_isNot_other (by cases a <;> cases b <;> rfl) (fun z => e (by cases z; rfl)) ⟨.bl true, H, I, rfl, ?_⟩
      have e2 : (if true = true then !(a == b) else a == b) = true := by cases a <;> cases b <;> first | rfl | exact absurd rfl e
      rw [e2] at q
      exact q.here S (.bl _)
  · exact q.elim
/-- a op b op' c op'' d -/
def chain3C (g g' g'' : D → D → Hq → Rs D) (a b c d : EF) : EF := fun σ G => (a σ G).bind fun x G1 => (b σ G1).bind fun y G2 => (g x y G2).bind fun z G3 => match z with
  | .bl true => (c σ G3).bind fun w G4 => (g' y w G4).bind fun z2 G5 => match z2 with
    | .bl true => (d σ G5).bind fun v G6 => g'' w v G6
    | .bl false => .ok (.bl false) G5
    | _ => .bad
  | .bl false => .ok (.bl false) G3
  | _ => .bad
theorem xe_chain3 {op op' op'' : CmpOp} {g g' g'' : D → D → Hq → Rs D} {a b c d : Expr} {fa fb fc fd : EF} {pos : Pos} (ho : OpF X (compareOp op) g) (ho' : OpF X (compareOp op') g') (ho'' : OpF X (compareOp op'') g'') (ha : PE X a (tE X W fa)) (hb : PE X b (tE X W fb)) (hc : PE X c (tE X W fc)) (hd : PE X d (tE X W fd))
    (hm : lastMarks [op, op', op''] [b, c, d] = false := by with_unfolding_all rfl) : PE X (.Compare a [op, op', op''] [b, c, d] pos) (tE X W (chain3C g g' g'' fa fb fc fd)) := by
  refine ⟨fun pins s σ H Q I ⟨m, σ', G, S, R, q⟩ => ?_⟩
  have q0 : tE X W fa σ H fun v H1 => ∃ m1 G1 x, Sim X.K m1 G1 H1 ∧ SR X.K m1 H1 σ' σ ∧ VR X.K m1 H1 x v ∧ PostR X.K X.mg (VR X.K) (W σ) m1 H1 ((fb σ' G1).bind fun y G2 => (g x y G2).bind fun z G3 => match z with
      | .bl true => (fc σ' G3).bind fun w G4 => (g' y w G4).bind fun z2 G5 => match z2 with
        | .bl true => (fd σ' G5).bind fun v G6 => g'' w v G6
        | .bl false => .ok (.bl false) G5
        | _ => .bad
      | .bl false => .ok (.bl false) G3
      | _ => .bad) Q := ⟨m, σ', G, S, R, (PostR.bnd (R := VR X.K) q).imp fun v H1 ⟨m1, G1, x, e1, S1, r1, _, h1⟩ => ⟨m1, G1, x, S1, R.mono e1, r1, h1⟩⟩
  refine Compare_chain (thn (ha.run pins s σ H _ I q0) fun v s1 ⟨x, H1, I1, rv1, m1, G1, dx, S1, R1, r1, q1⟩ => chain_link ?_) hm
  have q1' : tE X W fb σ H1 fun w H2 => ∃ m2 G2 y, Xt X.K m1 H1 m2 H2 ∧ Sim X.K m2 G2 H2 ∧ VR X.K m2 H2 y w ∧ PostR X.K X.mg (VR X.K) (W σ) m2 H2 ((g dx y G2).bind fun z G3 => match z with
      | .bl true => (fc σ' G3).bind fun w G4 => (g' y w G4).bind fun z2 G5 => match z2 with
        | .bl true => (fd σ' G5).bind fun v G6 => g'' w v G6
        | .bl false => .ok (.bl false) G5
        | _ => .bad
      | .bl false => .ok (.bl false) G3
      | _ => .bad) Q := ⟨m1, σ', G1, S1, R1, (PostR.bnd (R := VR X.K) q1).imp fun w H2 ⟨m2, G2, y, e2, S2, r2, _, h2⟩ => ⟨m2, G2, y, e2, S2, r2, h2⟩⟩
  refine thn (hb.run pins s1 σ H1 _ I1 q1') fun u s2 ⟨y, H2, I2, rv2, m2, G2, dy, e2, S2, r2, q2⟩ => ?_
  have q2' : PostR X.K X.mg (VR X.K) (W σ) m2 H2 (g dx dy G2) fun d H3 => ∃ m3 G3 z, Xt X.K m2 H2 m3 H3 ∧ Sim X.K m3 G3 H3 ∧ VR X.K m3 H3 z d ∧ PostR X.K X.mg (VR X.K) (W σ) m3 H3 (match z with
      | .bl true => (fc σ' G3).bind fun w G4 => (g' dy w G4).bind fun z2 G5 => match z2 with
        | .bl true => (fd σ' G5).bind fun v G6 => g'' w v G6
        | .bl false => .ok (.bl false) G5
        | _ => .bad
      | .bl false => .ok (.bl false) G3
      | _ => .bad) Q := (PostR.bnd (R := VR X.K) q2).imp fun d H3 ⟨m3, G3, z, e3, S3, r3, _, h3⟩ => ⟨m3, G3, z, e3, S3, r3, h3⟩
  refine thn (ho pins s2 σ m2 G2 H2 dx dy x y v u _ (W σ) I2 S2 (r1.mono e2) r2 rv1 rv2 q2') fun d s3 ⟨z, H3, I3, rv3, m3, G3, dz, e3, S3, r3, q3⟩ => ?_
  cases dz with
  | bl k =>
    cases r3
    cases rv3
    refine wpAny_truthy_bool ?_
    cases k with
    | false => exact ite_ff ⟨.bl false, H3, I3, rfl, PostR.here (x := D.bl false) q3 S3 (.bl false)⟩
    | true =>
      refine ite_tt (chain_link ?_)
      have q4 : tE X W fc σ H3 fun w' H4 => ∃ m4 G4 dw, Xt X.K m3 H3 m4 H4 ∧ Sim X.K m4 G4 H4 ∧ VR X.K m4 H4 dw w' ∧ PostR X.K X.mg (VR X.K) (W σ) m4 H4 ((g' dy dw G4).bind fun z2 G5 => match z2 with
          | .bl true => (fd σ' G5).bind fun v G6 => g'' dw v G6
          | .bl false => .ok (.bl false) G5
          | _ => .bad) Q := ⟨m3, σ', G3, S3, (R1.mono e2).mono e3, (PostR.bnd (R := VR X.K) q3).imp fun w' H4 ⟨m4, G4, dw, e4, S4, r4, _, h4⟩ => ⟨m4, G4, dw, e4, S4, r4, h4⟩⟩
      refine thn (hc.run pins s3 σ H3 _ I3 q4) fun w' s4 ⟨z', H4, I4, rv4, m4, G4, dw, e4, S4, r4, h4⟩ => ?_
      have q5 : PostR X.K X.mg (VR X.K) (W σ) m4 H4 (g' dy dw G4) fun d H5 => ∃ m5 G5 z, Xt X.K m4 H4 m5 H5 ∧ Sim X.K m5 G5 H5 ∧ VR X.K m5 H5 z d ∧ PostR X.K X.mg (VR X.K) (W σ) m5 H5 (match z with
          | .bl true => (fd σ' G5).bind fun v G6 => g'' dw v G6
          | .bl false => .ok (.bl false) G5
          | _ => .bad) Q := (PostR.bnd (R := VR X.K) h4).imp fun d H5 ⟨m5, G5, z, e5, S5, r5, _, h5⟩ => ⟨m5, G5, z, e5, S5, r5, h5⟩
      refine thn (ho' pins s4 σ m4 G4 H4 dy dw y z' u w' _ (W σ) I4 S4 ((r2.mono e3).mono e4) r4 rv2 rv4 q5) fun d5 s5 ⟨z5, H5, I5, rv5, m5, G5, dz5, e5, S5, r5, q6⟩ => ?_
      cases dz5 with
      | bl k =>
        cases r5
        cases rv5
        refine wpAny_truthy_bool ?_
        cases k with
        | false => exact ite_ff ⟨.bl false, H5, I5, rfl, PostR.here (x := D.bl false) q6 S5 (.bl false)⟩
        | true =>
          refine ite_tt (chain_last ?_)
          have q7 : tE X W fd σ H5 fun w' H6 => ∃ m6 G6 dv, Xt X.K m5 H5 m6 H6 ∧ Sim X.K m6 G6 H6 ∧ VR X.K m6 H6 dv w' ∧ PostR X.K X.mg (VR X.K) (W σ) m6 H6 (g'' dw dv G6) Q :=
            ⟨m5, σ', G5, S5, ((((R1.mono e2).mono e3).mono e4)).mono e5, (PostR.bnd (R := VR X.K) q6).imp fun w' H6 ⟨m6, G6, dv, e6, S6, r6, _, h6⟩ => ⟨m6, G6, dv, e6, S6, r6, h6⟩⟩
          exact thn (hd.run pins s5 σ H5 _ I5 q7) fun w6 s6 ⟨z6, H6, I6, rv6, m6, G6, dv, e6, S6, r6, h6⟩ => ho'' pins s6 σ m6 G6 H6 dw dv z' z6 w' w6 Q (W σ) I6 S6 ((r4.mono e5).mono e6) r6 rv4 rv6 h6
      | _ => exact q6.elim
  | _ => exact q3.elim
end
end SX

set_option Elab.async false
set_option linter.all false
set_option maxRecDepth 100000
set_option maxHeartbeats 1000000
namespace SX
open PySem PySem.Spec PyProof.Rows L2
/-! ### the __init__ of an error class -/
/-- as the written part has it: D its class, cc the cell of __class__, cda its code -/
structure InitD (K : PySem.W.Frag) (P : Program) (D : Addr) (qual : Str) (params : Arguments) (body : List Stmt) (scope : Scope) (dvs : List V) (f : Addr) (fd : FuncData) (cc cda : Addr) : Prop where
  ex : ∃ (oc : Value) (od : Option Addr) (osl : Array (Option Value)) (dV kV doc pm ct : Value) (an : Option Addr), fd = PySem.W.ksFn "__init__" qual params body scope dV kV doc pm an (.ref cda) ct cc ∧ K.lookup f = some ⟨oc, od, .func fd, osl⟩ ∧ DflV K dV dvs
  code : PySem.W.codeIn K (.ref cda) qual = true
  file : ∃ (ccl : Value) (cdd : Option Addr) (vs : Array Value) (ccs : Array (Option Value)) (file : Str) (tf : Tok), K.lookup cda = some ⟨ccl, cdd, .fields vs, ccs⟩ ∧ vs[2]? = some (.str file tf) ∧ ((P.main.file : Str) == file) = true
  cell : ∃ (cl : Value) (cld : Option Addr) (csl : Array (Option Value)), K.lookup cc = some ⟨cl, cld, .cell (some (.ref D)), csl⟩
  ty : PySem.W.typeIn K (.ref f) = some (.type "function")
  cls : ∃ cd, PySem.W.clsIn K D = some cd
structure ScK (N : List Str) (sc : Scope) : Prop where
  kind : sc.kind = .function
  co : sc.isCoroutine = false
  gen : sc.isGenerator = false
  nd : N.Nodup
  par : ∀ x ∈ N, sc.names.lookup x = some .local
  nocell : ∀ y ∈ sc.names, y.2 ≠ .cell
  sup : sc.names.lookup ("super" : Str) = some .globalImplicit
  cl : sc.names.lookup ("__class__" : Str) = some .free
  fr : ∀ x, sc.names.lookup x = some .free → x = "__class__"
def cxK (P : Program) (w : World) (K : PySem.W.Frag) (mg : Str → Option Value) (base : Heap) (N : List Str) (fd : FuncData) (f : Addr) (A : Around) (outer : List Env) (s : Shared) (H : Hp) (E : XK) : Cx where
  prog := P
  w := w
  K := K
  mg := mg
  base := base
  A := A.deeper (callEnv fd s.heap.objs.size f)
  N := N
  s_0 := s
  H_0 := H
  env := callEnv fd s.heap.objs.size f
  outer := outer
  stack := callEnv fd s.heap.objs.size f :: outer
  ex := []
  calm := true
  fn := fun x => decide (x ≠ "__class__")
  pn := []
  xe := fun e s' => wpAny (model P w) (A.deeper (callEnv fd s.heap.objs.size f)) (leaving (callEnv fd s.heap.objs.size f) e) (fun _ s'' => L2.CX P w outer H s E e s'') (fun e' s'' => L2.CX P w outer H s E e' s'') s'
section
variable {P : Program} {w : World} {K : PySem.W.Frag} {mg : Str → Option Value} {base : Heap} {D f cc cda : Addr} {qual : Str} {params : Arguments} {body : List Stmt} {scope : Scope} {dvs : List V} {fd : FuncData} {N : List Str} {k : Nat}
theorem lookup_mem {x : Str} {u : Value} : ∀ {l : List (Str × Value)}, (l.map (·.1)).Nodup → (x, u) ∈ l → l.lookup x = some u
  | [], _, h => nomatch h
  | (y, v) :: r, nd, h => by
    have nd' := List.nodup_cons.mp (show (y :: r.map (·.1)).Nodup from nd)
    rcases List.mem_cons.mp h with e | h
    · cases e
      simp [List.lookup]
    · have ne : x ≠ y := fun e => nd'.1 (by rw [← e]; exact List.mem_map_of_mem (f := (·.1)) h)
      have e : (x == y) = false := by simpa using ne
      simp only [List.lookup, e]
      exact lookup_mem nd'.2 h
theorem zip_fst : ∀ {N : List Str} {us : List Value}, N.Nodup → ((N.zip us).map (·.1)).Nodup
  | [], _, _ => by simp
  | _ :: _, [], _ => by simp
  | n :: N, u :: us, nd => by
    have nd' := List.nodup_cons.mp nd
    show (n :: (N.zip us).map (·.1)).Nodup
    refine List.nodup_cons.mpr ⟨fun h => ?_, zip_fst nd'.2⟩
    obtain ⟨p, hp, e⟩ := List.mem_map.mp h
    exact nd'.1 (by rw [← e]; exact (List.of_mem_zip (a := p.1) (b := p.2) hp).1)
theorem zip_get {x : Str} {u : Value} : ∀ {N : List Str} {us : List Value} {i : Nat}, N[i]? = some x → us[i]? = some u → (x, u) ∈ N.zip us
  | [], _, _, h, _ => by simp at h
  | _ :: _, [], _, _, h => by simp at h
  | n :: N, w :: us, 0, h1, h2 => by
    simp at h1 h2
    subst h1 h2
    simp
  | n :: N, w :: us, i + 1, h1, h2 => by
    simp only [List.zip_cons_cons]
    exact List.mem_cons_of_mem _ (zip_get (i := i) (by simpa using h1) (by simpa using h2))
theorem zip_at {x : Str} {u : Value} {N : List Str} {us : List Value} {i : Nat} (nd : N.Nodup) (h1 : N[i]? = some x) (h2 : us[i]? = some u) : (N.zip us).reverse.lookup x = some u := by
  refine lookup_mem ?_ (List.mem_reverse.mpr (zip_get h1 h2))
  rw [List.map_reverse]
  exact (List.reverse_perm _).nodup_iff.mpr (zip_fst nd)
theorem inv_enterK {A : Around} {out : List Env} {s : Shared} {H : Hp} {E : XK} {us : List Value} {vs : List V} {h0 : Heap} {t : Nat} (F : InitD K P D qual params body scope dvs f fd cc cda) (Sc : ScK N scope) (hd : A.handled = none) (e0 : Env0 P w K mg base A out s H)
    (hl : vs.length = N.length) (r : Vals vs us) (hn : h0.Ns s.heap.objs.size (fun x => (N.zip us).reverse.lookup x)) (hk : ∀ b o, s.heap.get? b = some o → h0.get? b = some o) :
    Inv (cxK P w K mg base N fd f A out s H E) [] (L2.start N vs) H { s with heap := h0, toks := t } := by
  obtain ⟨oc, od, osl, dV, kV, doc, pm, ct, an, rfl, lk, _⟩ := F.ex
  obtain ⟨cl, cld, csl, hcc⟩ := F.cell
  have KX : K.In s.heap := e0.mod.kin.keeps fun b o e => (e0.bs b o e).1
  have one : ∀ {x : Str} {c : Addr}, (List.lookup x [(("__class__" : Str), cc)]) = some c → x = "__class__" ∧ c = cc := fun {x c} h => by
    by_cases hx : x = "__class__"
    · subst hx
      simp [List.lookup] at h
      exact ⟨rfl, h.symm⟩
    · have e : (x == ("__class__" : Str)) = false := by simpa using hx
      simp [List.lookup, e] at h
  have hcf : H cc = none := (e0.bs cc _ (e0.mod.kin _ _ hcc)).2
  refine ⟨⟨e0.mod, Sc.kind, rfl, rfl, Nat.le_refl _, fun y z c h1 h2 => ?_, fun y hy => ?_, fun y c hf h => ?_, fun _ => hd, Around.frames_deeper e0.frames, .inr ⟨rfl, rfl⟩, fun b z => (nomatch z), e0.bs, e0.bsz, fun b _ _ z => (nomatch z), fun b z => (nomatch z), e0.funs, e0.frf⟩,
    rfl, e0.bare, Un.kept hk, ⟨_, hn, fun i y v h1 h2 h3 => ?_⟩, fun y c h => ?_, e0.hok.fresh (Nat.le_refl _), fun y c h => ?_, fun p hp => absurd (show p ∈ ([] : List (Addr × Obj)) from hp) (by simp), e0.hok.kept hk, ?_⟩
  · rw [(one h1).1, (one h2).1]
  · have hy' : scope.names.lookup y = some .cell ∨ scope.names.lookup y = some .free := hy
    rcases hy' with hy' | hy'
    · exact absurd rfl (Sc.nocell _ (PySem.mem_of_lookup hy'))
    · exact ⟨cc, by rw [Sc.fr y hy']; rfl⟩
  · have e := (one h).1
    rw [e] at hf
    have hf' : decide (("__class__" : Str) ≠ "__class__") = true := hf
    exact absurd hf' (by decide)
  · have hi : i < vs.length := by
      unfold L2.start at h2
      by_cases hi : i < vs.length
      · exact hi
      · rw [List.getElem?_append_right (by simpa using hi)] at h2
        rw [List.getElem?_replicate] at h2
        split at h2 <;> cases h2
    have ha : vs[i]? = some v := by
      unfold L2.start at h2
      rw [List.getElem?_append_left (by simpa using hi), List.getElem?_map] at h2
      cases e : vs[i]? with
      | none => rw [e] at h2; cases h2
      | some a => rw [e] at h2; cases h2; rfl
    obtain ⟨u, hu, rv⟩ := r.get ha
    exact ⟨u, rv, .inl ⟨Sc.par y (List.mem_of_getElem? h1), zip_at Sc.nd h1 hu⟩⟩
  · obtain ⟨_, rfl⟩ := one h
    exact ⟨_, _, hk _ _ (KX _ _ hcc), rfl⟩
  · obtain ⟨_, rfl⟩ := one h
    exact hcf
  · unfold L2.start
    show _ = N.length
    rw [List.length_append, List.length_map, List.length_replicate]
    omega
/-- such an __init__ keeps sp -/
theorem initG {sp : Sp} (F : InitD K P D qual params body scope dvs f fd cc cda) (Sc : ScK N scope) (len : ∀ vs H Q E, sp vs H Q E → vs.length = N.length)
    (h : ∀ (A : Around) (out : List Env) (s : Shared) (H : Hp) (E : XK) (vs : List V) (Q : VK) (s1 : Shared), Ctx (cxK P w K mg base N fd f A out s H E) (fun _ => E) k → sp vs H Q E → Inv (cxK P w K mg base N fd f A out s H E) [] (L2.start N vs) H s1 →
      _root_.PySem.wpAt (model P w) (cxK P w K mg base N fd f A out s H E).A (.func body (cxK P w K mg base N fd f A out s H E).env) (execs body (cxK P w K mg base N fd f A out s H E).env)
        (SP (cxK P w K mg base N fd f A out s H E) [] { nx := fun _ H1 => Q .non H1, rt := Q }) (cxK P w K mg base N fd f A out s H E).xe s1) :
    FnG P w K mg base (k + 1) f fd N sp := by
  refine ⟨len, fun A out s H args us vs Q E hgd hro en bt rv q => ?_⟩
  obtain ⟨oc, od, osl, dV, kV, doc, pm, ct, an, e, lk, _⟩ := F.ex
  have hl := len _ _ _ _ q
  have KX : K.In s.heap := en.mod.kin.keeps fun b o e => (en.bs b o e).1
  have lim : s.heap.NoLimit := en.mod.nolimit.keeps fun b o e => (en.bs b o e).1
  have bt' : BindsTo s (PySem.W.ksFn "__init__" qual params body scope dV kV doc pm an (.ref cda) ct cc) args (N.zip us) := by rw [← e]; exact bt
  refine PySem.ks_codeAny_call_defAt (body := body) (binds := N.zip us) hro.depth (KX _ _ lk) rfl lim (by rw [e]; exact PySem.W.codeRec_of KX F.code) (by rw [e]) bt (by rw [e]; exact Sc.nocell) (fun y hy => ?_) (fun h0 hns hk => ?_) (by rw [e]; exact Sc.co) (by rw [e]; exact Sc.gen) (by rw [e]; exact Sc.kind)
  · rw [e]
    exact Sc.par _ (List.of_mem_zip hy).1
  have I : Inv (cxK P w K mg base N fd f A out s H E) [] (L2.start N vs) H { s with heap := h0, toks := s.toks + (N.zip us).length } := inv_enterK F Sc hro.hd en hl rv hns hk
  have tk : Takes (cxK P w K mg base N fd f A out s H E) (fun cls d _ H => E cls d H) := takes_of rfl rfl rfl rfl
  have C : Ctx (cxK P w K mg base N fd f A out s H E) (fun _ => E) k := ⟨rfl, Sc.nd, fun σ => L2.passAt tk σ, passes_of rfl, hro.deeper _, hgd⟩
  refine _root_.PySem.wpAt_mono (h A out s H E vs Q _ C q I) (fun fl s2 z => ?_) fun _ _ z => z
  cases fl with
  | ret u => obtain ⟨v, σ2, H2, J, r2, z⟩ := z; exact ⟨v, H2, J.os, J.bare, J.base, J.hok, r2, z⟩
  | next => obtain ⟨σ2, H2, J, z⟩ := z; exact ⟨.non, H2, J.os, J.bare, J.base, J.hok, rfl, z⟩
  | brk => obtain ⟨_, _, _, z⟩ := z; exact z.elim
  | cont => obtain ⟨_, _, _, z⟩ := z; exact z.elim
end
end SX

set_option Elab.async false
set_option linter.all false
set_option maxRecDepth 100000
set_option maxHeartbeats 1000000
namespace SX
open PySem PySem.Spec PyProof.Rows L2 ClX
/-! ### super() in such an __init__ -/
section
variable {X : Cx} {pins : List (Addr × Obj)} {σ : L2.St} {H : Hp} {s : Shared} {D C e f cc cda L : Addr} {qual : Str} {params : Arguments} {body : List Stmt} {scope : Scope} {dvs : List V} {fd : FuncData}
theorem clsIn_at {K : PySem.W.Frag} {h : Heap} (kin : K.In h) {D : Addr} (hD : ∃ cd, PySem.W.clsIn K D = some cd) : ∃ oD cd, h.get? D = some oD ∧ oD.data = .cls cd := by
  obtain ⟨cd, hD⟩ := hD
  unfold PySem.W.clsIn at hD
  split at hD
  · rename_i c d cd' sl ho
    cases hD
    exact ⟨_, _, kin _ _ ho, rfl⟩
  · cases hD
theorem super_node {attr : Str} {p0 p1 : Pos} {whole : Sem Value} {ar : Arg} {Q : Value → Shared → Prop} {E : Value → Shared → Prop} {t1 : Addr} (I : Inv X pins σ H s) (F : InitD X.K X.prog D qual params body scope dvs f fd cc cda) (he : X.env = callEnv fd L f) (Sc : ScK X.N scope)
    (hp : (params.posonlyargs ++ params.args).head? = some ar) (har : X.N[0]? = some ar.arg) (h0 : σ[0]? = some (some (.ref e)))
    (ee : s.heap.get? e = some ({ cls := .ref C, dict := none, data := .fields #[.ref t1, .none, .none, .none, .bool false, .none] } : Obj)) (hsub : PySem.W.mroIn X.K C (.ref D) = some true) (hm : X.mg "super" = none) (htop : (X.prog.main.scope.names.lookup ("super" : Str)).isSome = false) (hat : (attr == ("__class__" : Str)) = false)
    (h : ∀ s', s'.heap.get? s.heap.objs.size = some (PySem.W.ks_superObj D e C) → X.base.get? s.heap.objs.size = none → Inv X ((s.heap.objs.size, PySem.W.ks_superObj D e C) :: pins) σ H s' → (∀ b o, s.heap.get? b = some o → s'.heap.get? b = some o) → Q (.ref s.heap.objs.size) s') :
    _root_.PySem.wpAt (model X.prog X.w) X.A (.func body X.env) (attributeBase (.Call (.Name "super" p0) [] [] p1) attr X.env whole) Q E s := by
  obtain ⟨oc, od, osl, dV, kV, doc, pm, ct, an, rfl, lk, _⟩ := F.ex
  obtain ⟨ccl, cdd, vs, ccs, file, tf, hcode, hvs, hfile⟩ := F.file
  obtain ⟨cl, cld, csl, hcell⟩ := F.cell
  obtain ⟨oD, cdD, hD, hDd⟩ := clsIn_at I.kIn F.cls
  have kin := I.kIn
  have hkind : X.env.scope.kind = .function := I.ok.kind
  have hks : X.env.kindOf "super" = some .globalImplicit := by rw [he]; exact Sc.sup
  have hkc : X.env.kindOf "__class__" = some .free := by rw [he]; exact Sc.cl
  have hka : X.env.kindOf ar.arg = some .local := by rw [he]; exact Sc.par _ (List.mem_of_getElem? har)
  obtain ⟨m, hns, hloc⟩ := id I.loc
  obtain ⟨u, ru, hl⟩ := hloc 0 ar.arg (.ref e) har h0 (.inl hka)
  obtain rfl : u = Value.ref e := ru
  have hma : m ar.arg = some (.ref e) := by
    rcases hl with ⟨_, z⟩ | ⟨z, _⟩
    · exact z
    · rw [hka] at z
      rcases z with z | z <;> cases z
  refine PySem.ks_wpAt_super_base (env := X.env) (f := f) (cc := cda) hks hkc hat (by rw [he] <;> rfl) (kin _ _ lk) rfl hp (by rw [he] <;> rfl) (kin _ _ hcode) rfl hvs hfile htop ?_
  obtain ⟨mb, hb1, hb2⟩ := I.mod.blt
  refine PySem.W.ks_loadName_global hkind hks (Calls.loadGlobal_builtin (by rw [I.ok.glob]; exact I.mod.glob.keeps I.bk) hm (by rw [I.ok.blt]; exact hb1.keeps I.bk) ((hb2 "super" (by decide)).trans (by decide +kernel)) ⟨rfl, ?_⟩)
  refine wpAny_loadName_free hkind hkc (c := cc) (by rw [he] <;> rfl) ⟨_, kin _ _ hcell, rfl⟩ ?_
  refine wpAny_loadName_local hkind hka hns hma ?_
  refine PySem.ks_wpAny_isType_cls hD hDd ⟨rfl, ?_⟩
  refine PySem.ks_wpAny_call_super hD hDd ee rfl (fun c z => nomatch z) (PySem.W.looks_mroIn kin hsub) (fun h' q1 q2 => ?_)
  refine h _ q1 (base_none I (Nat.le_refl _)) ?_ q2
  exact pin_new (t' := s.toks) I q2 (Nat.le_refl _) q1 (fun v z => nomatch z)
/-- super().__init__ is a def of the program: a bound method -/
theorem super_fn {so g : Addr} {pl : Sem Bool} {Q : Value × List Value → Shared → Prop} {E : Value → Shared → Prop} {A : Around} {t1 : Addr} (I : Inv X pins σ H s) (hso : s.heap.get? so = some (PySem.W.ks_superObj D e C))
    (ee : s.heap.get? e = some ({ cls := .ref C, dict := none, data := .fields #[.ref t1, .none, .none, .none, .bool false, .none] } : Obj)) (ho : PySem.W.nsIn X.K cStatics "thirdparty.any" = some none)
    (hm : PySem.W.ks_superIn X.K C D "__init__" = some (some (.ref g))) (ht : PySem.W.typeIn X.K (.ref g) = some (.type "function"))
    (h : ∀ s', Inv X ((s.heap.objs.size, PySem.W.methodObj (.ref g) (.ref e)) :: pins) σ H s' → X.base.get? s.heap.objs.size = none → (∀ b o, s.heap.get? b = some o → s'.heap.get? b = some o) → Q (.ref s.heap.objs.size, []) s') :
    wpAny (model X.prog X.w) A (getMethod (.ref so) "__init__" pl) Q E s := by
  have kin := I.kIn
  have hb := base_none I (Nat.le_refl s.heap.objs.size)
  have J := met_new (g := g) (C := e) I
  have J0 : PySem.W.InstAt s.heap e ({ cls := .ref C, dict := none, data := .fields #[.ref t1, .none, .none, .none, .bool false, .none] } : Obj) C none := ⟨ee, rfl, rfl, trivial⟩
  obtain ⟨hh, gg, d, t, os⟩ := s
  cases hc : PySem.W.clsIn X.K C with
  | none => unfold PySem.W.ks_superIn at hm; rw [hc] at hm; cases hm
  | some cd =>
    unfold PySem.W.ks_superIn at hm
    rw [hc] at hm
    obtain ⟨of, hof, hofc⟩ : ∃ of, hh.get? g = some of ∧ of.cls = .type "function" := by
      have ht' : (X.K.lookup g).map (·.cls) = some (.type "function") := ht
      cases z : X.K.lookup g with
      | none => rw [z] at ht'; cases ht'
      | some of => rw [z] at ht'; exact ⟨of, kin _ _ z, Option.some.inj ht'⟩
    refine PySem.ks_wpAny_getMethod_super hso (PySem.W.looks_opaque kin ho) (l₀ := cd.mro) ?_ rfl kin hm hof hofc (PySem.W.ks_ne kin J0 hc) (by decide) ?_
    · exact fun A Q E s k q => wpAny_bind ((PySem.W.looks_clsIn kin hc) A _ E s k (wpAny_pure q))
    · exact h _ J hb (fun _ _ z => Heap.get?_push_of_some _ z)
/-- super().__init__ is ValueError's: a method-wrapper -/
theorem super_ve {so : Addr} {pl : Sem Bool} {Q : Value × List Value → Shared → Prop} {E : Value → Shared → Prop} {A : Around} {t1 : Addr} (I : Inv X pins σ H s) (hso : s.heap.get? so = some (PySem.W.ks_superObj D e C))
    (ee : s.heap.get? e = some ({ cls := .ref C, dict := none, data := .fields #[.ref t1, .none, .none, .none, .bool false, .none] } : Obj)) (ho : PySem.W.nsIn X.K cStatics "thirdparty.any" = some none)
    (hm : PySem.W.ks_superIn X.K C D "__init__" = some (some (.builtin "ValueError.__init__"))) (hB : PySem.W.subIn X.K (.ref C) (.type "ValueError") = some true)
    (h : ∀ s', Inv X ((s.heap.objs.size, PySem.W.kxs_mw "ValueError.__init__" e) :: pins) σ H s' → (∀ b o, s.heap.get? b = some o → s'.heap.get? b = some o) → Q (.ref s.heap.objs.size, []) s') :
    wpAny (model X.prog X.w) A (getMethod (.ref so) "__init__" pl) Q E s := by
  have kin := I.kIn
  have J0 : PySem.W.InstAt s.heap e ({ cls := .ref C, dict := none, data := .fields #[.ref t1, .none, .none, .none, .bool false, .none] } : Obj) C none := ⟨ee, rfl, rfl, trivial⟩
  have hI : PySem.W.Looks (model X.prog X.w) s.heap (isInstance (.ref e) (.type "ValueError")) true := J0.type.andThen (PySem.W.looks_subIn kin hB)
  have J : Inv X ((s.heap.objs.size, PySem.W.kxs_mw "ValueError.__init__" e) :: pins) σ H { s with heap := s.heap.push (PySem.W.kxs_mw "ValueError.__init__" e), toks := s.toks + 1 } :=
    pin_new I (fun _ _ z => Heap.get?_push_of_some _ z) (Nat.le_refl _) (Heap.get?_push_size s.heap rfl) (fun v z => nomatch z)
  obtain ⟨hh, gg, d, t, os⟩ := s
  cases hc : PySem.W.clsIn X.K C with
  | none => unfold PySem.W.ks_superIn at hm; rw [hc] at hm; cases hm
  | some cd =>
    unfold PySem.W.ks_superIn at hm
    rw [hc] at hm
    refine PySem.W.kxs_getMethod PySem.W.kxs_ValueError hso (PySem.W.looks_opaque kin ho) (l₀ := cd.mro) ?_ rfl kin hm hI (PySem.W.ks_ne kin J0 hc) (by decide) ?_
    · exact fun A Q E s k q => wpAny_bind ((PySem.W.looks_clsIn kin hc) A _ E s k (wpAny_pure q))
    · exact h _ J (fun _ _ z => Heap.get?_push_of_some _ z)
/-- ValueError's __init__, bound, called -/
theorem ve_call {u : Addr} {us : List Value} {Q : Value → Shared → Prop} {E : Value → Shared → Prop} {A : Around} (T : OexC X.K C) (I : Inv X ((u, PySem.W.kxs_mw "ValueError.__init__" e) :: pins) σ H s) (ee : H e = some (exo e C none)) (hl : us.length ≤ sizeLine)
    (h : ∀ s', Inv X pins σ H s' → Q .none s') : wpAny (model X.prog X.w) A (call (.ref u) us) Q E s := by
  obtain ⟨nm, q, N, bs, bm, sn, sub, ab, col, dd, k0, k1, k2, k3, k5, hC, hbm⟩ := T.cls
  obtain ⟨t1, ho⟩ := exo_at I.hok ee
  have hu := pin_at I
  have kin := I.kIn
  have I0 := unpin I
  obtain ⟨hp, g, d, t, os⟩ := s
  refine wpAny_call (codeAny_of_tree ?_)
  show wpAny _ A.in1 (callAny (.ref u) ⟨us, []⟩) _ _ _
  simp only [callAny]
  refine wpAny_bind (wpAny_load hu ?_)
  simp only [PySem.W.kxs_mw, show (Value.type "method-wrapper" == Value.type "method" || Value.type "method-wrapper" == Value.type "builtin_function_or_method" || Value.type "method-wrapper" == Value.type "method-wrapper") = true by decide, if_true]
  refine PySem.W.KFB.if_so (by decide) ?_
  refine wpAny_bind (PySem.W.check_bound_init F.excBase_ValueError.toExcCallFacts (kin _ _ hC) ho rfl ?_)
  refine wpAny_bind (wpAny_pure (wpAny_pure ?_))
  refine ⟨plainId_quiet F.excBase_ValueError.init.plain _, codeAny_builtin F.excBase_ValueError.initEntry ?_⟩
  refine PySem.W.exc_init_tree (cls := .ref C) (t0 := t1) (dv := none) (c2 := .none) (c3 := .none) (b4 := .bool false) ho hl fun h' k hx _ => ?_
  have J := I0.write (t' := t) (x := e) (e := e) (o := exo e C none) (by rw [ee]; exact True.intro) (.inl rfl) k ⟨_, hx⟩ (exo_ok hx)
  have eu : upd H e (exo e C none) = H := by
    funext b
    by_cases hb : b = e
    · rw [hb, upd_same, ee]
    · rw [upd_ne hb]
  rw [eu] at J
  exact h _ J
end
end SX

set_option Elab.async false
set_option linter.all false
set_option maxRecDepth 100000
set_option maxHeartbeats 1000000
namespace SX
open PySem PySem.Spec PyProof.Rows L2 ClX
/-- a class below the error class at T -/
structure ErrC (K : PySem.W.Frag) (T C : Addr) : Prop where
  oex : OexC K C
  sT : PySem.W.mroIn K C (.ref T) = some true
  sC : PySem.W.mroIn K C (.ref C) = some true
  suT : PySem.W.ks_superIn K C T "__init__" = some (some (.builtin "ValueError.__init__"))
  ve : PySem.W.subIn K (.ref C) (.type "ValueError") = some true
  w : PySem.W.findIn K (.ref C) "word" = some none
  p : PySem.W.findIn K (.ref C) "place" = some none
/-- TermError.__init__'s own lines -/
def bodyT (b : List Stmt) : Prop := ∃ (p0 p1 p2 p3 p4 p5 p6 p7 p8 p9 p10 p11 p12 p13 p14 p15 p16 p17 p18 p19 : Pos) (j4 : Nat), (p2.endLine == p10.line) = true ∧
  b = [.Expr (.Call (.Attribute (.Call (.Name "super" p0) [] [] p1) "__init__" p2) [.BinOp (.BinOp (.Name "word" p3) .Add (.Constant (.str ": ") j4 p4) p5) .Add (.Call (.Name "repr" p6) [.Name "place" p7] [] p8) p9] [] p10) p11,
    .Assign [.Attribute (.Name "self" p12) "word" p13] (.Name "word" p14) p15, .Assign [.Attribute (.Name "self" p16) "place" p17] (.Name "place" p18) p19]
def bodyB (cn : Str) (b : List Stmt) : Prop := ∃ (p0 p1 p2 p3 p4 p5 p6 : Pos) (j3 : Nat), (p2.endLine == p5.line) = true ∧
  b = [.Expr (.Call (.Attribute (.Call (.Name "super" p0) [] [] p1) "__init__" p2) [.Constant (.str cn) j3 p3, .Name "place" p4] [] p5) p6]
def headIs (pr : Arguments) (x : Str) : Prop := ∃ ar, (pr.posonlyargs ++ pr.args).head? = some ar ∧ ar.arg = x
/-- what is made: the exception's dict -/
def Made (T : Addr) (K : PySem.W.Frag) (H : Hp) (e C : Addr) (cn : Str) (pl : V) (Q : VK) : Prop :=
  ErrC K T C ∧ H e = some (exo e C none) ∧ (∃ a : PyData, Dp K H pl a ∧ a.showable = true ∧ a.hasDict = false ∧ a.depth ≤ 60 ∧ cn.length ≤ 1000 ∧ a.shown.length ≤ 16000000) ∧
    ∀ dx, H dx = none → dx ≠ e → Q .non (upd (upd (upd H dx (exd dx [("word", .str cn)])) e (exo e C (some dx))) dx (exd dx [("place", pl), ("word", .str cn)]))
def spT (T : Addr) (K : PySem.W.Frag) : Sp := fun vs H Q _ => ∃ e C cn pl, vs = [.ref e, .str cn, pl] ∧ Made T K H e C cn pl Q
def spB (T C : Addr) (cn : Str) (K : PySem.W.Frag) : Sp := fun vs H Q _ => ∃ e pl, vs = [.ref e, pl] ∧ Made T K H e C cn pl Q
def rRepr (K : PySem.W.Frag) (xs : List V) (H : Hp) (Q : VK) : Prop := ∃ v a, xs = [v] ∧ Dp K H v a ∧ a.showable = true ∧ a.hasDict = false ∧ a.depth ≤ 60 ∧ a.shown.length ≤ 16777216 ∧ Q (.str a.shown) H
theorem call_reprD {X : Cx} {W : L2.St → XW} {k : Nat} (C : Ctx X W k) : CallR X (.builtin "repr") (rRepr X.K) := by
  intro pins s σ H xs us Q I ru q
  obtain ⟨v, a, rfl, dp, h1, h2, h3, h4, fin⟩ := q
  cases ru with
  | cons r2 rr =>
    cases rr
    obtain ⟨as, rd⟩ := Dp.reads I a v _ dp r2
    cases v with
    | non =>
      cases r2
      cases dp
      exact PySem.P.repr_of_none ⟨.str _, H, I.tok _, ⟨_, rfl⟩, by simpa only [PyData.shown] using fin⟩
    | bl b =>
      cases r2
      cases dp
      exact PySem.P.repr_of_bool ⟨.str _, H, I.tok _, ⟨_, rfl⟩, by simpa only [PyData.shown] using fin⟩
    | int i =>
      obtain ⟨t, rfl⟩ := r2
      cases dp
      exact PySem.P.repr_of_int (by simpa [PyData.showable] using h1) ⟨.str _, H, I.tok _, ⟨_, rfl⟩, by simpa only [PyData.shown] using fin⟩
    | str i =>
      obtain ⟨t, rfl⟩ := r2
      cases dp
      exact PySem.P.repr_of_str ⟨.str _, H, I.tok _, ⟨_, rfl⟩, by simpa only [PyData.shown] using fin⟩ (by simp only [PyData.shown] at h4; exact h4)
    | ref p =>
      cases r2
      refine repr_of_reads' rd h1 (PyData.noDict_hsm h2) C.gd (by have := C.room.units; omega) (fun _ _ e => e) (fun h' t tk kk => ?_) h4
      exact ⟨.str a.shown, H, I.kept kk, ⟨_, rfl⟩, fin⟩
    | byt _ => cases dp
    | flt _ => cases dp
    | ty _ => cases dp
def rAddS : R2 := fun x y H Q => ∃ i j, x = .str i ∧ y = .str j ∧ i.length + j.length ≤ sizeLine ∧ Q (.str (i ++ j)) H
/-- the tree of super().__init__(a, ..) -/
theorem sup_tree {p0 p1 p2 p10 : Pos} {a : Expr} {as : List Expr} {env : Env} (hp : (p2.endLine == p10.line) = true) (hf : methodCallForm ((a :: as).length + 0) (backTo p10 (starEach (a :: as) env)) [] = true) :
    eval (.Call (.Attribute (.Call (.Name "super" p0) [] [] p1) "__init__" p2) (a :: as) [] p10) env = (do
      let ov ← attributeBase (.Call (.Name "super" p0) [] [] p1) "__init__" env (eval (.Call (.Name "super" p0) [] [] p1) env)
      standAt p2.atName
      let (f, first) ← holding [ov] (getMethod ov "__init__" (do return (← importBound (.Call (.Name "super" p0) [] [] p1) env).getD true))
      callWith p10 f first (backTo p10 (starEach (a :: as) env)) []) := by
  rw [arm_eval_Call]
  unfold methodCall calleeOf methodCallPos
  have e1 : backToKw p10 (keywordEach [] env) = [] := rfl
  rw [e1]
  show (do
      let ov ← attributeBase (.Call (.Name "super" p0) [] [] p1) "__init__" env (eval (.Call (.Name "super" p0) [] [] p1) env)
      standAt p2.atName
      _) = _
  have hf' : methodCallForm ((a :: as).length + ([] : List Keyword).length) (backTo p10 (starEach (a :: as) env)) [] = true := hf
  simp only [hf', hp, if_true, Bool.not_true, Bool.false_or, pure_bind]
section
variable {P : Program} {w : World} {K : PySem.W.Frag} {mg : Str → Option Value} {base : Heap} {T f cc cda : Addr} {qual : Str} {params : Arguments} {body : List Stmt} {scope : Scope} {dvs : List V} {fd : FuncData}
theorem init_T (F : InitD K P T qual params body scope dvs f fd cc cda) (Sc : ScK ["self", "word", "place"] scope) (hrp : scope.names.lookup ("repr" : Str) = some .globalImplicit) (hb : bodyT body) (hh : headIs params "self")
    (hm : mg "super" = none) (hr : mg "repr" = none) (htop : (P.main.scope.names.lookup ("super" : Str)).isSome = false) (ho : PySem.W.nsIn K cStatics "thirdparty.any" = some none) :
    FnG P w K mg base 1 f fd ["self", "word", "place"] (spT T K) := by
  refine initG (k := 0) F Sc (fun vs H Q E ⟨e, C, cn, pl, q, _⟩ => by rw [q]; rfl) fun A out s H E vs Q s1 Cx0 q I => ?_
  obtain ⟨e, C, cn, pl, rfl, Ec, ee, ⟨a, dp, w1, w2, w3, w4, w5⟩, q⟩ := q
  obtain ⟨p0, p1, p2, p3, p4, p5, p6, p7, p8, p9, p10, p11, p12, p13, p14, p15, p16, p17, p18, p19, j4, hp, rfl⟩ := hb
  obtain ⟨ar, h1, h2⟩ := hh
  generalize hX : cxK P w K mg base ["self", "word", "place"] fd f A out s H E = X at *
  have hN : X.N = (["self", "word", "place"] : List Str) := by rw [← hX]; rfl
  have hK : X.K = K := by rw [← hX]; rfl
  have hP : X.prog = P := by rw [← hX]; rfl
  have hw : X.w = w := by rw [← hX]; rfl
  have hmg : X.mg = mg := by rw [← hX]; rfl
  have he : X.env = callEnv fd s.heap.objs.size f := by rw [← hX]; rfl
  have hsc : X.env.scope = scope := by
    rw [he]
    obtain ⟨oc, od, osl, dV, kV, doc, pm, ct, an, e1, _⟩ := F.ex
    rw [e1]
    rfl
  have ko : ∀ x, X.env.kindOf x = scope.names.lookup x := fun x => by
    show X.env.scope.names.lookup x = _
    rw [hsc]
  subst hK hP hw hmg
  have v0 : Vis X.env.scope "self" := .inl (by rw [hsc]; exact Sc.par _ (by decide))
  have v1 : Vis X.env.scope "word" := .inl (by rw [hsc]; exact Sc.par _ (by decide))
  have v2 : Vis X.env.scope "place" := .inl (by rw [hsc]; exact Sc.par _ (by decide))
  have hst : L2.start ["self", "word", "place"] [V.ref e, V.str cn, pl] = [some (.ref e), some (.str cn), some pl] := rfl
  rw [hst] at I
  -- the written text
  have ha : PA X [.BinOp (.BinOp (.Name "word" p3) .Add (.Constant (.str ": ") j4 p4) p5) .Add (.Call (.Name "repr" p6) [.Name "place" p7] [] p8) p9]
      (tCons (tOp rAddS (tOp rAddS (tVar 1) (tC (.str ": "))) (fun σ H Q => tCons (tVar 2) tNil σ H fun xs H1 => rRepr X.K xs H1 Q)) tNil) :=
    pa_cons (pe_op op_add_str (pe_op op_add_str (pe_var (by rw [hN]; rfl) v1) pe_str) (pe_callB (call_reprD Cx0) (by show X.env.kindOf _ = _; rw [ko]; exact hrp) hr (by decide +kernel) (pa_cons (pe_var (by rw [hN]; rfl) v2) pa_nil))) pa_nil
  have so : PSs X [.Assign [.Attribute (.Name "self" p12) "word" p13] (.Name "word" p14) p15, .Assign [.Attribute (.Name "self" p16) "place" p17] (.Name "place" p18) p19] (tSeq (tOst X.K "word" (tVar 0) (tVar 1)) (tSeq (tOst X.K "place" (tVar 0) (tVar 2)) tNext)) :=
    pss_cons (ps_ost (pe_var (by rw [hN]; rfl) v0) (pe_var (by rw [hN]; rfl) v1)) (pss_cons (ps_ost (pe_var (by rw [hN]; rfl) v0) (pe_var (by rw [hN]; rfl) v2)) pss_nil)
  obtain ⟨t1, hoe⟩ := exo_at I.hok ee
  refine PySem.ks_wpAt_execs_cons (PySem.ks_wpAt_Expr_any (PySem.ks_wpAt_MethodCall ?_ (sup_tree hp rfl)) ?_)
  · refine super_node I F he (by rw [hN]; exact Sc) h1 (by rw [hN, h2]; rfl) rfl hoe Ec.sT hm htop (by decide) fun s2 hso hb2 I2 k2 => ?_
    refine super_ve I2 hso (k2 _ _ hoe) ho Ec.suT Ec.ve fun s3 I3 k3 => ?_
    have hL := (I3.pin _ (List.mem_append_right _ List.mem_cons_self)).2.2.1
    have hbn : X.base.get? s2.heap.objs.size = none := base_none (unpin I2) (Nat.le_refl _)
    refine PySem.W.kxs_callWith1 (i := "ValueError.__init__") (x := e) (news_at hL hbn (pin_at I3)) List.mem_cons_self ?_ rfl rfl
    have pre : tCons (tOp rAddS (tOp rAddS (tVar 1) (tC (.str ": "))) (fun σ H Q => tCons (tVar 2) tNil σ H fun xs H1 => rRepr X.K xs H1 Q)) tNil [some (.ref e), some (.str cn), some pl] H (fun vs H1 => H1 = H ∧ vs.length = 1) := by
      have e2 : (": " : Str).length = 2 := by decide
      refine ⟨.str cn, rfl, ?_⟩
      refine ⟨cn, ": ", rfl, rfl, by rw [e2, sizeLine_eq]; omega, pl, rfl, pl, a, rfl, dp, w1, w2, w3, by omega, _, _, rfl, rfl, ?_, rfl, rfl⟩
      have e3 : (cn ++ (": " : Str)).length = cn.length + (": " : Str).length := by first | exact Str.length_append _ _ | simp | (show (cn.cps ++ _).length = _; simp)
      rw [e3, e2, sizeLine_eq]
      omega
    refine thn (ha.run p10 _ s3 _ H _ I3 pre) fun us s4 ⟨vs, H1, I4, r4, e1, e2⟩ => ?_
    subst e1
    refine ⟨pin_at I4, ve_call Ec.oex I4 ee (by rw [← r4.length, e2, sizeLine_eq]; omega) fun s5 J => ?_⟩
    refine _root_.PySem.wpAt_of_wpAny ?_
    refine so.run [] s5 _ _ _ (unpin J) ?_
    refine ⟨.str cn, rfl, .ref e, rfl, e, C, rfl, Ec.oex, Ec.w, .inl ⟨ee, fun dx d1 d2 => ?_⟩⟩
    refine ⟨pl, rfl, .ref e, rfl, e, C, rfl, Ec.oex, Ec.p,   .inr ⟨dx, [("word", .str cn)], upd_same, ?_, (by show 1 ≤ 900; omega), ?_⟩⟩
    · rw [upd_ne d2, upd_same]
    · exact q dx d1 d2
  · unfold interactive
    rw [hsc, Sc.kind]
    rfl
/-- a class's own __init__, which hands its name and the place up -/
theorem init_B {cn : Str} {C g : Addr} {gd : FuncData} (F : InitD K P C qual params body scope dvs f fd cc cda) (Sc : ScK ["self", "place"] scope) (hb : bodyB cn body) (hh : headIs params "self")
    (hm : mg "super" = none) (htop : (P.main.scope.names.lookup ("super" : Str)).isSome = false) (ho : PySem.W.nsIn K cStatics "thirdparty.any" = some none)
    (su : PySem.W.ks_superIn K C C "__init__" = some (some (.ref g))) (ty : PySem.W.typeIn K (.ref g) = some (.type "function")) (fi : PySem.W.fnIn K g = true) (FT : FnG P w K mg base 1 g gd ["self", "word", "place"] (spT T K)) (bT : Binds K gd ["self", "word", "place"] []) :
    FnG P w K mg base 2 f fd ["self", "place"] (spB T C cn K) := by
  refine initG (k := 1) F Sc (fun vs H Q E ⟨e, pl, q, _⟩ => by rw [q]; rfl) fun A out s H E vs Q s1 Cx0 q I => ?_
  obtain ⟨e, pl, rfl, q⟩ := q
  obtain ⟨Ec, ee, _⟩ := id q
  obtain ⟨p0, p1, p2, p3, p4, p5, p6, j3, hp, rfl⟩ := hb
  obtain ⟨ar, h1, h2⟩ := hh
  generalize hX : cxK P w K mg base ["self", "place"] fd f A out s H E = X at *
  have hN : X.N = (["self", "place"] : List Str) := by rw [← hX]; rfl
  have hK : X.K = K := by rw [← hX]; rfl
  have hP : X.prog = P := by rw [← hX]; rfl
  have hw : X.w = w := by rw [← hX]; rfl
  have hmg : X.mg = mg := by rw [← hX]; rfl
  have hba : X.base = base := by rw [← hX]; rfl
  have he : X.env = callEnv fd s.heap.objs.size f := by rw [← hX]; rfl
  have hsc : X.env.scope = scope := by
    rw [he]
    obtain ⟨oc, od, osl, dV, kV, doc, pm, ct, an, e1, _⟩ := F.ex
    rw [e1]
    rfl
  subst hK hP hw hmg hba
  have v1 : Vis X.env.scope "place" := .inl (by rw [hsc]; exact Sc.par _ (by decide))
  have hst : L2.start ["self", "place"] [V.ref e, pl] = [some (.ref e), some pl] := rfl
  rw [hst] at I
  have ha : PA X [.Constant (.str cn) j3 p3, .Name "place" p4] (tCons (tC (.str cn)) (tCons (tVar 1) tNil)) := pa_cons pe_str (pa_cons (pe_var (by rw [hN]; rfl) v1) pa_nil)
  obtain ⟨t1, hoe⟩ := exo_at I.hok ee
  refine PySem.ks_wpAt_execs_cons (PySem.ks_wpAt_Expr_any (PySem.ks_wpAt_MethodCall ?_ (sup_tree hp rfl)) ?_)
  · refine super_node I F he (by rw [hN]; exact Sc) h1 (by rw [hN, h2]; rfl) rfl hoe Ec.sC hm htop (by decide) fun s2 hso hb2 I2 k2 => ?_
    refine super_fn I2 hso (k2 _ _ hoe) ho su ty fun s3 I3 hb3 k3 => ?_
    refine callwith_cm I3 hb3 fi ?_ rfl rfl
    refine thn (ha.run p5 _ s3 _ H _ I3 (show tCons (tC (.str cn)) (tCons (tVar 1) tNil) [some (.ref e), some pl] H (fun vs H1 => H1 = H ∧ vs = [.str cn, pl]) from ⟨pl, rfl, rfl, rfl⟩)) fun us s4 ⟨vs, H1, I4, r4, e1, e2⟩ => ?_
    subst e1 e2
    refine ⟨⟨pin_at I4, I4.kIn⟩, ?_⟩
    have rr : Vals [.ref e, .str cn, pl] (.ref e :: us) := .cons rfl r4
    have hl : (Value.ref e :: us ++ []).length = 3 := by
      rw [List.append_nil]
      exact rr.length.symm
    have bt := bT s4 (Value.ref e :: us) I4.kIn hl
    rw [List.append_nil] at bt
    have hsp : spT T X.K [V.ref e, V.str cn, pl] H1 (fun v H2 => v = .non ∧ Q .non H2) (fun _ _ _ => False) := by
      obtain ⟨m1, m2, m3, m4⟩ := q
      exact ⟨e, C, cn, pl, rfl, m1, m2, m3, fun dx d1 d2 => ⟨rfl, m4 dx d1 d2⟩⟩
    refine wpAny_call (PySem.W.method_call (pin_at I4) (codeAny_mono (FT.go X.A X.stack s4 H1 ⟨Value.ref e :: us, []⟩ _ _ _ (fun _ _ _ => False) Cx0.gd Cx0.room I4.env0 bt rr hsp) fun r s5 hq => ?_))
    cases r with
    | error er =>
      obtain ⟨_, _, _, _, _, _, _, _, _, _, _, _, z⟩ := hq
      exact z.elim
    | ok fl =>
      cases fl with
      | ret u =>
        obtain ⟨v, H2, J, rv, ev, q2⟩ := I4.after hq
        exact _root_.PySem.wpAt_of_wpAny (wpAny_execs_nil ⟨_, H2, unpin (unpin J), q2⟩)
      | next => exact False.elim hq
      | brk => exact False.elim hq
      | cont => exact False.elim hq
  · unfold interactive
    rw [hsc, Sc.kind]
    rfl
end
end SX

set_option Elab.async false
set_option linter.all false
set_option maxRecDepth 100000
set_option maxHeartbeats 1000000
namespace SX
open PySem PySem.Spec PyProof.Rows L2 ClX
/-! ### raise -/
/-- an error class as a def of the program knows it: cn its name, C its place, T the class above all errors -/
structure ErrD (P : Program) (w : World) (K : PySem.W.Frag) (mg : Str → Option Value) (base : Heap) (cn : Str) (T C : Addr) : Prop where
  at_ : mg cn = some (.ref C)
  err : ErrC K T C
  keep : PySem.W.keepIn K (.ref C) = true
  len : cn.length ≤ 1000
  ini : ∃ (f : Addr) (fd : FuncData) (ds : List Value), PySem.W.findIn K (.ref C) "__init__" = some (some (.ref f)) ∧ PySem.W.typeIn K (.ref f) = some (.type "function") ∧ FnG P w K mg base 2 f fd ["self", "place"] (spB T C cn K) ∧ Binds K fd ["self", "place"] [] ∧
    Binds K fd ["self", "place"] ds ∧ Vals [V.non] ds
/-- the cell of an error -/
abbrev errX (cn : Str) (d : D) : SX.C := .xd [("place", d), ("word", .str cn)]
def showsD (d : D) (G : Hq) : Bool := match toPy G 24 d with
  | some a => decide (a.showable = true ∧ a.hasDict = false ∧ a.depth ≤ 60 ∧ a.shown.length ≤ 16000000)
  | none => false
def raiseC (cn : Str) (e : EF) : SF := fun σ G => onE (e σ G) σ fun d G1 => if showsD d G1 then .ex cn G1.length σ (G1 ++ [errX cn d]) else .bad
def raise0C (cn : Str) : SF := fun σ G => .ex cn G.length σ (G ++ [errX cn .non])
section
variable {X : Cx} {W : L2.St → XW} {k : Nat} {cn : Str} {T C : Addr}
/-- what a new error of the class means for the reading behind -/
theorem made_sim {m : List Addr} {G : Hq} {H : Hp} {d : D} {v : V} {a dx : Addr} {Q : XK} (S : Sim X.K m G H) (r : VR X.K m H d v) (ha : H a = none) (hd : H dx = none)
    (q : ∀ m' H' e, Xt X.K m H m' H' → Sim X.K m' (G ++ [errX cn d]) H' → m'[G.length]? = some e → Q (.ref C) (some e) H') :
    Q (.ref C) (some dx) (upd (del (upd (upd (upd (upd H a (exo a C none)) dx (exd dx [("word", .str cn)])) a (exo a C (some dx))) dx (exd dx [("place", v), ("word", .str cn)])) a) dx (.xd [("place", v), ("word", .str cn)])) := by
  have eH : upd (del (upd (upd (upd (upd H a (exo a C none)) dx (exd dx [("word", .str cn)])) a (exo a C (some dx))) dx (exd dx [("place", v), ("word", .str cn)])) a) dx (.xd [("place", v), ("word", .str cn)]) = upd H dx (.xd [("place", v), ("word", .str cn)]) := by
    funext b
    by_cases h1 : b = dx
    · rw [h1, upd_same, upd_same]
    · rw [upd_ne h1, upd_ne h1]
      by_cases h2 : b = a
      · rw [h2, del_same, ha]
      · rw [del_ne h2, upd_ne h1, upd_ne h2, upd_ne h1, upd_ne h2]
  rw [eH]
  refine q (m ++ [dx]) _ dx (xt_push hd) (S.push hd ?_) (by rw [← S.len]; simp)
  exact ⟨_, upd_same, .cons (r.mono (xt_push hd)) (.cons (.str _) .nil)⟩
theorem pmk_err (E : ErrD X.prog X.w X.K X.mg X.base cn T C) (Cx0 : Ctx X W k) (hk : 3 ≤ k) {pins : List (Addr × Obj)} {s : Shared} {σ : L2.St} {H : Hp} {Q : XK} {f : Addr} {fd : FuncData} {ds us : List Value} {vs : List V} {pl : V} (I : Inv X pins σ H s)
    (hi : PySem.W.findIn X.K (.ref C) "__init__" = some (some (.ref f))) (ti : PySem.W.typeIn X.K (.ref f) = some (.type "function")) (FI : FnG X.prog X.w X.K X.mg X.base 2 f fd ["self", "place"] (spB T C cn X.K)) (hb : Binds X.K fd ["self", "place"] ds)
    (r : Vals vs us) (e : ∀ a : Addr, Vals [V.ref a, pl] (Value.ref a :: (us ++ ds))) (hl : us.length ≤ 1) {a0 : PyData} (dp : ∀ a, H a = none → Dp X.K (upd H a (exo a C none)) pl a0) (w1 : a0.showable = true) (w2 : a0.hasDict = false) (w3 : a0.depth ≤ 60) (w5 : a0.shown.length ≤ 16000000)
    (q : ∀ a dx, H a = none → H dx = none → Q (.ref C) (some dx) (upd (del (upd (upd (upd (upd H a (exo a C none)) dx (exd dx [("word", .str cn)])) a (exo a C (some dx))) dx (exd dx [("place", pl), ("word", .str cn)])) a) dx (.xd [("place", pl), ("word", .str cn)]))) :
    wpAny (model X.prog X.w) X.A (call (.ref C) us) (MkP X pins σ Q) X.xe s := by
  obtain ⟨nm, qn, N, bs, bm, sn, sub, ab, col, dd, k0, k1, k2, k3, k5, hC, hbm⟩ := E.err.oex.cls
  obtain ⟨hp, g, dr, tk, os⟩ := s
  have hsz : hp.objs.size ≤ hp.objs.size + 1 := Nat.le_succ _
  have hn : H (hp.objs.size + 1) = none := I.hok.fresh hsz
  have kk : ∀ b o, hp.get? b = some o → ((hp.push (PySem.W.kdv_tup us)).push (PySem.HandSPX.excO C hp.objs.size)).get? b = some o := fun b o e => Heap.get?_push_of_some _ (Heap.get?_push_of_some _ e)
  have hget : ((hp.push (PySem.W.kdv_tup us)).push (PySem.HandSPX.excO C hp.objs.size)).get? (hp.objs.size + 1) = some (PySem.HandSPX.excO C hp.objs.size) := by heap_get
  have I2 : Inv X pins σ (upd H (hp.objs.size + 1) (exo (hp.objs.size + 1) C none)) ⟨(hp.push (PySem.W.kdv_tup us)).push (PySem.HandSPX.excO C hp.objs.size), g, dr, tk, os⟩ :=
    I.laid (t' := tk) (a := hp.objs.size + 1) (o := exo (hp.objs.size + 1) C none) (h' := (hp.push (PySem.W.kdv_tup us)).push (PySem.HandSPX.excO C hp.objs.size)) kk hsz (exo_ok hget)
  have r2 := e (hp.objs.size + 1)
  have hl2 : (Value.ref (hp.objs.size + 1) :: us ++ ds).length = 2 := r2.length.symm
  have hr : Room 3 X.A := Cx0.room.mono hk
  have hgd : (X.A.under (.builtin "type.__call__" ⟨.ref C :: us, []⟩)).guards = some [] := by
    have h0 := Cx0.gd
    first | exact h0 | (simpa [Around.under, Code.isGuard, guardIds] using h0)
  have hsp : spB T C cn X.K [V.ref (hp.objs.size + 1), pl] (upd H (hp.objs.size + 1) (exo (hp.objs.size + 1) C none)) (fun v H2 => v = .non ∧ ∃ (d : Addr) (fs : List (Str × V)), H2 (hp.objs.size + 1) = some (exo (hp.objs.size + 1) C (some d)) ∧ H2 d = some (exd d fs) ∧ H d = none ∧ Q (.ref C) (some d) (upd (del H2 (hp.objs.size + 1)) d (.xd fs))) (fun _ _ _ => False) := by
    refine ⟨_, pl, rfl, E.err, upd_same, ⟨a0, dp _ hn, w1, w2, w3, E.len, w5⟩, fun dx d1 d2 => ⟨rfl, dx, _, ?_, upd_same, ?_, ?_⟩⟩
    · rw [upd_ne (Ne.symm d2), upd_same]
    · rw [upd_ne d2] at d1
      exact d1
    · rw [upd_ne d2] at d1
      exact q _ dx hn d1
  refine wpAny_call (PySem.HandSPX.call_own F.excBase_ValueError (fun Y => PySem.HandSPX.refsVE_contains Y bm hbm) (I.kIn _ _ hC) (PySem.W.looks_findIn I.kIn hi) (fun self => PySem.W.bind_fn I.kIn self ti) (by rw [sizeLine_eq]; omega)
    (codeAny_mono (FI.go _ X.stack _ _ ⟨Value.ref (hp.objs.size + 1) :: us, []⟩ (Value.ref (hp.objs.size + 1) :: (us ++ ds)) _ _ (fun _ _ _ => False) hgd (hr.make C us []) (I2.env0.make C us []) (hb _ (Value.ref (hp.objs.size + 1) :: us) I2.kIn hl2) r2 hsp) fun res s' hq' => ?_))
  cases res with
  | error er =>
    obtain ⟨_, _, _, _, _, _, _, _, _, _, _, _, z⟩ := hq'
    exact z.elim
  | ok fl =>
    cases fl with
    | ret u =>
      obtain ⟨v, H2, os2, bare2, un2, hok2, rv, ev, d, fs, ea, ed, hd1, q2⟩ := hq'
      subst ev
      obtain ⟨h2, g2, d2, t2, os'⟩ := s'
      exact ⟨rv, mk_end (raises_own E.err.oex.exC E.err.oex.tyC) I hsz kk un2 hok2 os2 bare2 ea ed hd1 q2⟩
    | next => exact False.elim hq'
    | brk => exact False.elim hq'
    | cont => exact False.elim hq'
theorem showsD_of {d : D} {G : Hq} (h : showsD d G = true) : ∃ a, toPy G 24 d = some a ∧ a.showable = true ∧ a.hasDict = false ∧ a.depth ≤ 60 ∧ a.shown.length ≤ 16000000 := by
  unfold showsD at h
  split at h
  · rename_i a e
    exact ⟨a, e, of_decide_eq_true h⟩
  · cases h
/-- raise X(e) -/
theorem xs_raise {x : Str} {a : Expr} {fa : EF} {p p2 pos : Pos} (E : ErrD X.prog X.w X.K X.mg X.base x T C) (Cx0 : Ctx X W k) (tk : Takes X (fun cls d σ H => W σ cls d H)) (ha : PE X a (tE X W fa)) (hk : 3 ≤ k := by decide) (hg : Gl X x := by rfl) (hdb : (x == ("__debug__" : Str)) = false := by decide)
    (he : starEach [a] X.env = (false, eval a X.env) :: starEach [] X.env := by rfl) (hpl : (backTo p2 (starEach [] X.env)).any (·.1) = false := by rfl) : PS X (.Raise (some (.Call (.Name x p) [a] [] p2)) none pos) (tS X W (raiseC x fa)) := by
  refine ⟨fun pins s σ H Dd I ⟨m, σ', G, S, R, q⟩ => (ps_raise (W := fun cls d σ H => W σ cls d H) (t := fun σ H Q => tE X W fa σ H fun v H1 => ∃ m1 G1 d, Sim X.K m1 G1 H1 ∧ VR X.K m1 H1 d v ∧ showsD d G1 = true ∧
    ∀ m' H' e', Xt X.K m1 H1 m' H' → Sim X.K m' (G1 ++ [errX x d]) H' → m'[G1.length]? = some e' → Q (.ref C) (some e') H') Cx0.calm tk ?_).run pins s σ H Dd I ?_⟩
  · intro pins s σ H Q I h
    obtain ⟨f, fd, ds, hi, ti, FI, hb, _⟩ := E.ini
    refine wpAny_Call_Name_kw (ld_glob I hg E.at_ ?_ hdb)
    refine PySem.W.callWith_K (h₀ := X.base) I.ok.mod.kin E.keep ?_ he hpl
    rw [he]
    show wpAny _ _ (spliced ((false, eval a X.env) :: backTo p2 (starEach [] X.env))) _ _ s
    refine Calls.spliced_cons (thn (ha.run pins s σ H _ I h) fun u s1 ⟨v, H1, I1, r1, m1, G1, d, S1, rd, sh, q1⟩ => ?_)
    refine Calls.spliced_nil ⟨I1.kIn, ?_⟩
    show wpAny _ _ (call (.ref C) [u]) _ _ _
    obtain ⟨a0, e0, w1, w2, w3, w5⟩ := showsD_of sh
    refine pmk_err (us := [u]) (vs := [v]) (ds := []) E Cx0 hk I1 hi ti FI hb (.cons r1 .nil) (fun b => .cons rfl (.cons r1 .nil)) (Nat.le_refl _) (a0 := a0) (fun b hb' => ?_) w1 w2 w3 w5 (fun b dx h1 h2 => ?_)
    · exact toPy_dp (S1.more hb') 24 d v a0 (rd.mono (xt_more hb')) e0
    · exact made_sim S1 rd h1 h2 q1
  · refine ⟨m, σ', G, S, R, (PostS.bnd (R := VR X.K) R q).imp fun v H1 ⟨m1, G1, d, e1, S1, r1, _, h1⟩ => ?_⟩
    by_cases hs : showsD d G1 = true
    · rw [if_pos hs] at h1
      exact ⟨m1, G1, d, S1, r1, hs, fun m' H' e' x1 x2 x3 => h1 m' H' σ C e' x1 x2 ((R.mono e1).mono x1) E.at_ x3⟩
    · rw [if_neg hs] at h1
      exact h1.elim
/-- raise X() -/
theorem xs_raise0 {x : Str} {p p2 pos : Pos} (E : ErrD X.prog X.w X.K X.mg X.base x T C) (Cx0 : Ctx X W k) (tk : Takes X (fun cls d σ H => W σ cls d H)) (hk : 3 ≤ k := by decide) (hg : Gl X x := by rfl) (hdb : (x == ("__debug__" : Str)) = false := by decide) :
    PS X (.Raise (some (.Call (.Name x p) [] [] p2)) none pos) (tS X W (raise0C x)) := by
  refine ⟨fun pins s σ H Dd I ⟨m, σ', G, S, R, q⟩ => (ps_raise (W := fun cls d σ H => W σ cls d H) (t := fun σ H Q => ∃ m1 G1, Sim X.K m1 G1 H ∧
    ∀ m' H' e', Xt X.K m1 H m' H' → Sim X.K m' (G1 ++ [errX x .non]) H' → m'[G1.length]? = some e' → Q (.ref C) (some e') H') Cx0.calm tk ?_).run pins s σ H Dd I ?_⟩
  · intro pins s σ H Q I h
    obtain ⟨f, fd, ds, hi, ti, FI, _, hb, hv⟩ := E.ini
    obtain ⟨m1, G1, S1, q1⟩ := h
    refine wpAny_Call_Name_kw (ld_glob I hg E.at_ ?_ hdb)
    refine PySem.W.callWith_K0 I.kIn E.keep ?_
    show wpAny _ _ (call (.ref C) []) _ _ _
    refine pmk_err (us := []) (vs := []) (ds := ds) (pl := .non) E Cx0 hk I hi ti FI hb .nil (fun b => .cons rfl hv) (Nat.zero_le _) (a0 := .none) (fun b hb' => ?_) rfl rfl (by decide) (by decide) (fun b dx h1 h2 => ?_)
    · exact .non
    · exact made_sim S1 .non h1 h2 q1
  · exact ⟨m, G, S, fun m' H' e' x1 x2 x3 => q m' H' σ C e' x1 x2 (R.mono x1) E.at_ x3⟩
end
end SX

set_option Elab.async false
set_option linter.all false
set_option maxRecDepth 100000
set_option maxHeartbeats 1000000
namespace SX
open PySem PySem.Spec PyProof.Rows L2 ClX
/-! ### try -/
theorem exi_ok {P : Program} {w : World} {H : Hp} {h : Heap} {a C dd : Addr} {oe : Obj} {vs : Array Value} (h1 : h.get? a = some oe) (h2 : oe.cls = .ref C) (h3 : oe.dict = some dd) (h4 : oe.data = .fields vs) : ObjOk P w H h a (exi a C dd) :=
  ⟨⟨oe, vs, h1, h2, h3, h4⟩, ⟨_, h1⟩, fun x y z k => by
    obtain ⟨oe, vs, q1, q2, q3, q4⟩ := z
    exact ⟨oe, vs, k _ q1, q2, q3, q4⟩⟩
theorem exi_at {P : Program} {w : World} {H : Hp} {h : Heap} {a C dd : Addr} (hok : HOk P w H h) (e : H a = some (exi a C dd)) : ∃ (oe : Obj) (vs : Array Value), h.get? a = some oe ∧ oe.cls = .ref C ∧ oe.dict = some dd ∧ oe.data = .fields vs := by
  have x : ObjOk P w H h a (.ext fun h => ∃ (oe : Obj) (vs : Array Value), h.get? a = some oe ∧ oe.cls = .ref C ∧ oe.dict = some dd ∧ oe.data = .fields vs) := hok a _ e
  exact x.1
section
variable {X : Cx} {pins : List (Addr × Obj)} {σ : L2.St} {H : Hp} {s : Shared}
/-- an object that stands untracked is tracked from here on -/
theorem Inv.track {a : Addr} {o : HO} (I : L2.Inv X pins σ H s) (n0 : X.s_0.heap.get? a = none) (na : H a = none) (nL : a ≠ X.env.locals) (nc : ∀ x c, X.env.cells.lookup x = some c → c ≠ a) (np : ∀ p ∈ X.pn ++ pins, p.1 ≠ a) (ok : ObjOk X.prog X.w (upd H a o) s.heap a o) : L2.Inv X pins σ (upd H a o) s := by
  refine ⟨I.ok, I.os, I.bare, ⟨I.base.keep, I.base.slot, fun b ob e n hx => ?_, I.base.there, fun b xs e => ?_, fun b ob u e => ?_, fun b ps e => ?_⟩, I.loc, I.cell, ?_, fun x c e => ?_, fun p hp => ?_, fun b ob e => ?_, I.len⟩
  · have hb : b ≠ a := fun z => by
      rw [z, n0] at e
      cases e
    rw [upd_ne hb]
    exact I.base.free b ob e n hx
  · have q := I.base.tups b xs e
    rw [upd_ne (ne_of_none q na)]
    exact q
  · have q := I.base.frzs b ob u e
    rw [upd_ne (ne_of_none q na)]
    exact q
  · obtain ⟨more, q⟩ := I.base.tbls b ps e
    exact ⟨more, by rw [upd_ne (ne_of_none q na)]; exact q⟩
  · rw [upd_ne (Ne.symm nL)]
    exact I.free
  · rw [upd_ne (nc x c e)]
    exact I.freeC x c e
  · obtain ⟨q1, q2, q3⟩ := I.pin p hp
    exact ⟨q1, by rw [upd_ne (np p hp)]; exact q2, q3⟩
  · by_cases hb : b = a
    · subst hb
      rw [upd_same] at e
      cases e
      exact ok
    · rw [upd_ne hb] at e
      exact (I.hok b ob e).stay (fun _ _ _ q => q) (fun c q => by rw [upd_ne (ne_of_none q na)]; exact q) (fun c xs q => by rw [upd_ne (ne_of_none q na)]; exact q)
end
/-- one clause: the class that it names (as classes of errors answer it), the slot, the suite (by the error's class and its dict's cell) -/
structure Hd where
  cl : Str → Option Bool
  slot : Nat
  suite : SF
def clr (n : Nat) (r : Sr) : Sr := match r with
  | .nx σ G => .nx (σ.set n none) G
  | .bk σ G => .bk (σ.set n none) G
  | .ct σ G => .ct (σ.set n none) G
  | .rt d G => .rt d G
  | .ex _ _ _ _ => .bad
  | .bad => .bad
def goHd : List Hd → Str → Nat → Eq' → Hq → Sr
  | [], c, i, σ, G => .ex c i σ G
  | h :: r, c, i, σ, G => match h.cl c with
    | none => .bad
    | some true => clr h.slot (h.suite (σ.set h.slot (some (.ref G.length))) (G ++ [.ins c [(Str.empty, .ref i)]]))
    | some false => goHd r c i σ G
def tryC (b : SF) (hs : List Hd) : SF := fun σ G => match b σ G with
  | .ex c i σ1 G1 => goHd hs c i σ1 G1
  | .nx σ1 G1 => .nx σ1 G1
  | .rt d G1 => .rt d G1
  | .bk σ1 G1 => .bk σ1 G1
  | .ct σ1 G1 => .ct σ1 G1
  | .bad => .bad
/-- the context of a suite that reads the error -/
abbrev sctx (X : Cx) (a : Addr) (pn : List (Addr × Obj)) : Cx := X.suite a pn
/-- a clause means h -/
structure HdOk (X : Cx) (x n : Str) (c : Value) (b : List Stmt) (h : Hd) : Prop where
  nm : Names X x c
  slot : X.N[h.slot]? = some n
  loc : X.env.kindOf n = some .local
  ne : b ≠ []
  cl : ∀ k r, h.cl k = some r → X.mg k = some (.ref (He.ga X.K k)) ∧ PySem.W.exmOne X.K (.ref (He.ga X.K k)) c = some r
  suite : ∀ (a : Addr) (pn : List (Addr × Obj)), PSs (sctx X a pn) b (tS (sctx X a pn) (fun _ => W0) h.suite)
inductive HdsX (X : Cx) : List ExceptHandler → List (Value × Hd) → Prop
  | nil : HdsX X [] []
  | cons {x n : Str} {c : Value} {b : List Stmt} {h : Hd} {np pos' : Pos} {hds : List ExceptHandler} {l : List (Value × Hd)} (hc : HdOk X x n c b h) (r : HdsX X hds l) : HdsX X (.ExceptHandler (some (.Name x np)) (some n) b pos' :: hds) ((c, h) :: l)
/-- what the clauses wish of an exception of the body -/
def wTry (K : PySem.W.Frag) (mg : Str → Option Value) (Wout : L2.St → XW) (D : Ends) : List (Value × Hd) → WX
  | [] => fun cls d σ H => Wout σ cls d H
  | (c, h) :: r => fun cls d σ H => ∃ b, PySem.W.exmOne K cls c = some b ∧
      (b = true → ∃ (C dd : Addr), cls = .ref C ∧ d = some dd ∧ ∀ a, H a = none → ∃ m σ' G, Sim K m G (upd H a (exi a C dd)) ∧ SR K m (upd H a (exi a C dd)) σ' (σ.set h.slot (some (.ref a))) ∧
        PostS K mg (fun _ => W0) m (upd H a (exi a C dd)) (h.suite σ' G) { nx := fun σ' H' => D.nx (σ'.set h.slot none) H', rt := D.rt, bk := fun σ' H' => D.bk (σ'.set h.slot none) H', ct := fun σ' H' => D.ct (σ'.set h.slot none) H' }) ∧
      (b = false → wTry K mg Wout D r cls d σ H)
section
variable {X : Cx} {W : L2.St → XW} {k : Nat}
theorem SR.wipe1 {K : PySem.W.Frag} {m : List Addr} {H : Hp} {σ' : Eq'} {σ : L2.St} (R : SR K m H σ' σ) (n : Nat) : SR K m H (σ'.set n none) (σ.set n none) := by
  refine ⟨by rw [List.length_set, List.length_set]; exact R.1, fun j x e => ?_⟩
  by_cases hj : j = n
  · subst hj
    by_cases hl : j < σ'.length
    · rw [List.getElem?_set_self hl] at e
      cases e
    · rw [List.getElem?_eq_none (by simpa using hl)] at e
      cases e
  · rw [List.getElem?_set_ne (Ne.symm hj)] at e
    rw [List.getElem?_set_ne (Ne.symm hj)]
    exact R.2 j x e
theorem clr_post {K : PySem.W.Frag} {mg : Str → Option Value} {m : List Addr} {H : Hp} {r : Sr} {n : Nat} {D : Ends} (q : PostS K mg W m H (clr n r) D) :
    PostS K mg (fun _ => W0) m H r { nx := fun σ' H' => D.nx (σ'.set n none) H', rt := D.rt, bk := fun σ' H' => D.bk (σ'.set n none) H', ct := fun σ' H' => D.ct (σ'.set n none) H' } := by
  cases r with
  | nx σ1 G1 => exact fun m' H' σ x s r => q m' H' _ x s (r.wipe1 n)
  | rt d G1 => exact q
  | bk σ1 G1 => exact fun m' H' σ x s r => q m' H' _ x s (r.wipe1 n)
  | ct σ1 G1 => exact fun m' H' σ x s r => q m' H' _ x s (r.wipe1 n)
  | ex _ _ _ _ => exact q.elim
  | bad => exact q.elim
theorem go_try {hds : List ExceptHandler} {l : List (Value × Hd)} (hh : HdsX X hds l) {c : Str} {i : Nat} {σ1 : Eq'} {G1 : Hq} {m : List Addr} {H : Hp} {D : Ends} (q : PostS X.K X.mg W m H (goHd (l.map (·.2)) c i σ1 G1) D) :
    ∀ m' H' σ Ca a, Xt X.K m H m' H' → Sim X.K m' G1 H' → SR X.K m' H' σ1 σ → X.mg c = some (.ref Ca) → m'[i]? = some a → wTry X.K X.mg W D l (.ref Ca) (some a) σ H' := by
  induction hh with
  | nil => exact q
  | @cons x n cv b h np pos' hds l hc r ih =>
    have q' : PostS X.K X.mg W m H (match h.cl c with
      | none => .bad
      | some true => clr h.slot (h.suite (σ1.set h.slot (some (.ref G1.length))) (G1 ++ [.ins c [(Str.empty, .ref i)]]))
      | some false => goHd (l.map (·.2)) c i σ1 G1) D := q
    cases e : h.cl c with
    | none => rw [e] at q'; exact q'.elim
    | some t =>
      rw [e] at q'
      obtain ⟨hm, he⟩ := hc.cl c t e
      cases t with
      | true =>
        intro m' H' σ Ca a x S R hCa ha
        rw [hm] at hCa
        cases hCa
        refine ⟨true, he, fun _ => ⟨_, a, rfl, rfl, fun ae hae => ?_⟩, fun z => absurd z (by simp)⟩
        have xp := xt_push (K := X.K) (m := m') (o := exi ae (He.ga X.K c) a) hae
        have ha' : (m' ++ [ae])[i]? = some a := xp.at ha
        refine ⟨m' ++ [ae], σ1.set h.slot (some (.ref G1.length)), G1 ++ [.ins c [(Str.empty, .ref i)]], S.push (c := .ins c [(Str.empty, .ref i)]) hae ⟨a, i, rfl, ha', upd_same⟩, (R.mono xp).put _ (.ref (by rw [← S.len]; simp)), ?_⟩
        exact clr_post (PostS.shift q' (x.trans xp))
      | false =>
        intro m' H' σ Ca a x S R hCa ha
        have hCa' := hCa
        rw [hm] at hCa'
        cases hCa'
        exact ⟨false, he, fun z => absurd z (by simp), fun _ => ih q' m' H' σ _ a x S R hCa ha⟩
theorem Inv.unsuite0 {a : Addr} {pins pn' : List (Addr × Obj)} {σ : L2.St} {H : Hp} {s : Shared} (I : L2.Inv (X.suite a (X.pn ++ pins)) pn' σ H s) (ok : X.Ok) : L2.Inv X pins σ H s :=
  ⟨ok, I.os, I.bare, I.base, I.loc, I.cell, I.free, I.freeC, fun p hp => I.pin p (List.mem_append_left _ hp), I.hok, I.len⟩
theorem Inv.suite1 {a : Addr} {q : Addr × Obj} {pins : List (Addr × Obj)} {σ : L2.St} {H : Hp} {s : Shared} (I : L2.Inv (X.suite a (q :: (X.pn ++ pins))) [] σ H s) (ok : X.Ok) : L2.Inv (X.suite a (X.pn ++ pins)) [] σ H s :=
  ⟨ok.suite _ _, I.os, I.bare, I.base, I.loc, I.cell, I.free, I.freeC, fun p hp => I.pin p (List.mem_append_left _ (List.mem_cons_of_mem _ (by simpa using hp))), I.hok, I.len⟩
theorem xs_try {body : List Stmt} {h₀ : ExceptHandler} {hds : List ExceptHandler} {l : List (Value × Hd)} {pos : Pos} {fb : SF} (hs : X.stack = X.env :: X.outer) (hf : X.env.frame = some X.env.locals) (tk : Takes X (fun cls d σ H => W σ cls d H)) (hN : X.N.Nodup) (hex : X.ex = [])
    (hb : ∀ (W' : WX) (pn : List (Addr × Obj)) (xe : Value → Shared → Prop), Takes (X.tr pn xe) W' → PassesOwn (model X.prog X.w) X.A X.env xe → PSs (X.tr pn xe) body (tS (X.tr pn xe) (fun σ cls d H => W' cls d σ H) fb))
    (hh : HdsX X (h₀ :: hds) l) : PS X (.Try body (h₀ :: hds) [] [] pos) (tS X W (tryC fb (l.map (·.2)))) := by
  refine ⟨fun pins s σ H D I h => ?_⟩
  have ok := I.ok
  have hfr : X.A.frames = some (X.env :: X.outer) := by rw [ok.frames, hs]
  have h' : tS X (fun σ cls d H => wTry X.K X.mg W D l cls d σ H) fb D σ H := by
    obtain ⟨m, σ', G, S, R, q⟩ := h
    refine ⟨m, σ', G, S, R, ?_⟩
    unfold tryC at q
    cases e : fb σ' G with
    | nx σ1 G1 => rw [e] at q; exact q
    | rt d G1 => rw [e] at q; exact q
    | bk σ1 G1 => rw [e] at q; exact q
    | ct σ1 G1 => rw [e] at q; exact q
    | ex c i σ1 G1 => rw [e] at q; exact go_try hh q
    | bad => rw [e] at q; exact q
  refine wpAny_Try_except ?_
  refine wpAny_mono ((hb (wTry X.K X.mg W D l) (X.pn ++ pins) (fun e s₁ => wpAny (model X.prog X.w) X.A (noteFrame e X.env) (fun _ s₂ => wpAny (model X.prog X.w) X.A (setFlight e none) (fun _ s₃ =>
    wpAny (model X.prog X.w) X.A (handleBy e X.env (h₀ :: hds)) (SP X pins D) X.xe s₃) X.xe s₂) X.xe s₁) (fun u s' xx => ?_) PassesOwn.looking).run [] s σ H D (I.toTry _) h') (fun f s1 hsp => ?_) (fun e s1 he => he)
  · -- the catch
    obtain ⟨a, B, sI, pins', σ', H', cls, d, rfl, J', nb, up, sky, na, os, ag, w⟩ := xx
    have J : L2.Inv X pins σ' H' sI := J'.ofTry ok
    have sky' : Sky B (X.env :: X.outer) a (Zc cls d) X.env.locals s'.heap := by rw [← hs]; exact sky
    show wpAny (model X.prog X.w) X.A (noteFrame (.ref a) X.env) _ _ _
    refine Sky.land Zc.steady hfr hf sky' fun h3 fl3 up3 => ?_
    have J3 : L2.Inv X pins σ' H' { s' with heap := h3 } := J.landed nb fl3.1 (up.trans up3) os ag
    obtain ⟨oe3, vs3, he3, hz3, hd3⟩ := fl3.there
    have notFr : ∀ {h : Heap} {o : Obj} {vs : Array Value}, h.FunFrames B (X.env :: X.outer) → h.get? a = some o → o.data = .fields vs → a ∉ frs (X.env :: X.outer) := fun {h o vs} ff e dd hm => by
      obtain ⟨_, o', e', hnf⟩ := ff.mem hm
      rw [e] at e'; cases e'
      exact hnf _ dd
    have nfr := notFr fl3.2.2.1 he3 hd3
    have nL : a ≠ X.env.locals := fun z => nfr (List.mem_filterMap.mpr ⟨X.env, List.mem_cons_self, by rw [hf, z]⟩)
    have nF : a ∉ X.fs := fun hm => by
      obtain ⟨e, he, q⟩ := List.mem_filterMap.mp hm
      exact nfr (List.mem_filterMap.mpr ⟨e, List.mem_cons_of_mem _ he, q⟩)
    have notB : B.get? a = none := fl3.2.1
    have nst : a ∉ frs X.stack := by rw [hs]; exact nfr
    have noI : sI.heap.get? a = none := by
      cases q : sI.heap.get? a with
      | none => rfl
      | some o =>
        have z := nb a o q nst
        rw [notB] at z
        cases z
    have n0 : X.s_0.heap.get? a = none := by
      cases q : X.s_0.heap.get? a with
      | none => rfl
      | some o =>
        obtain ⟨o', z⟩ := J.base.there a o q (by rw [hex]; simp)
        rw [noI] at z
        cases z
    have go : ∀ {hds' : List ExceptHandler} {l' : List (Value × Hd)}, HdsX X hds' l' → wTry X.K X.mg W D l' cls d σ' H' → wpAny (model X.prog X.w) X.A (handleBy (.ref a) X.env hds') (SP X pins D) X.xe { s' with heap := h3 } := by
      intro hds' l' hk
      induction hk with
      | nil =>
        intro w
        refine wpAny_handleBy_nil ?_
        obtain ⟨k1, k2, k3, oe, vs, T, oT, ts', he, hz, hd, h1, hr⟩ := id fl3
        unfold PySem.passOn
        refine wpAny_bind (wpAny_field he hd h1 ?_)
        rw [if_neg (show ¬ ((Value.ref T == Value.none) = true) from by simp)]
        have fin : wpAny (model X.prog X.w) X.A (setFlight (.ref a) X.env.frame) (fun _ s4 => wpAny (model X.prog X.w) X.A (throw (.ref a) : Sem Flow) (SP X pins D) X.xe s4) X.xe { s' with heap := h3 } := by
          rw [hf]
          refine HandSPX.setFlight_upZ fl3 fun h4 hh4 up4 => wpAny_throw (tk _ _ ?_)
          exact ⟨a, B, sI, pins, σ', H', cls, d, rfl, J, nb, (up.trans up3).trans up4, .inr (.inr (by rw [hs]; exact hh4)), na, os, ag, w⟩
        first
          | exact wpAny_bind (wpAny_pure (wpAny_bind fin))
          | exact wpAny_bind fin
      | @cons x n c b hd np pos' hds2 l2 hc r ih =>
        intro w
        obtain ⟨t, hb1, hyes, hno⟩ := w
        obtain ⟨b₀, suite, rfl⟩ : ∃ b₀ suite, b = b₀ :: suite := by
          cases b with
          | nil => exact absurd rfl hc.ne
          | cons y ys => exact ⟨y, ys, rfl⟩
        refine wpAny_handleBy_cons (codeAny_handlers_test ?_) (by intro q; cases q)
        have S3 := J3.suite he3 hd3 na nL nF
        have LT : PySem.W.Looks (model X.prog X.w) h3 (typeOf (.ref a)) cls := fun A Q E s k q => wpAny_typeOf_ref (k _ _ he3) (by rw [hz3.1]; exact q)
        have LM := PySem.W.exm_one (M := model X.prog X.w) (J3.kIn) LT hb1
        have test : ∀ {Q : Value → Shared → Prop} {E : Value → Shared → Prop}, Q c { s' with heap := h3 } → wpAny (model X.prog X.w) (X.A.mark (some (.ref a))) (eval (.Name x np) X.env) Q E { s' with heap := h3 } := fun {Q E} q => by
          obtain ⟨hg, hdbg, hm | ⟨hm, hv, hnn⟩⟩ := hc.nm
          · exact ld_glob (X := X.suite a ((a, oe3) :: (X.pn ++ pins))) S3 hg hm q hdbg
          · exact ld_blt (X := X.suite a ((a, oe3) :: (X.pn ++ pins))) S3 hg hm hv q hnn hdbg
        refine test (LM.here ?_)
        cases t with
        | true =>
          refine codeAny_handlers_suite_as ?_
          refine HandSPX.lands_againZ fl3 fun h4 fl4 up4 => ?_
          have J4 : L2.Inv X pins σ' H' { s' with heap := h4 } := J.landed nb fl4.1 ((up.trans up3).trans up4) os ag
          obtain ⟨oe4, vs4, he4, hz4, hd4⟩ := fl4.there
          have S4 := J4.suite he4 hd4 na nL nF
          refine store_ok (X := X.suite a ((a, oe4) :: (X.pn ++ pins))) (v := .ref a) S4 hN hc.slot (.inl hc.loc) rfl (fun s5 S5 => ?_) (.inr hc.loc)
          obtain ⟨C, dd, rfl, rfl, hall⟩ := hyes rfl
          have ho5 : s5.heap.get? a = some oe4 := (S5.pin (a, oe4) (by simp)).1
          have hc5 : ∀ y cc, X.env.cells.lookup y = some cc → cc ≠ a := fun y cc e z => by
            obtain ⟨v, o, q1, q2⟩ := S5.cell y cc e
            rw [z, ho5] at q1
            cases q1
            rw [hd4] at q2
            cases q2
          have np5 : ∀ p ∈ (X.pn ++ pins) ++ ([] : List (Addr × Obj)), p.1 ≠ a := fun p hp z => by
            have q := (J.pin p (by simpa using hp)).1
            rw [z, noI] at q
            cases q
          have S6 : L2.Inv (X.suite a (X.pn ++ pins)) [] (σ'.set hd.slot (some (V.ref a))) (upd H' a (exi a C dd)) s5 :=
            Inv.track (Inv.suite1 S5 ok) n0 na nL hc5 np5 (exi_ok ho5 hz4.1 hz4.2 hd4)
          refine wpAny_mono ((hc.suite a (X.pn ++ pins)).run [] s5 _ _ _ S6 (hall a na)) (fun f s6 hsp => ?_) (fun _ _ z => False.elim z)
          have end_ : ∀ {σ6 : L2.St} {H6 : Hp} {Q : Shared → Prop}, L2.Inv (X.suite a (X.pn ++ pins)) [] σ6 H6 s6 → (∀ s7, L2.Inv X pins (σ6.set hd.slot none) H6 s7 → Q s7) →
              wpAny (model X.prog X.w) X.A (do bindName X.env n .none; unbindBehindTheSuite X.env n pos') (fun _ s7 => Q s7) X.xe s6 := fun {σ6 H6 Q} S6 hq => gone_ok (Inv.unsuite0 S6 ok) hN hc.slot hc.loc hq
          cases f with
          | next =>
            obtain ⟨σ6, H6, S6, q6⟩ := hsp
            exact end_ S6 fun s7 J7 => ⟨_, _, J7, q6⟩
          | brk =>
            obtain ⟨σ6, H6, S6, q6⟩ := hsp
            exact end_ S6 fun s7 J7 => ⟨_, _, J7, q6⟩
          | cont =>
            obtain ⟨σ6, H6, S6, q6⟩ := hsp
            exact end_ S6 fun s7 J7 => ⟨_, _, J7, q6⟩
          | ret u =>
            obtain ⟨v6, σ6, H6, S6, r6, q6⟩ := hsp
            exact end_ S6 fun s7 J7 => ⟨_, _, _, J7, r6, q6⟩
        | false =>
          show wpAny _ X.A (handleBy (.ref a) X.env hds2) _ _ _
          exact ih (hno rfl)
    exact go hh w
  · cases f with
    | next =>
      obtain ⟨σ', H', J', q⟩ := hsp
      exact wpAny_execs_nil ⟨σ', H', J'.ofTry ok, q⟩
    | brk =>
      obtain ⟨σ', H', J', q⟩ := hsp
      exact ⟨σ', H', J'.ofTry ok, q⟩
    | cont =>
      obtain ⟨σ', H', J', q⟩ := hsp
      exact ⟨σ', H', J'.ofTry ok, q⟩
    | ret u =>
      obtain ⟨v, σ', H', J', r, q⟩ := hsp
      exact ⟨v, σ', H', J'.ofTry ok, r, q⟩
end
end SX

set_option Elab.async false
set_option linter.all false
set_option maxRecDepth 100000
set_option maxHeartbeats 1000000
namespace SX
open PySem PySem.Spec PyProof.Rows L2 ClX
/-! ### an error's fields, its class asked -/
def errOf (G : Hq) (d : D) : Option (Str × List (Str × D)) := match d with
  | .ref j => match G[j]? with
    | some (.ins c [(_, .ref i)]) => match G[i]? with
      | some (.xd fs) => some (c, fs)
      | _ => none
    | _ => none
  | _ => none
def fldC (kn : Str → Bool) (f : Str) (e : EF) : EF := fun σ G => (e σ G).bind fun x G1 => match errOf G1 x with
  | some (c, fs) => if kn c then oneD (fs.lookup f) G1 else .bad
  | none => .bad
def isEC (cl : Str → Option Bool) (e : EF) : EF := fun σ G => (e σ G).bind fun x G1 => match errOf G1 x with
  | some (c, _) => match cl c with
    | some b => .ok (.bl b) G1
    | none => .bad
  | none => .bad
section
variable {X : Cx} {W : L2.St → XW} {k : Nat}
theorem vrk_lookup {K : PySem.W.Frag} {m : List Addr} {H : Hp} {f : Str} : ∀ {fs : List (Str × D)} {vs : List (Str × V)}, VRk K m H fs vs → (fs.lookup f = none ∧ vs.lookup f = none) ∨ ∃ d v, fs.lookup f = some d ∧ vs.lookup f = some v ∧ VR K m H d v
  | _, _, .nil => .inl ⟨rfl, rfl⟩
  | _, _, .cons (k := k) (x := x) (v := v) r t => by
    by_cases h : f = k
    · subst h
      exact .inr ⟨x, v, by simp [List.lookup], by simp [List.lookup], r⟩
    · have e : (f == k) = false := by simpa using h
      simp only [List.lookup, e]
      exact vrk_lookup t
/-- what an error's value is -/
theorem err_at {m : List Addr} {G : Hq} {H : Hp} {d : D} {v : V} {c : Str} {fs : List (Str × D)} (S : Sim X.K m G H) (r : VR X.K m H d v) (e : errOf G d = some (c, fs)) :
    ∃ a dd vs, v = .ref a ∧ H a = some (exi a (He.ga X.K c) dd) ∧ H dd = some (.xd vs) ∧ VRk X.K m H fs vs := by
  cases r with
  | @ref j a hj =>
    have e' : (match G[j]? with
      | some (.ins c [(_, .ref i)]) => (match G[i]? with
        | some (.xd fs) => some (c, fs)
        | _ => none)
      | _ => none) = some (c, fs) := e
    split at e'
    · rename_i c' z i hG
      split at e'
      · rename_i fs' hi
        cases e'
        obtain ⟨dd, i', e1, e2, e3⟩ := S.cell j a _ hj hG
        cases e1
        obtain ⟨vs, q1, q2⟩ := S.cell i dd _ e2 hi
        exact ⟨a, dd, vs, rfl, e3, q1, q2⟩
      · cases e'
    · cases e'
  | _ => cases e
theorem err_inst {pins : List (Addr × Obj)} {σ : L2.St} {s : Shared} {H : Hp} {a C dd : Addr} {vs : List (Str × V)} (I : L2.Inv X pins σ H s) (h1 : H a = some (exi a C dd)) (h2 : H dd = some (.xd vs)) :
    ∃ oe od mA, PySem.W.InstAt s.heap a oe C (some od) ∧ s.heap.Ns1 dd mA ∧ (∀ f, RelO (vs.lookup f) (mA f)) ∧ s.heap.get? dd = some od ∧ ∀ f, PySem.W.lookIn f od = some (mA f) := by
  obtain ⟨oe, ves, q1, q2, q3, q4⟩ := exi_at I.hok h1
  have hx : ObjOk X.prog X.w H s.heap dd (.xd vs) := I.hok dd _ h2
  obtain ⟨mA, hns, hr⟩ := hx
  obtain ⟨od, ho, hl⟩ := lookIn_ns hns
  exact ⟨oe, od, mA, ⟨q1, q2, by unfold PySem.W.notCls; rw [q4] <;> rfl, by rw [q3]; exact ho⟩, hns, hr, ho, fun f => hl f⟩
theorem xe_fld {kn : Str → Bool} {f : Str} {e : Expr} {fe : EF} {pos : Pos} (he : PE X e (tE X W fe)) (hk : ∀ c, kn c = true → XfC X.K (He.ga X.K c) ∧ PySem.W.findIn X.K (.ref (He.ga X.K c)) f = some none)
    (hb : attributeBase e f X.env (eval e X.env) = eval e X.env := by rfl) : PE X (.Attribute e f pos) (tE X W (fldC kn f fe)) := by
  refine ⟨fun pins s σ H Q I ⟨m, σ', G, S, R, q⟩ => ?_⟩
  refine attr_of hb (thn (he.run pins s σ H _ I ⟨m, σ', G, S, R, PostR.bnd (R := VR X.K) q⟩) fun u s1 hh => ?_)
  obtain ⟨v, H1, I1, rv, m1, G1, d, e1, S1, r1, _, h1⟩ := hh
  split at h1
  · rename_i c fs hd
    by_cases hkc : kn c = true
    · rw [if_pos hkc] at h1
      obtain ⟨T, hno⟩ := hk c hkc
      obtain ⟨a, dd, vs, rfl, q1, q2, q3⟩ := err_at S1 r1 hd
      obtain rfl : u = Value.ref a := rv
      obtain ⟨oe, od, mA, J, hns, hr, ho, hl⟩ := err_inst I1 q1 q2
      rcases vrk_lookup (f := f) q3 with ⟨z, _⟩ | ⟨d', v', z1, z2, z3⟩
      · rw [z] at h1
        exact h1.elim
      · rw [z1] at h1
        obtain ⟨u', hu, ru⟩ := RelO.some_of (v := v') (o := mA f) (by rw [← z2]; exact hr f)
        exact HandSPX.exc_get I1.kIn J T.ga T.gg T.exC (PySem.W.findObj_own T.hdC hno rfl (by rw [hl, hu])) (handed_of ru) ⟨v', H1, I1.tok _, ru, h1.here S1 z3⟩
    · rw [if_neg hkc] at h1
      exact h1.elim
  · exact h1.elim
/-- isinstance(e, T) of an error -/
theorem xe_isE {cl : Str → Option Bool} {e : Expr} {T : Str} {cv : V} {cu : Value} {pf pt pos : Pos} {fo : EF} (he : PE X e (tE X W fo)) (hm : X.mg "isinstance" = none) (pT : PE X (.Name T pt) (tC cv)) (hcv : ∀ u, RelV cv u → u = cu)
    (hc : ∀ c b, cl c = some b → ExcC X.K (He.ga X.K c) ∧ PySem.W.kitOne X.K (.ref (He.ga X.K c)) cu = some b) (hg : Gl X "isinstance" := by rfl) (hs : starEach [e, .Name T pt] X.env = (false, eval e X.env) :: starEach [.Name T pt] X.env := by rfl)
    (hs2 : starEach [.Name T pt] X.env = (false, eval (.Name T pt) X.env) :: starEach [] X.env := by rfl) (hpl : (backTo pos (starEach [.Name T pt] X.env)).any (·.1) = false := by rfl) : PE X (.Call (.Name "isinstance" pf) [e, .Name T pt] [] pos) (tE X W (isEC cl fo)) := by
  have pa : PA X [e, .Name T pt] (tCons (tE X W fo) (tCons (tC cv) tNil)) := pa_cons he (pa_cons pT pa_nil hs2) hs
  have cr : CallR X (.builtin "isinstance") (fun xs H Q => ∃ a C dd vs b, xs = [.ref a, cv] ∧ H a = some (exi a C dd) ∧ H dd = some (.xd vs) ∧ ExcC X.K C ∧ PySem.W.kitOne X.K (.ref C) cu = some b ∧ Q (.bl b) H) := by
    intro pins s σ H xs us Q I r h
    obtain ⟨a, C, dd, vs, b, rfl, h1, h2, hC, hk, q⟩ := h
    cases r with
    | cons rx rr =>
      cases rr with
      | cons rt rr =>
        cases rr
        cases rx
        have ec := hcv _ rt
        subst ec
        obtain ⟨oe, od, mA, J, _⟩ := err_inst I h1 h2
        refine PySem.W.kia_one (PySem.W.kitx_exc ?_ hC.hg hC.hk hC.hs hC.ha hC.hn hC.ht hC.hm) I.kIn J hk (fun z => nomatch z) fun tk => ⟨.bl b, H, I.tok _, rfl, q⟩
        have hd := hC.hd
        cases z : PySem.W.clsIn X.K C with
        | some cd => rfl
        | none =>
          unfold PySem.W.hasDictIn at hd
          rw [z] at hd
          cases hd
  refine ⟨fun pins s σ H Q I ⟨m, σ', G, S, R, q⟩ => (pe_callB cr hg hm (by decide +kernel) pa (by decide) (by decide) hs hpl).run pins s σ H Q I ?_⟩
  refine ⟨m, σ', G, S, R, (PostR.bnd (R := VR X.K) q).imp fun v H1 ⟨m1, G1, d, e1, S1, r1, _, h1⟩ => ?_⟩
  split at h1
  · rename_i c fs hd
    split at h1
    · rename_i b hb
      obtain ⟨hC, hk⟩ := hc c b hb
      obtain ⟨a, dd, vs, rfl, q1, q2, q3⟩ := err_at S1 r1 hd
      exact ⟨a, _, dd, vs, b, rfl, q1, q2, hC, hk, h1.here S1 (.bl b)⟩
    · exact h1.elim
  · exact h1.elim
end
end SX

set_option Elab.async false
set_option linter.all false
set_option maxRecDepth 100000
set_option maxHeartbeats 1000000
namespace SX
open PySem PySem.Spec PyProof.Rows L2 ClX
/-! ### the head's facts of the error classes -/
/-- the first def of a class -/
def clsInit (s : Stmt) : Stmt := match s with
  | .ClassDef _ _ _ (b :: _) _ _ _ _ _ _ _ => b
  | _ => .Pass ⟨0, 0, 0, 0⟩
structure ErD where
  x : Str
  qual : Str
  params : Arguments
  body : List Stmt
  scope : Scope
def ErD.C (d : ErD) (K : PySem.W.Frag) : Addr := He.ga K d.x
def ErD.f (d : ErD) (K : PySem.W.Frag) : Addr := He.ma K (He.ga K d.x) "__init__"
abbrev FnK : Type := Option (Str × Str × Arguments × FuncBody × Scope × Addr × List Str × Addr)
def fnK (K : PySem.W.Frag) (a : Addr) : FnK := match K.lookup a with
  | some ⟨_, _, .func fd, _⟩ => some (fd.name, fd.qualname, fd.params, fd.body, fd.scope, fd.globals, fd.closure.map (·.1), fd.builtins)
  | _ => none
def ErD.val (d : ErD) : FnK := some ("__init__", d.qual, d.params, .stmts d.body, d.scope, mainGlobals, ["__class__"], builtinsNs)
def clsB (K : PySem.W.Frag) (C : Addr) : Bool := match K.lookup C with
  | some ⟨.type "type", _, .cls cd, sl⟩ => (match cd.mro, sl.toList with
    | .ref C' :: bm, [_, _, _, _, some (.builtin n), _] => (C' == C && n == "ValueError.__new__") && (!cd.hasDel && (PySem.HandSPX.refsVE bm && cd.hasDict))
    | _, _ => false)
  | _ => false
def iniB (K : PySem.W.Frag) (fl : Str) (q : Str) (C f : Addr) : Bool := match K.lookup f with
  | some ⟨_, _, .func fd, _⟩ => (match fd.closure, fd.code with
    | [(_, cc)], .ref cda => PySem.W.codeIn K (.ref cda) q && (He.dflB K fd.defaults [.non] && ((match K.lookup cda with
        | some ⟨_, _, .fields vs, _⟩ => (match (vs[2]? : Option Value) with
          | some (Value.str file _) => fl == file
          | _ => false)
        | _ => false) && (match K.lookup cc with
        | some ⟨_, _, .cell (some (.ref D)), _⟩ => D == C
        | _ => false)))
    | _, _ => false)
  | _ => false
def errB (K : PySem.W.Frag) (fl : Str) (T : Addr) (d : ErD) : Bool :=
  He.eqO (PySem.W.nsIn K mainGlobals d.x) (some (some (.ref (d.C K)))) && (clsB K (d.C K) && (He.eqO (PySem.W.findIn K (.ref (d.C K)) "__setattr__") (some (some (.builtin "object.__setattr__"))) && (decide (PySem.W.subIn K (.ref (d.C K)) (.type "BaseException") = some true) &&
  (decide (PySem.W.typeIn K (.ref (d.C K)) = some (.type "type")) && (PySem.W.keepIn K (.ref (d.C K)) && (decide (PySem.W.mroIn K (d.C K) (.ref T) = some true) && (decide (PySem.W.mroIn K (d.C K) (.ref (d.C K)) = some true) &&
  (decide (PySem.W.ks_superIn K (d.C K) T "__init__" = some (some (.builtin "ValueError.__init__"))) && (decide (PySem.W.subIn K (.ref (d.C K)) (.type "ValueError") = some true) && (He.eqO (PySem.W.findIn K (.ref (d.C K)) "word") (some none) && (He.eqO (PySem.W.findIn K (.ref (d.C K)) "place") (some none) &&
  (He.eqO (PySem.W.findIn K (.ref (d.C K)) "__init__") (some (some (.ref (d.f K)))) && (decide (PySem.W.typeIn K (.ref (d.f K)) = some (.type "function")) && (PySem.W.fnIn K (d.f K) && iniB K fl d.qual (d.C K) (d.f K)))))))))))))))
/-- for a class below T: what super() leads to -/
def supB (K : PySem.W.Frag) (fT : Addr) (d : ErD) : Bool := decide (PySem.W.ks_superIn K (d.C K) (d.C K) "__init__" = some (some (.ref fT)))
/-- how its fields are read, how isinstance asks it -/
def askB (K : PySem.W.Frag) (C : Addr) : Bool := xfB K C && (decide (PySem.W.findIn K (.ref C) "__class__" = some (some (.builtin "object.__class__"))) && (decide (PySem.W.specialIn K (.builtin "object.__class__") "__get__" = some (some (.builtin "getset_descriptor.__get__"))) &&
  (decide (PySem.W.takesIn K (.builtin "object.__class__") = some true) && decide (PySem.W.mroIn K C (.type "object") = some true))))
theorem askB_ok {K : PySem.W.Frag} {C : Addr} (h : askB K C = true) : XfC K C ∧ ExcC K C := by
  obtain ⟨h1, h⟩ := He.ba h
  obtain ⟨h2, h⟩ := He.ba h
  obtain ⟨h3, h⟩ := He.ba h
  obtain ⟨h4, h5⟩ := He.ba h
  have x := xfB_ok h1
  exact ⟨x, ⟨x.ga, x.gg, x.exC, x.hdC, of_decide_eq_true h2, of_decide_eq_true h3, of_decide_eq_true h4, of_decide_eq_true h5⟩⟩
theorem clsB_ok {K : PySem.W.Frag} {C : Addr} (h : clsB K C = true) : ∃ nm q N bs bm sn sub ab col dd k0 k1 k2 k3 k5, K.lookup C = some (excClassObj nm q C N bs bm true sn sub ab col dd k0 k1 k2 k3 k5 "ValueError.__new__") ∧ PySem.HandSPX.refsVE bm = true := by
  unfold clsB at h
  split at h
  · rename_i dd cd sl ho
    split at h
    · rename_i C' bm k0 k1 k2 k3 n k5 hm hs
      obtain ⟨h1, h⟩ := He.ba h
      obtain ⟨e1, e2⟩ := He.ba h1
      obtain ⟨h3, h⟩ := He.ba h
      obtain ⟨h4, h5⟩ := He.ba h
      obtain rfl := beq_iff_eq.mp e1
      obtain rfl := beq_iff_eq.mp e2
      obtain ⟨nm, bs, mro, ns, qn, hd, sn, sub, ab, col, del⟩ := cd
      dsimp only at hm h3 h5
      subst hm h5
      obtain rfl : del = false := by simpa using h3
      have hsl : sl = #[k0, k1, k2, k3, some (.builtin "ValueError.__new__"), k5] := by
        obtain ⟨l⟩ := sl
        simp only at hs
        rw [hs]
      rw [hsl] at ho
      exact ⟨nm, qn, ns, bs, bm, sn, sub, ab, col, dd, k0, k1, k2, k3, k5, ho, h4⟩
    · cases h
  · cases h
theorem iniB_ok {K : PySem.W.Frag} {P : Program} {d : ErD} (h : iniB K P.main.file d.qual (d.C K) (d.f K) = true) (e : fnK K (d.f K) = d.val) (ty : PySem.W.typeIn K (.ref (d.f K)) = some (.type "function")) (hc : ∃ cd, PySem.W.clsIn K (d.C K) = some cd) :
    ∃ fd cc cda, InitD K P (d.C K) d.qual d.params d.body d.scope [.non] (d.f K) fd cc cda := by
  unfold iniB at h
  unfold fnK at e
  cases q : K.lookup (d.f K) with
  | none =>
    rw [q] at h
    cases h
  | some o =>
    obtain ⟨oc, od, dt, osl⟩ := o
    rw [q] at h e
    cases dt with
    | func fd =>
      obtain ⟨n1, n2, n3, n4, n5, n6, n7, n8, n9, n10, n11, n12, n13, n14, n15⟩ := fd
      have e2 : (some (n1, n2, n3, n4, n5, n6, n7.map (·.1), n15) : FnK) = (some ("__init__", d.qual, d.params, .stmts d.body, d.scope, mainGlobals, ["__class__"], builtinsNs) : FnK) := e
      simp only [Option.some.injEq, Prod.mk.injEq] at e2
      obtain ⟨h1, h2, h3, h4, h5, h6, h7, h8⟩ := e2
      subst h1 h2 h3 h4 h5 h6 h8
      dsimp only at h
      split at h
      · rename_i cx cc cda
        obtain ⟨w1, h⟩ := He.ba h
        obtain ⟨w2, h⟩ := He.ba h
        obtain ⟨w3, w4⟩ := He.ba h
        obtain rfl : cx = "__class__" := by simpa using h7
        refine ⟨_, cc, cda, ⟨oc, od, osl, n8, n9, n10, n11, n14, n12, rfl, q, He.dflB_ok w2⟩, w1, ?_, ?_, ty, hc⟩
        · split at w3
          · rename_i a1 a2 vs a3 hl
            split at w3
            · rename_i file tf hv
              exact ⟨_, _, _, _, file, tf, hl, hv, w3⟩
            · cases w3
          · cases w3
        · split at w4
          · rename_i a1 a2 D a3 hl
            obtain rfl := beq_iff_eq.mp w4
            exact ⟨_, _, _, hl⟩
          · cases w4
      · cases h
    | _ => cases h
/-- what the text must show of TermError -/
structure ErOkT (d : ErD) : Prop where
  sc : ScK ["self", "word", "place"] d.scope
  rp : d.scope.names.lookup ("repr" : Str) = some .globalImplicit
  body : bodyT d.body
  head : headIs d.params "self"
  b3 : ∀ (T : Addr) (kV doc pm cdv ct : Value) (an : Option Addr) (cc : Addr) (us its : List Value), us.length = 3 → its.length = 1 →
    ∃ k, bindArgs (PySem.W.ksFn "__init__" d.qual d.params d.body d.scope (.ref T) kV doc pm an cdv ct cc) ⟨us, []⟩ = seqItems? (.ref T) >>= k ∧ k (some its.toArray) = pure ((["self", "word", "place"] : List Str).zip us)
structure ErOkB (d : ErD) : Prop where
  sc : ScK ["self", "place"] d.scope
  body : bodyB d.x d.body
  head : headIs d.params "self"
  len : d.x.length ≤ 1000
  b2 : ∀ (T : Addr) (kV doc pm cdv ct : Value) (an : Option Addr) (cc : Addr) (us its : List Value), us.length = 2 → its.length = 1 →
    ∃ k, bindArgs (PySem.W.ksFn "__init__" d.qual d.params d.body d.scope (.ref T) kV doc pm an cdv ct cc) ⟨us, []⟩ = seqItems? (.ref T) >>= k ∧ k (some its.toArray) = pure ((["self", "place"] : List Str).zip us)
  b1 : ∀ (T : Addr) (kV doc pm cdv ct : Value) (an : Option Addr) (cc : Addr) (us its : List Value), us.length = 1 → its.length = 1 →
    ∃ k, bindArgs (PySem.W.ksFn "__init__" d.qual d.params d.body d.scope (.ref T) kV doc pm an cdv ct cc) ⟨us, []⟩ = seqItems? (.ref T) >>= k ∧ k (some its.toArray) = pure ((["self", "place"] : List Str).zip (us ++ its))
/-- what K says of TermError, T, whose __init__ is at fT -/
structure TermF (K : PySem.W.Frag) (P : Program) (mg : Str → Option Value) (T fT : Addr) : Prop where
  run : ∃ fd, (∀ (w : World) (base : Heap), FnG P w K mg base 1 fT fd ["self", "word", "place"] (spT T K)) ∧ Binds K fd ["self", "word", "place"] []
  ty : PySem.W.typeIn K (.ref fT) = some (.type "function")
  fi : PySem.W.fnIn K fT = true
  sup : mg "super" = none
  top : (P.main.scope.names.lookup ("super" : Str)).isSome = false
  any : PySem.W.nsIn K cStatics "thirdparty.any" = some none
section
variable {K : PySem.W.Frag} {h : Heap} {mg : Str → Option Value} {P : Program} {d dT : ErD}
theorem errB_ok {fl : Str} {T : Addr} (c : errB K fl T d = true) : PySem.W.nsIn K mainGlobals d.x = some (some (.ref (d.C K))) ∧ ErrC K T (d.C K) ∧ PySem.W.keepIn K (.ref (d.C K)) = true ∧ PySem.W.findIn K (.ref (d.C K)) "__init__" = some (some (.ref (d.f K))) ∧
    PySem.W.typeIn K (.ref (d.f K)) = some (.type "function") ∧ PySem.W.fnIn K (d.f K) = true ∧ iniB K fl d.qual (d.C K) (d.f K) = true ∧ ∃ cd, PySem.W.clsIn K (d.C K) = some cd := by
  unfold errB at c
  obtain ⟨c1, c⟩ := He.ba c
  obtain ⟨c2, c⟩ := He.ba c
  obtain ⟨c3, c⟩ := He.ba c
  obtain ⟨c4, c⟩ := He.ba c
  obtain ⟨c5, c⟩ := He.ba c
  obtain ⟨c6, c⟩ := He.ba c
  obtain ⟨c7, c⟩ := He.ba c
  obtain ⟨c8, c⟩ := He.ba c
  obtain ⟨c9, c⟩ := He.ba c
  obtain ⟨c10, c⟩ := He.ba c
  obtain ⟨c11, c⟩ := He.ba c
  obtain ⟨c12, c⟩ := He.ba c
  obtain ⟨c13, c⟩ := He.ba c
  obtain ⟨c14, c⟩ := He.ba c
  obtain ⟨c15, c16⟩ := He.ba c
  have cl := clsB_ok c2
  refine ⟨He.eqO_ok c1, ⟨⟨cl, He.eqO_ok c3, of_decide_eq_true c4, of_decide_eq_true c5, c6⟩, of_decide_eq_true c7, of_decide_eq_true c8, of_decide_eq_true c9, of_decide_eq_true c10, He.eqO_ok c11, He.eqO_ok c12⟩, c6, He.eqO_ok c13, of_decide_eq_true c14, c15, c16, ?_⟩
  obtain ⟨nm, q, N, bs, bm, sn, sub, ab, col, dd, k0, k1, k2, k3, k5, hC, _⟩ := cl
  exact ⟨_, by unfold PySem.W.clsIn; rw [hC] <;> rfl⟩
theorem termF_of (X : K.In h) (G : h.Ns mainGlobals mg) (O : ErOkT dT) (c : errB K P.main.file (dT.C K) dT = true) (e : fnK K (dT.f K) = dT.val) (sup : mg "super" = none) (rp : mg "repr" = none) (top : (P.main.scope.names.lookup ("super" : Str)).isSome = false)
    (any : PySem.W.nsIn K cStatics "thirdparty.any" = some none) : TermF K P mg (dT.C K) (dT.f K) := by
  obtain ⟨c1, c2, c3, c4, c5, c6, c7, c8⟩ := errB_ok c
  obtain ⟨fd, cc, cda, F⟩ := iniB_ok c7 e c5 c8
  refine ⟨⟨fd, fun w base => init_T F O.sc O.rp O.body O.head sup rp top any, ?_⟩, c5, c6, sup, top, any⟩
  obtain ⟨oc, od, osl, dV, kV, doc, pm, ct, an, e1, lk, hD⟩ := id F.ex
  rcases hD with ⟨z, _⟩ | ⟨_, T', o, its, m, rfl, lT, oT, rT⟩
  · cases z
  · refine fun s us kin hl => ?_
    rw [List.append_nil] at hl ⊢
    obtain ⟨k, k1, k2⟩ := O.b3 T' kV doc pm (.ref cda) ct an cc us its hl rT.length.symm
    refine BindsTo.of_looks fun M => ?_
    rw [e1, k1]
    exact looks_items kin lT oT (.of_pure k2)
theorem errD_of (X : K.In h) (G : h.Ns mainGlobals mg) {T fT : Addr} (TF : TermF K P mg T fT) (O : ErOkB d) (c : errB K P.main.file T d = true) (e : fnK K (d.f K) = d.val) (s : supB K fT d = true) (w : World) (base : Heap) : ErrD P w K mg base d.x T (d.C K) := by
  obtain ⟨c1, c2, c3, c4, c5, c6, c7, c8⟩ := errB_ok c
  obtain ⟨fd, cc, cda, F⟩ := iniB_ok c7 e c5 c8
  obtain ⟨gd, FT, bT⟩ := TF.run
  obtain ⟨oc, od, osl, dV, kV, doc, pm, ct, an, e1, lk, hD⟩ := id F.ex
  rcases hD with ⟨z, _⟩ | ⟨_, T', o, its, m, rfl, lT, oT, rT⟩
  · cases z
  · refine ⟨PySem.W.mg_of X G c1, c2, c3, O.len, d.f K, fd, its, c4, c5, init_B F O.sc O.body O.head TF.sup TF.top TF.any (of_decide_eq_true s) TF.ty TF.fi (FT w base) bT, ?_, fun s us kin hl => ?_, rT⟩
    · refine fun s us kin hl => ?_
      rw [List.append_nil] at hl ⊢
      obtain ⟨k, k1, k2⟩ := O.b2 T' kV doc pm (.ref cda) ct an cc us its hl rT.length.symm
      refine BindsTo.of_looks fun M => ?_
      rw [e1, k1]
      exact looks_items kin lT oT (.of_pure k2)
    · have l1 : its.length = 1 := rT.length.symm
      have l2 : us.length = 1 := by
        rw [List.length_append, l1] at hl
        have hl' : us.length + 1 = 2 := hl
        omega
      obtain ⟨k, k1, k2⟩ := O.b1 T' kV doc pm (.ref cda) ct an cc us its l2 l1
      refine BindsTo.of_looks fun M => ?_
      rw [e1, k1]
      exact looks_items kin lT oT (.of_pure k2)
end
end SX

set_option Elab.async false
set_option linter.all false
set_option maxRecDepth 100000
set_option maxHeartbeats 1000000
namespace SX
open PySem PySem.Spec PyProof.Rows L2 ClX
/-! ### what holds in an except suite too -/
structure Rm (X : Cx) : Prop where
  gd : X.A.guards = some []
  un : X.A.units + 64 < cLine
section
variable {X : Cx}
theorem f_eq0S (C : Rm X) : OpF X (compareOp .Eq) (eqD0 false) := by
  intro pins s σ m G H x y v w u z Q Wx I S rx ry ru rz q
  unfold eqD0 at q
  split at q
  · rename_i a b h1 h2
    split at q
    · rename_i hs
      exact op_eqD C.un pins s σ H v w u z Q I ru rz ⟨a, b, toPy_dp S _ _ _ _ rx h1, toPy_dp S _ _ _ _ ry h2, hs.1, hs.2, q.here S (.bl _)⟩
    · exact q.elim
  · exact q.elim
theorem f_ne0S (C : Rm X) : OpF X (compareOp .NotEq) (eqD0 true) := by
  intro pins s σ m G H x y v w u z Q Wx I S rx ry ru rz q
  unfold eqD0 at q
  split at q
  · rename_i a b h1 h2
    split at q
    · rename_i hs
      exact op_neD C.un pins s σ H v w u z Q I ru rz ⟨a, b, toPy_dp S _ _ _ _ rx h1, toPy_dp S _ _ _ _ ry h2, hs.1, hs.2, q.here S (.bl _)⟩
    · exact q.elim
  · exact q.elim
theorem f_eqS (C : Rm X) : OpF X (compareOp .Eq) (eqD false) := by
  intro pins s σ m G H x y v w u z Q Wx I S rx ry ru rz q
  unfold eqD at q
  split at q
  · cases rx
    cases ry
    exact L2.op_eq pins s σ H _ _ u z Q I ru rz ⟨rfl, by rw [dec_strV]; exact q.here S (.bl _)⟩
  · exact f_eq0S C pins s σ m G H x y v w u z Q Wx I S rx ry ru rz q
theorem f_neS (C : Rm X) : OpF X (compareOp .NotEq) (eqD true) := by
  intro pins s σ m G H x y v w u z Q Wx I S rx ry ru rz q
  unfold eqD at q
  split at q
  · cases rx
    cases ry
    exact L2.op_ne pins s σ H _ _ u z Q I ru rz ⟨rfl, by rw [dec_strV]; exact q.here S (.bl _)⟩
  · exact f_ne0S C pins s σ m G H x y v w u z Q Wx I S rx ry ru rz q
theorem f_reprS (C : Rm X) : CallF X (.builtin "repr") reprD := by
  intro pins s σ m G H xs vs us Q Wx I S rx ru q
  unfold reprD at q
  split at q
  · rename_i x
    split at q
    · rename_i a ha
      split at q
      · rename_i hs
        obtain ⟨h1, h2, h3, h4⟩ := hs
        cases rx with
        | cons r1 rr =>
          cases rr
          cases ru with
          | cons r2 rr =>
            cases rr
            rename_i v u
            have dp := toPy_dp S _ _ _ _ r1 ha
            obtain ⟨as, rd⟩ := Dp.reads I a v u dp r2
            have fin := q.here (b := .str a.shown) S (.str _)
            cases v with
            | non =>
              cases r2
              cases dp
              exact PySem.P.repr_of_none ⟨.str _, H, I.tok _, ⟨_, rfl⟩, by simpa only [PyData.shown] using fin⟩
            | bl b =>
              cases r2
              cases dp
              exact PySem.P.repr_of_bool ⟨.str _, H, I.tok _, ⟨_, rfl⟩, by simpa only [PyData.shown] using fin⟩
            | int i =>
              obtain ⟨t, rfl⟩ := r2
              cases dp
              exact PySem.P.repr_of_int (by simpa [PyData.showable] using h1) ⟨.str _, H, I.tok _, ⟨_, rfl⟩, by simpa only [PyData.shown] using fin⟩
            | str i =>
              obtain ⟨t, rfl⟩ := r2
              cases dp
              exact PySem.P.repr_of_str ⟨.str _, H, I.tok _, ⟨_, rfl⟩, by simpa only [PyData.shown] using fin⟩ (by simp only [PyData.shown] at h4; exact h4)
            | ref p =>
              cases r2
              refine repr_of_reads' rd h1 (PyData.noDict_hsm h2) C.gd (by have := C.un; omega) (fun _ _ e => e) (fun h' t tk kk => ?_) h4
              exact ⟨.str a.shown, H, I.kept kk, ⟨_, rfl⟩, fin⟩
            | byt _ => cases dp
            | flt _ => cases dp
            | ty _ => cases dp
      · exact q.elim
    · exact q.elim
  · exact q.elim
theorem Ctx.rm {W : L2.St → XW} {k : Nat} (C : Ctx X W k) : Rm X := ⟨C.gd, C.room.units⟩
theorem Rm.suite (C : Rm X) (a : Addr) (pn : List (Addr × Obj)) : Rm (X.suite a pn) := ⟨C.gd, C.un⟩
end
/-! ### defs that may let exceptions out -/
structure CtxT (X : Cx) (W : L2.St → XW) (k : Nat) : Prop where
  c : Ctx X W k
  tk : Takes X (fun cls d σ H => W σ cls d H)
  hs : X.stack = X.env :: X.outer
  hf : X.env.frame = some X.env.locals
  hex : X.ex = []
section
variable {P : Program} {w : World} {K : PySem.W.Frag} {mg : Str → Option Value} {base : Heap}
theorem defOkT {x qual : Str} {st : Stmt} {f : Addr} {fd : FuncData} {N ps : List Str} {k : Nat} {b : SF} {dvs : List V} {kws : List (Str × V)} (F : L2.FunD K x qual (defArgs st) (defBody st) (defScope st) dvs kws f fd) (Sc : FnScope N ps (defScope st))
    (h : ∀ (cdv : Value) (A : Around) (out : List Env) (s : Shared) (H : Hp) (E : XK),
      Ctx (cxOf (L2.CX P w) P w K mg base N qual (defScope st) f cdv A out s H E) (fun _ => E) k → CtxT (cxOf (L2.CX P w) P w K mg base N qual (defScope st) f cdv A out s H E) (fun _ => E) k →
      PSs (cxOf (L2.CX P w) P w K mg base N qual (defScope st) f cdv A out s H E) (defBody st) (tS (cxOf (L2.CX P w) P w K mg base N qual (defScope st) f cdv A out s H E) (fun _ => E) b)) :
    FnG P w K mg base (k + 1) f fd ps (spF K mg ps.length (bodyC N.length b)) :=
  defOk F Sc fun cdv A out s H E C => h cdv A out s H E C ⟨C, takes_of rfl rfl rfl rfl, rfl, rfl, rfl⟩
end
section
variable {X : Cx} {W : L2.St → XW} {k : Nat}
theorem xs_tryT {body : List Stmt} {h₀ : ExceptHandler} {hds : List ExceptHandler} {l : List (Value × Hd)} {pos : Pos} {fb : SF} (D : CtxT X W k)
    (hb : ∀ (W' : L2.St → XW) (pn : List (Addr × Obj)) (xe : Value → Shared → Prop), Ctx (X.tr pn xe) W' k → CtxT (X.tr pn xe) W' k → PSs (X.tr pn xe) body (tS (X.tr pn xe) W' fb))
    (hh : HdsX X (h₀ :: hds) l) : PS X (.Try body (h₀ :: hds) [] [] pos) (tS X W (tryC fb (l.map (·.2)))) :=
  xs_try D.hs D.hf D.tk D.c.nd D.hex (fun W' pn xe tk hp => by
    have C : Ctx (X.tr pn xe) (fun σ cls d H => W' cls d σ H) k := ⟨D.c.calm, D.c.nd, fun σ => L2.passAt tk σ, hp, D.c.room, D.c.gd⟩
    exact hb _ pn xe C ⟨C, tk, D.hs, D.hf, D.hex⟩) hh
end
theorem tab_of {Q : Str → Bool → Prop} : ∀ {tab : List (Str × Bool)}, (∀ p ∈ tab, Q p.1 p.2) → ∀ k r, tab.lookup k = some r → Q k r
  | [], _, _, _, h => by cases h
  | (y, b) :: tab, hq, k, r, h => by
    by_cases e : k = y
    · subst e
      simp [List.lookup] at h
      subst h
      exact hq _ List.mem_cons_self
    · have e' : (k == y) = false := by simpa using e
      simp only [List.lookup, e'] at h
      exact tab_of (fun p hp => hq p (List.mem_cons_of_mem _ hp)) k r h
theorem con_of {Q : Str → Prop} : ∀ {tab : List Str}, (∀ p ∈ tab, Q p) → ∀ k, tab.contains k = true → Q k := fun hq k h => hq k (by simpa using h)
theorem fnG_bad {P : Program} {w : World} {K : PySem.W.Frag} {mg : Str → Option Value} {base : Heap} {k : Nat} {f : Addr} {fd : FuncData} {ps : List Str} : FnG P w K mg base k f fd ps (spF K mg ps.length (fun _ _ => .bad)) :=
  ⟨fun _ _ _ _ q => q.1, fun _ _ _ _ _ _ _ _ _ _ _ _ _ _ q => by obtain ⟨_, _, _, _, _, _, q⟩ := q; exact q.elim⟩
theorem free_only {ns : List (Str × NameKind)} (h : (ns.all fun p => decide (p.2 ≠ .free) || p.1 == ("__class__" : Str)) = true) : ∀ x, ns.lookup x = some .free → x = "__class__" := fun x hx => by
  have q := List.all_eq_true.mp h (x, .free) (PySem.mem_of_lookup hx)
  simpa using q
theorem FunD.fd_eq {K : PySem.W.Frag} {x qual : Str} {params : Arguments} {body : List Stmt} {scope : Scope} {dvs : List V} {kws : List (Str × V)} {f : Addr} {fd fd' : FuncData} (a : L2.FunD K x qual params body scope dvs kws f fd) (b : L2.FunD K x qual params body scope dvs kws f fd') : fd = fd' := by
  obtain ⟨_, _, _, _, _, _, _, _, _, _, _, l1, _⟩ := a.ex
  obtain ⟨_, _, _, _, _, _, _, _, _, _, _, l2, _⟩ := b.ex
  rw [l1] at l2
  cases l2
  rfl
/-! ### the hook -/
def asX (g : Addr → Option Obj) (n : Nat) : List Addr := He.asD g n ++ [cStatics]
abbrev AlX : Type := Bool × List He.FnW × List FnK
def obsX (fl : Str) (fa : List He.Fa) (fn : List He.DefD) (er : List ErD) (ck : List (PySem.W.Frag → Bool)) (K : PySem.W.Frag) : AlX :=
  ((fa.all fun f => f.ok K) && ((fn.all fun d => d.ok K) && ((er.all fun d => errB K fl (He.ga K "TermError") d) && ck.all fun f => f K)), fn.map fun d => He.fnW K d.at_, er.map fun d => fnK K (d.f K))
def valX (fn : List He.DefD) (er : List ErD) : AlX := (true, fn.map He.DefD.val, er.map ErD.val)
def SaysX (fl : Str) (fa : List He.Fa) (fn : List He.DefD) (er : List ErD) (ck : List (PySem.W.Frag → Bool)) (K : PySem.W.Frag) : Prop := obsX fl fa fn er ck K = valX fn er
def obsXG (n : Nat) (fl : Str) (fa : List He.Fa) (fn : List He.DefD) (er : List ErD) (ck : List (PySem.W.Frag → Bool)) (g : Addr → Option Obj) : AlX := obsX fl fa fn er ck (He.frG g (asX g n))
def hookX (n : Nat) (fl : Str) (fa : List He.Fa) (fn : List He.DefD) (er : List ErD) (ck : List (PySem.W.Frag → Bool)) : PySem.W.Hook where
  α := AlX
  obs := fun s => obsXG n fl fa fn er ck s.heap.get?
  val := fun _ => valX fn er
  says := fun _ h => ∃ K : PySem.W.Frag, K.In h ∧ SaysX fl fa fn er ck K
  of := fun _ _ e => ⟨_, He.frG_in, e⟩
  keeps := fun _ _ _ ⟨K, hK, c⟩ k => ⟨K, PySem.W.Frag.In.keeps hK k, c⟩
theorem obsXG_eq {n : Nat} {fl : Str} {fa : List He.Fa} {fn : List He.DefD} {er : List ErD} {ck : List (PySem.W.Frag → Bool)} {g : Addr → Option Obj} {s : Shared} (h : ∀ a, g a = s.heap.get? a) : obsXG n fl fa fn er ck g = (hookX n fl fa fn er ck).obs s := by
  have e : g = s.heap.get? := funext h
  rw [e] <;> rfl
section
variable {fl : Str} {fa : List He.Fa} {fn : List He.DefD} {er : List ErD} {ck : List (PySem.W.Frag → Bool)} {K : PySem.W.Frag}
theorem SaysX.all (c : SaysX fl fa fn er ck K) : (fa.all fun f => f.ok K) = true ∧ (fn.all fun d => d.ok K) = true ∧ (er.all fun d => errB K fl (He.ga K "TermError") d) = true ∧ (ck.all fun f => f K) = true := by
  obtain ⟨c1, c⟩ := He.ba (show ((fa.all fun f => f.ok K) && ((fn.all fun d => d.ok K) && ((er.all fun d => errB K fl (He.ga K "TermError") d) && ck.all fun f => f K))) = true from congrArg (fun z : AlX => z.1) c)
  obtain ⟨c2, c⟩ := He.ba c
  obtain ⟨c3, c4⟩ := He.ba c
  exact ⟨c1, c2, c3, c4⟩
theorem SaysX.fact (c : SaysX fl fa fn er ck K) (i : Nat) {f : He.Fa} (h : fa[i]? = some f := by rfl) : f.ok K = true := List.all_eq_true.mp c.all.1 f (List.mem_of_getElem? h)
theorem SaysX.def_ (c : SaysX fl fa fn er ck K) (i : Nat) {d : He.DefD} (h : fn[i]? = some d := by rfl) : ∃ fd, FunD K d.name d.qual d.params d.body d.scope (d.dvs K) (d.kws K) (He.fAd K d.at_) fd := by
  have e : fn.map (fun d => He.fnW K d.at_) = fn.map He.DefD.val := congrArg (fun z : AlX => z.2.1) c
  have e2 : (fn.map fun d => He.fnW K d.at_)[i]? = (fn.map He.DefD.val)[i]? := by rw [e]
  rw [List.getElem?_map, List.getElem?_map, h] at e2
  exact He.DefD.funD (Option.some.inj e2) (List.all_eq_true.mp c.all.2.1 d (List.mem_of_getElem? h))
theorem SaysX.err (c : SaysX fl fa fn er ck K) (i : Nat) {d : ErD} (h : er[i]? = some d := by rfl) : errB K fl (He.ga K "TermError") d = true ∧ fnK K (d.f K) = d.val := by
  have e : er.map (fun d => fnK K (d.f K)) = er.map ErD.val := congrArg (fun z : AlX => z.2.2) c
  have e2 : (er.map fun d => fnK K (d.f K))[i]? = (er.map ErD.val)[i]? := by rw [e]
  rw [List.getElem?_map, List.getElem?_map, h] at e2
  exact ⟨List.all_eq_true.mp c.all.2.2.1 d (List.mem_of_getElem? h), Option.some.inj e2⟩
theorem SaysX.chk (c : SaysX fl fa fn er ck K) (i : Nat) {f : PySem.W.Frag → Bool} (h : ck[i]? = some f := by rfl) : f K = true := List.all_eq_true.mp c.all.2.2.2 f (List.mem_of_getElem? h)
end
end SX

set_option Elab.async false
set_option linter.all false
set_option maxRecDepth 100000
set_option maxHeartbeats 1000000
namespace SX
open PySem PySem.Spec PyProof.Rows L2
/-! ### the calculus where exceptions may leave: X of the class, the dict's cell, the heap -/
abbrev XP := Str → Nat → Hq → Prop
def xE {α : Type} (r : Rs α) (Q : α → Hq → Prop) (X : XP) : Prop := match r with
  | .ok a G => Q a G
  | .ex c i G => X c i G
  | .bad => False
def xS (r : Sr) (N : Eq' → Hq → Prop) (R : D → Hq → Prop) (B C : Eq' → Hq → Prop) (X : Str → Nat → Eq' → Hq → Prop) : Prop := match r with
  | .nx σ G => N σ G
  | .rt d G => R d G
  | .bk σ G => B σ G
  | .ct σ G => C σ G
  | .ex c i σ G => X c i σ G
  | .bad => False
section
variable {α β : Type} {G G1 : Hq} {σ σ1 : Eq'} {N N' B B' C C' : Eq' → Hq → Prop} {R R' : D → Hq → Prop} {X X' : XP} {Y Y' : Str → Nat → Eq' → Hq → Prop}
theorem xE_ok {a : α} {Q : α → Hq → Prop} : xE (.ok a G) Q X = Q a G := ndP rfl
theorem xE_badF {Q : α → Hq → Prop} : xE (.bad : Rs α) Q X = False := ndP rfl
theorem xE_ex {c : Str} {i : Nat} {Q : α → Hq → Prop} : xE (.ex c i G : Rs α) Q X = X c i G := ndP rfl
theorem xE_bind {r : Rs α} {k : α → Hq → Rs β} {Q : β → Hq → Prop} : xE (r.bind k) Q X = xE r (fun a G => xE (k a G) Q X) X := by
  cases r <;> rfl
theorem xE_ite {p : Prop} [Decidable p] {a b : Rs α} {Q : α → Hq → Prop} : xE (if p then a else b) Q X = if p then xE a Q X else xE b Q X := by
  split <;> rfl
theorem xE_imp {r : Rs α} {Q Q' : α → Hq → Prop} (h : xE r Q X) (f : ∀ a G, Q a G → Q' a G) (g : ∀ c i G, X c i G → X' c i G) : xE r Q' X' := by
  cases r with
  | ok a G => exact f a G h
  | ex c i G => exact g c i G h
  | bad => exact h.elim
/-- no exception leaves -/
theorem xE_w {r : Rs α} {Q : α → Hq → Prop} (h : wE r Q) : xE r Q X := by
  cases r with
  | ok a G => exact h
  | ex _ _ _ => exact h.elim
  | bad => exact h.elim
theorem wE_x {r : Rs α} {Q : α → Hq → Prop} (h : xE r Q (fun _ _ _ => False)) : wE r Q := by
  cases r <;> exact h
theorem xE_raised {r : Rs α} {c : Str} {i : Nat} {G' : Hq} (h : xE r (fun _ _ => False) (fun c' i' G'' => c' = c ∧ i' = i ∧ G'' = G')) : r = .ex c i G' := by
  cases r with
  | ok a G => exact h.elim
  | ex c i G => obtain ⟨rfl, rfl, rfl⟩ := h; rfl
  | bad => exact h.elim
theorem xE_of {r : Rs α} {a : α} {Q : α → Hq → Prop} (h : r = .ok a G) (q : Q a G) : xE r Q X := by rw [h]; exact q
theorem xE_ofX {r : Rs α} {c : Str} {i : Nat} {Q : α → Hq → Prop} (h : r = .ex c i G) (q : X c i G) : xE r Q X := by rw [h]; exact q
theorem xS_onE {r : Rs α} {k : α → Hq → Sr} : xS (onE r σ k) N R B C Y = xE r (fun a G => xS (k a G) N R B C Y) (fun c i G => Y c i σ G) := by
  cases r <;> rfl
theorem xS_onG {r : Rs Eq'} {k : SF} : xS (onG r k) N R B C Y = wE r (fun a G => xS (k a G) N R B C Y) := by
  cases r <;> rfl
theorem xS_onU {r : Rs Unit} {k : Hq → Sr} : xS (onU r k) N R B C Y = wE r (fun _ G => xS (k G) N R B C Y) := by
  cases r <;> rfl
theorem xS_nx : xS (.nx σ G) N R B C Y = N σ G := ndP rfl
theorem xS_then {r : Sr} {k : SF} : xS (r.then k) N R B C Y = xS r (fun σ G => xS (k σ G) N R B C Y) R B C Y := by
  cases r <;> rfl
theorem xS_ite {p : Prop} [Decidable p] {a b : Sr} : xS (if p then a else b) N R B C Y = if p then xS a N R B C Y else xS b N R B C Y := by
  split <;> rfl
theorem xS_w {r : Sr} (h : wS r N R B C) : xS r N R B C Y := by
  cases r <;> first | exact h | exact h.elim
theorem wS_x {r : Sr} (h : xS r N R B C (fun _ _ _ _ => False)) : wS r N R B C := by
  cases r <;> exact h
theorem xS_imp {r : Sr} (h : xS r N R B C Y) (fN : ∀ σ G, N σ G → N' σ G) (fR : ∀ d G, R d G → R' d G) (fB : ∀ σ G, B σ G → B' σ G) (fC : ∀ σ G, C σ G → C' σ G) (fX : ∀ c i σ G, Y c i σ G → Y' c i σ G) : xS r N' R' B' C' Y' := by
  cases r with
  | nx σ G => exact fN σ G h
  | rt d G => exact fR d G h
  | bk σ G => exact fB σ G h
  | ct σ G => exact fC σ G h
  | ex c i σ G => exact fX c i σ G h
  | bad => exact h.elim
theorem xS_seq {a b : SF} : xS (seqC a b σ G) N R B C Y = xS (a σ G) (fun σ G => xS (b σ G) N R B C Y) R B C Y := xS_then
theorem xS_set {i : Nat} {e : EF} : xS (setC i e σ G) N R B C Y = xE (e σ G) (fun d G1 => N (σ.set i (some d)) G1) (fun c i G => Y c i σ G) := xS_onE
theorem xS_expr {e : EF} : xS (exprC e σ G) N R B C Y = xE (e σ G) (fun _ G1 => N σ G1) (fun c i G => Y c i σ G) := xS_onE
theorem xS_ret {e : EF} : xS (retC e σ G) N R B C Y = xE (e σ G) R (fun c i G => Y c i σ G) := xS_onE
theorem xS_retN : xS (retN σ G) N R B C Y = R .non G := ndP rfl
theorem xS_pass : xS (passC σ G) N R B C Y = N σ G := ndP rfl
theorem xS_break : xS (breakC σ G) N R B C Y = B σ G := ndP rfl
theorem xS_cont : xS (contC σ G) N R B C Y = C σ G := ndP rfl
theorem xS_raise0 {cn : Str} : xS (raise0C cn σ G) N R B C Y = Y cn G.length σ (G ++ [errX cn .non]) := ndP rfl
theorem xS_raise {cn : Str} {e : EF} : xS (raiseC cn e σ G) N R B C Y = xE (e σ G) (fun d G1 => showsD d G1 = true ∧ Y cn G1.length σ (G1 ++ [errX cn d])) (fun c i G => Y c i σ G) := by
  show xS (onE _ _ _) N R B C Y = _
  rw [xS_onE]
  congr 1
  funext d G1
  rw [xS_ite]
  by_cases h : showsD d G1 = true
  · rw [if_pos h]
    exact propext ⟨fun q => ⟨h, q⟩, fun q => q.2⟩
  · rw [if_neg h]
    exact propext ⟨fun q => q.elim, fun q => (h q.1).elim⟩
theorem xS_asg {e : EF} {g : GF} : xS (asgC e g σ G) N R B C Y = xE (e σ G) (fun d G1 => wE (g d σ G1) N) (fun c i G => Y c i σ G) := by
  show xS (onE _ _ _) N R B C Y = _
  rw [xS_onE]
  congr 1
  funext d G1
  exact xS_onG
theorem xS_if {c : TF} {a b : SF} : xS (ifS c a b σ G) N R B C Y = xE (c σ G) (fun x G1 => if x = true then xS (a σ G1) N R B C Y else xS (b σ G1) N R B C Y) (fun c i G => Y c i σ G) := by
  show xS (onE _ _ _) N R B C Y = _
  rw [xS_onE]
  congr 1
  funext d G1
  exact xS_ite
theorem xE_body {n : Nat} {b : SF} {ds : List D} {Q : D → Hq → Prop} : xE (bodyC n b ds G) Q X = xS (b (ds.map some ++ List.replicate (n - ds.length) none) G) (fun _ G => Q .non G) Q (fun _ _ => False) (fun _ _ => False) (fun c i _ G => X c i G) := by
  unfold bodyC
  cases b (ds.map some ++ List.replicate (n - ds.length) none) G <;> rfl
theorem xE_fn {f : FF} {dvs : List D} {a : AF} {Q : D → Hq → Prop} : xE (fnC f dvs a σ G) Q X = xE (a σ G) (fun xs G1 => xE (f (xs ++ dvs) G1) Q X) X := xE_bind
theorem xE_call {f : FF} {a : AF} {Q : D → Hq → Prop} : xE (callC f a σ G) Q X = xE (a σ G) (fun xs G1 => xE (f xs G1) Q X) X := xE_bind
theorem xE_nilA {Q : List D → Hq → Prop} : xE (nilA σ G) Q X = Q [] G := ndP rfl
theorem xE_consA {a : EF} {r : AF} {Q : List D → Hq → Prop} : xE (consA a r σ G) Q X = xE (a σ G) (fun x G1 => xE (r σ G1) (fun xs G2 => Q (x :: xs) G2) X) X := by
  show xE (Rs.bind _ _) Q X = _
  rw [xE_bind]
  congr 1
  funext x G1
  exact xE_bind
theorem xE_bin {g : D → D → Hq → Rs D} {a b : EF} {Q : D → Hq → Prop} : xE (binC g a b σ G) Q X = xE (a σ G) (fun x G1 => xE (b σ G1) (fun y G2 => xE (g x y G2) Q X) X) X := by
  show xE (Rs.bind _ _) Q X = _
  rw [xE_bind]
  congr 1
  funext x G1
  exact xE_bind
theorem xE_un {g : D → Hq → Rs D} {a : EF} {Q : D → Hq → Prop} : xE (unC g a σ G) Q X = xE (a σ G) (fun x G1 => xE (g x G1) Q X) X := xE_bind
theorem xE_tup {a : AF} {Q : D → Hq → Prop} : xE (tupC a σ G) Q X = xE (a σ G) (fun xs G1 => Q (.tup xs) G1) X := xE_bind
theorem xE_lst {a : AF} {Q : D → Hq → Prop} : xE (lstC a σ G) Q X = xE (a σ G) (fun xs G1 => Q (.ref G1.length) (G1 ++ [.lst xs])) X := xE_bind
theorem xE_c {d : D} {Q : D → Hq → Prop} : xE (cC d σ G) Q X = Q d G := ndP rfl
theorem xE_var0 {d : D} {Q : D → Hq → Prop} : xE (varC 0 (some d :: σ) G) Q X = Q d G := ndP rfl
theorem xE_varS {i : Nat} {x : Option D} {Q : D → Hq → Prop} : xE (varC (i + 1) (x :: σ) G) Q X = xE (varC i σ G) Q X := by
  unfold varC
  rfl
theorem xE_val {a : EF} {Q : Bool → Hq → Prop} : xE (valT a σ G) Q X = xE (a σ G) (fun x G1 => xE (toB x G1) Q X) X := xE_bind
theorem xE_truth {a : EF} {Q : Bool → Hq → Prop} : xE (truthT a σ G) Q X = xE (a σ G) (fun x G1 => xE (truthD x G1) Q X) X := xE_bind
theorem xE_toB {b : Bool} {Q : Bool → Hq → Prop} : xE (toB (.bl b) G) Q X = Q b G := ndP rfl
theorem xE_andT {a b : TF} {Q : Bool → Hq → Prop} : xE (andT a b σ G) Q X = xE (a σ G) (fun x G1 => if x = true then xE (b σ G1) Q X else Q false G1) X := by
  show xE (Rs.bind _ _) Q X = _
  rw [xE_bind]
  congr 1
  funext x G1
  exact xE_ite
theorem xE_orT {a b : TF} {Q : Bool → Hq → Prop} : xE (orT a b σ G) Q X = xE (a σ G) (fun x G1 => if x = true then Q true G1 else xE (b σ G1) Q X) X := by
  show xE (Rs.bind _ _) Q X = _
  rw [xE_bind]
  congr 1
  funext x G1
  exact xE_ite
theorem xE_notT {a : TF} {Q : Bool → Hq → Prop} : xE (notT a σ G) Q X = xE (a σ G) (fun x G1 => Q (!x) G1) X := xE_bind
theorem xE_ifC {c : TF} {a b : EF} {Q : D → Hq → Prop} : xE (ifC c a b σ G) Q X = xE (c σ G) (fun x G1 => if x = true then xE (a σ G1) Q X else xE (b σ G1) Q X) X := by
  show xE (Rs.bind _ _) Q X = _
  rw [xE_bind]
  congr 1
  funext x G1
  exact xE_ite
theorem xE_src {g : List D → Hq → Rs Src} {a : AF} {Q : Src → Hq → Prop} : xE (srcC g a σ G) Q X = xE (a σ G) (fun xs G1 => xE (g xs G1) Q X) X := xE_bind
theorem xE_iter {e : EF} {Q : Src → Hq → Prop} : xE (iterC e σ G) Q X = xE (e σ G) (fun x G1 => xE (iterD x G1) Q X) X := xE_bind
theorem xE_lc {i : IF} {g : GF} {t : TF} {e : EF} {vs : List Nat} {Q : D → Hq → Prop} :
    xE (lcC i g t e vs σ G) Q X = xE (i σ G) (fun s G1 => wC (lcL s (lcTurn g t e (wipeD σ vs) G1.length) 0 (G1 ++ [.lst []])) (fun G2 => Q (.ref G1.length) G2)) X := by
  show xE (Rs.bind _ _) Q X = _
  rw [xE_bind]
  congr 1
  funext s G1
  cases lcL s (lcTurn g t e (wipeD σ vs) G1.length) 0 (G1 ++ [.lst []]) <;> rfl
theorem xS_for {i : IF} {g : GF} {b : SF} : xS (forC i g b σ G) N R B C Y = xE (i σ G) (fun s G1 => xS (forL s g b 0 σ G1) N R B C Y) (fun c i G => Y c i σ G) := xS_onE
theorem xS_turn {r : Sr} {k : SF} : xS (r.turn k) N R B C Y = xS r (fun σ G => xS (k σ G) N R B C Y) R N (fun σ G => xS (k σ G) N R B C Y) Y := by
  cases r <;> rfl
theorem xS_forL {g : GF} {b : SF} {s : Src} (xs : List D) (I : Nat → Eq' → Hq → Prop) (src : ∀ k σ G, I k σ G → s k G = gives xs k)
    (step : ∀ k d σ G, xs[k]? = some d → I k σ G → wE (g d σ G) fun σ1 G1 => xS (b σ1 G1) (I (k + 1)) R N (I (k + 1)) Y)
    (out : ∀ σ G, I xs.length σ G → N σ G) : ∀ m k σ G, k + m = xs.length → I k σ G → xS (forL s g b k σ G) N R B C Y := by
  intro m
  induction m with
  | zero =>
    intro k σ G hk h
    obtain rfl : k = xs.length := by omega
    rw [forL_eq, src _ σ G h]
    have e : gives xs xs.length = .stop := by
      unfold gives
      rw [List.getElem?_eq_none (Nat.le_refl _)]
    rw [e]
    exact out σ G h
  | succ m ih =>
    intro k σ G hk h
    rw [forL_eq, src k σ G h]
    have hl : k < xs.length := by omega
    have e : gives xs k = .item xs[k] := by
      unfold gives
      rw [List.getElem?_eq_getElem hl]
    rw [e]
    show xS (onG _ _) N R B C Y
    rw [xS_onG]
    refine wE_imp (step k xs[k] σ G (List.getElem?_eq_getElem hl) h) fun σ1 G1 q => ?_
    rw [xS_turn]
    exact xS_imp q (fun σ' G' hI => ih (k + 1) σ' G' (by omega) hI) (fun _ _ q => q) (fun _ _ q => q) (fun σ' G' hI => ih (k + 1) σ' G' (by omega) hI) (fun _ _ _ _ q => q)
/-! ### try -/
theorem xS_try {b : SF} {hs : List Hd} : xS (tryC b hs σ G) N R B C Y = xS (b σ G) N R B C (fun c i σ1 G1 => xS (goHd hs c i σ1 G1) N R B C Y) := by
  unfold tryC
  cases b σ G <;> rfl
theorem wS_try {b : SF} {hs : List Hd} (h : xS (b σ G) N R B C (fun c i σ1 G1 => wS (goHd hs c i σ1 G1) N R B C)) : wS (tryC b hs σ G) N R B C := by
  refine wS_x ?_
  rw [xS_try]
  exact xS_imp h (fun _ _ q => q) (fun _ _ q => q) (fun _ _ q => q) (fun _ _ q => q) (fun _ _ _ _ q => xS_w q)
theorem wS_clr {n : Nat} {r : Sr} : wS (clr n r) N R B C = wS r (fun σ G => N (σ.set n none) G) R (fun σ G => B (σ.set n none) G) (fun σ G => C (σ.set n none) G) := by
  cases r <;> rfl
theorem wS_hd {h : Hd} {r : List Hd} {c : Str} {i : Nat} {t : Bool} (e : h.cl c = some t) : wS (goHd (h :: r) c i σ G) N R B C =
    if t = true then wS (h.suite (σ.set h.slot (some (.ref G.length))) (G ++ [.ins c [(Str.empty, .ref i)]])) (fun σ G => N (σ.set h.slot none) G) R (fun σ G => B (σ.set h.slot none) G) (fun σ G => C (σ.set h.slot none) G) else wS (goHd r c i σ G) N R B C := by
  show wS (match h.cl c with | none => .bad | some true => clr h.slot _ | some false => goHd r c i σ G) N R B C = _
  rw [e]
  cases t with
  | true => exact wS_clr
  | false => rfl
/-- an error's field, just caught -/
theorem errOf_at {c : Str} {i j : Nat} {d : D} (hj : G[j]? = some (.ins c [(Str.empty, .ref i)])) (hi : G[i]? = some (errX c d)) : errOf G (.ref j) = some (c, ([("place", d), ("word", .str c)] : List (Str × D))) := by
  show (match G[j]? with
    | some (SX.C.ins c [(_, .ref i)]) => (match G[i]? with
      | some (.xd fs) => some (c, fs)
      | _ => none)
    | _ => none : Option (Str × List (Str × D))) = _
  rw [hj]
  show (match G[i]? with
      | some (SX.C.xd fs) => some (c, fs)
      | _ => none : Option (Str × List (Str × D))) = _
  rw [hi]
theorem wE_fld {kn : Str → Bool} {f : Str} {e : EF} {Q : D → Hq → Prop} : wE (fldC kn f e σ G) Q = wE (e σ G) (fun x G1 => wE (match errOf G1 x with
  | some (c, fs) => if kn c then oneD (fs.lookup f) G1 else .bad
  | none => .bad : Rs D) Q) := wE_bind
end
end SX

set_option Elab.async false
set_option linter.all false
set_option maxRecDepth 100000
set_option maxHeartbeats 1000000
namespace SX
open PySem PySem.Spec PyProof.Rows L2 NT
/-! ### bounds -/
abbrev Bd (k : Nat) (i : Int) : Prop := i.natAbs < 2 ^ k
theorem Bd.mono {k l : Nat} {i : Int} (h : Bd k i) (hl : k ≤ l) : Bd l i := Nat.lt_of_lt_of_le h (Nat.pow_le_pow_right (by omega) hl)
theorem Bd.mul {k l : Nat} {i j : Int} (h : Bd k i) (h' : Bd l j) : Bd (k + l) (i * j) := by
  unfold Bd at *
  rw [Int.natAbs_mul, Nat.pow_add]
  exact Nat.mul_lt_mul'' h h'
theorem Bd.add {k l : Nat} {i j : Int} (h : Bd k i) (h' : Bd l j) : Bd (max k l + 1) (i + j) := by
  have a := Bd.mono h (Nat.le_max_left k l)
  have b := Bd.mono h' (Nat.le_max_right k l)
  unfold Bd at *
  rw [Nat.pow_succ]
  omega
theorem Bd.sub {k l : Nat} {i j : Int} (h : Bd k i) (h' : Bd l j) : Bd (max k l + 1) (i - j) := by
  have a := Bd.mono h (Nat.le_max_left k l)
  have b := Bd.mono h' (Nat.le_max_right k l)
  unfold Bd at *
  rw [Nat.pow_succ]
  omega
theorem Bd.neg {k : Nat} {i : Int} (h : Bd k i) : Bd k (-i) := by
  unfold Bd at *
  rwa [Int.natAbs_neg]
theorem Bd.of {k : Nat} {i : Int} (h1 : -(2 ^ k) < i) (h2 : i < 2 ^ k) : Bd k i := by
  unfold Bd
  have e : ((2 : Int) ^ k) = ((2 ^ k : Nat) : Int) := by simp
  rw [e] at h1 h2
  omega
section
variable {G : Hq} {σ : Eq'} {N B C : Eq' → Hq → Prop} {R : D → Hq → Prop}
theorem mulD_sb {i j : Int} (hi : Bd 400 i) (hj : Bd 400 j) : mulD (.int i) (.int j) G = .ok (.int (i * j)) G := mulD_int hi hj
theorem imulD_sb {i j : Int} (hi : Bd 400 i) (hj : Bd 400 j) : imulD (.int i) (.int j) G = .ok (.int (i * j)) G := imulD_int hi hj
/-- one statement, then the rest -/
theorem wS_cut {a b : SF} (P : Eq' → Hq → Prop) (h1 : wS (a σ G) P R B C) (h2 : ∀ σ G, P σ G → wS (b σ G) N R B C) : wS (seqC a b σ G) N R B C := by
  rw [wS_seq]
  exact wS_imp h1 h2 (fun _ _ q => q) (fun _ _ q => q) (fun _ _ q => q)
theorem wS_cut1 {a b : SF} {σ1 : Eq'} {G1 : Hq} (h1 : wS (a σ G) (fun σ' G' => σ' = σ1 ∧ G' = G1) R B C) (h2 : wS (b σ1 G1) N R B C) : wS (seqC a b σ G) N R B C :=
  wS_cut _ h1 fun σ' G' ⟨e1, e2⟩ => by rw [e1, e2]; exact h2
/-! ### and, or of truth values -/
/-- p at True, q at False -/
def tfK (x : D) (p q : Prop) : Prop := match x with
  | .bl true => p
  | .bl false => q
  | _ => False
theorem tfK_bl {b : Bool} {p q : Prop} : tfK (.bl b) p q = if b = true then p else q := by
  cases b <;> rfl
theorem wE_andK {a b : EF} {Q : D → Hq → Prop} : wE (andC a b σ G) Q = wE (a σ G) (fun x G1 => tfK x (wE (b σ G1) Q) (Q (.bl false) G1)) := wE_andC
theorem wE_orK {a b : EF} {Q : D → Hq → Prop} : wE (orC a b σ G) Q = wE (a σ G) (fun x G1 => tfK x (Q (.bl true) G1) (wE (b σ G1) Q)) := wE_orC
theorem wE_isN {neg : Bool} {a : EF} {Q : D → Hq → Prop} : wE (isNonC neg a σ G) Q = wE (a σ G) (fun x G1 => wE (isNonD neg x G1) Q) := wE_bind
theorem isNon_non {neg : Bool} : isNonD neg .non G = .ok (.bl (!neg)) G := nd rfl
theorem isNon_int {neg : Bool} {i : Int} : isNonD neg (.int i) G = .ok (.bl neg) G := nd rfl
theorem isNon_tup {neg : Bool} {xs : List D} : isNonD neg (.tup xs) G = .ok (.bl neg) G := nd rfl
theorem isNon_bl {neg b : Bool} : isNonD neg (.bl b) G = .ok (.bl neg) G := nd rfl
theorem isNon_str {neg : Bool} {x : Str} : isNonD neg (.str x) G = .ok (.bl neg) G := nd rfl
theorem isNon_ref {neg : Bool} {x : Nat} : isNonD neg (.ref x) G = .ok (.bl neg) G := nd rfl
theorem truth_bl {b : Bool} : truthD (.bl b) G = .ok b G := nd rfl
theorem truth_int {i : Int} : truthD (.int i) G = .ok (i != 0) G := nd rfl
theorem truth_non : truthD .non G = .ok false G := nd rfl
theorem truth_tup {xs : List D} : truthD (.tup xs) G = .ok (!xs.isEmpty) G := nd rfl
theorem isB_bl {neg a b : Bool} : isBD neg (.bl a) (.bl b) G = .ok (.bl (if neg then !(a == b) else a == b)) G := nd rfl
theorem max_int {i j : Int} : maxD [.int i, .int j] G = .ok (.int (if j > i then j else i)) G := nd rfl
theorem min_int {i j : Int} : minD [.int i, .int j] G = .ok (.int (if j < i then j else i)) G := nd rfl
theorem len_tup {xs : List D} : lenD [.tup xs] G = .ok (.int xs.length) G := nd rfl
theorem int_bl {b : Bool} : intD [.bl b] G = .ok (.int (if b then 1 else 0)) G := nd rfl
theorem tup_tup {xs : List D} : tupleD [.tup xs] G = .ok (.tup xs) G := nd rfl
theorem tup_lst {p : Nat} {xs : List D} (h : G[p]? = some (.lst xs)) : tupleD [.ref p] G = .ok (.tup xs) G := by
  unfold tupleD
  simp only [lstOf_lst h]
/-! ### chains -/
theorem wE_chK {g g' : D → D → Hq → Rs D} {a b c : EF} {Q : D → Hq → Prop} : wE (chainC g g' a b c σ G) Q = wE (a σ G) (fun x G1 => wE (b σ G1) (fun y G2 => wE (g x y G2) (fun z G3 => tfK z (wE (c σ G3) (fun w G4 => wE (g' y w G4) Q)) (Q (.bl false) G3)))) := by
  unfold chainC
  rw [wE_bind]
  congr 1
  funext x G1
  rw [wE_bind]
  congr 1
  funext y G2
  rw [wE_bind]
  congr 1
  funext z G3
  cases z with
  | bl t => cases t <;> first | rfl | exact wE_bind
  | _ => rfl
theorem wE_ch3K {g g' g'' : D → D → Hq → Rs D} {a b c d : EF} {Q : D → Hq → Prop} : wE (chain3C g g' g'' a b c d σ G) Q = wE (a σ G) (fun x G1 => wE (b σ G1) (fun y G2 => wE (g x y G2) (fun z G3 => tfK z
    (wE (c σ G3) (fun w G4 => wE (g' y w G4) (fun z2 G5 => tfK z2 (wE (d σ G5) (fun v G6 => wE (g'' w v G6) Q)) (Q (.bl false) G5)))) (Q (.bl false) G3)))) := by
  unfold chain3C
  rw [wE_bind]
  congr 1
  funext x G1
  rw [wE_bind]
  congr 1
  funext y G2
  rw [wE_bind]
  congr 1
  funext z G3
  cases z with
  | bl t =>
    cases t with
    | false => rfl
    | true =>
      show wE (Rs.bind _ _) Q = wE (c σ G3) _
      rw [wE_bind]
      congr 1
      funext w G4
      rw [wE_bind]
      congr 1
      funext z2 G5
      cases z2 with
      | bl t => cases t <;> first | rfl | exact wE_bind
      | _ => rfl
  | _ => rfl
/-- what isinstance tells -/
def isK (t : Option Bool) (Q : D → Hq → Prop) (G : Hq) : Prop := match t with
  | some b => Q (.bl b) G
  | none => False
theorem isK_some {b : Bool} {Q : D → Hq → Prop} : isK (some b) Q G = Q (.bl b) G := ndP rfl
theorem wE_isK {T : String} {fo : EF} {Q : D → Hq → Prop} : wE (isiC T fo σ G) Q = wE (fo σ G) (fun x G1 => isK ((tyD G1 x).bind fun t => isTy t T) Q G1) := wE_isi
/-! ### kinds -/
theorem tyD_int {i : Int} : tyD G (.int i) = some "int" := nd rfl
theorem tyD_bl {i : Bool} : tyD G (.bl i) = some "bool" := nd rfl
theorem tyD_non : tyD G .non = some "NoneType" := nd rfl
theorem tyD_str {x : Str} : tyD G (.str x) = some "str" := nd rfl
theorem tyD_tup {xs : List D} : tyD G (.tup xs) = some "tuple" := nd rfl
theorem tyD_lst {p : Nat} {xs : List D} (h : G[p]? = some (.lst xs)) : tyD G (.ref p) = some "list" := by
  show (match G[p]? with
    | some (SX.C.lst _) => some "list"
    | some (.ro _) => some "list"
    | some (.dK _) => some "dict"
    | some (.dT _) => some "dict"
    | _ => none) = _
  rw [h]
theorem is_ii : ((some "int" : Option String).bind fun t => isTy t "int") = some true := nd rfl
theorem is_ib : ((some "int" : Option String).bind fun t => isTy t "bool") = some false := nd rfl
theorem is_it : ((some "int" : Option String).bind fun t => isTy t "tuple") = some false := nd rfl
theorem is_il : ((some "int" : Option String).bind fun t => isTy t "list") = some false := nd rfl
theorem is_bi : ((some "bool" : Option String).bind fun t => isTy t "int") = some true := nd rfl
theorem is_bb : ((some "bool" : Option String).bind fun t => isTy t "bool") = some true := nd rfl
theorem is_bt : ((some "bool" : Option String).bind fun t => isTy t "tuple") = some false := nd rfl
theorem is_bl : ((some "bool" : Option String).bind fun t => isTy t "list") = some false := nd rfl
theorem is_ni : ((some "NoneType" : Option String).bind fun t => isTy t "int") = some false := nd rfl
theorem is_nb : ((some "NoneType" : Option String).bind fun t => isTy t "bool") = some false := nd rfl
theorem is_nt : ((some "NoneType" : Option String).bind fun t => isTy t "tuple") = some false := nd rfl
theorem is_nl : ((some "NoneType" : Option String).bind fun t => isTy t "list") = some false := nd rfl
theorem is_si : ((some "str" : Option String).bind fun t => isTy t "int") = some false := nd rfl
theorem is_sb : ((some "str" : Option String).bind fun t => isTy t "bool") = some false := nd rfl
theorem is_st : ((some "str" : Option String).bind fun t => isTy t "tuple") = some false := nd rfl
theorem is_sl : ((some "str" : Option String).bind fun t => isTy t "list") = some false := nd rfl
theorem is_ti : ((some "tuple" : Option String).bind fun t => isTy t "int") = some false := nd rfl
theorem is_tb : ((some "tuple" : Option String).bind fun t => isTy t "bool") = some false := nd rfl
theorem is_tt : ((some "tuple" : Option String).bind fun t => isTy t "tuple") = some true := nd rfl
theorem is_tl : ((some "tuple" : Option String).bind fun t => isTy t "list") = some false := nd rfl
theorem is_li : ((some "list" : Option String).bind fun t => isTy t "int") = some false := nd rfl
theorem is_lb : ((some "list" : Option String).bind fun t => isTy t "bool") = some false := nd rfl
theorem is_lt : ((some "list" : Option String).bind fun t => isTy t "tuple") = some false := nd rfl
theorem is_ll : ((some "list" : Option String).bind fun t => isTy t "list") = some true := nd rfl
theorem atI_0 {x : D} {xs : List D} : atI (x :: xs) 0 = some x := atI_of (by omega) rfl
theorem atI_1 {x y : D} {xs : List D} : atI (x :: y :: xs) 1 = some y := atI_of (by omega) rfl
theorem atI_2 {x y z : D} {xs : List D} : atI (x :: y :: z :: xs) 2 = some z := atI_of (by omega) rfl
theorem atI_3 {x y z u : D} {xs : List D} : atI (x :: y :: z :: u :: xs) 3 = some u := atI_of (by omega) rfl
end
end SX
namespace SX
section
variable {G : Hq} {σ : Eq'} {N : Eq' → Hq → Prop}
theorem wE_gTp2 {g : List D → Eq' → Hq → Rs Eq'} {a b : D} : wE (gTp 2 g (.tup [a, b]) σ G) N = wE (g [a, b] σ G) N := wE_gTp rfl
theorem wE_gTp3 {g : List D → Eq' → Hq → Rs Eq'} {a b c : D} : wE (gTp 3 g (.tup [a, b, c]) σ G) N = wE (g [a, b, c] σ G) N := wE_gTp rfl
theorem wE_gTp4 {g : List D → Eq' → Hq → Rs Eq'} {a b c d : D} : wE (gTp 4 g (.tup [a, b, c, d]) σ G) N = wE (g [a, b, c, d] σ G) N := wE_gTp rfl
end
end SX

set_option Elab.async false
set_option linter.all false
set_option maxRecDepth 100000
set_option maxHeartbeats 1000000
namespace SX
open PySem PySem.Spec PyProof.Rows L2
/-! ### max(xs), min(xs) of a list of integers -/
def lmax : List Int → Int
  | [] => 0
  | [a] => a
  | a :: r => max a (lmax r)
def lmin : List Int → Int
  | [] => 0
  | [a] => a
  | a :: r => min a (lmin r)
theorem lmax_spec : ∀ {l : List Int}, l ≠ [] → lmax l ∈ l ∧ ∀ y ∈ l, y ≤ lmax l
  | [], h => absurd rfl h
  | [a], _ => ⟨by simp [lmax], fun y hy => by simp at hy; simp [lmax, hy]⟩
  | a :: b :: r, _ => by
    obtain ⟨h1, h2⟩ := lmax_spec (l := b :: r) (by simp)
    have e : lmax (a :: b :: r) = max a (lmax (b :: r)) := rfl
    rw [e]
    constructor
    · rcases Int.le_total a (lmax (b :: r)) with h | h
      · rw [Int.max_eq_right h]
        exact List.mem_cons_of_mem _ h1
      · rw [Int.max_eq_left h]
        exact List.mem_cons_self
    · intro y hy
      rcases List.mem_cons.mp hy with rfl | hy
      · omega
      · have := h2 y hy
        omega
theorem lmin_spec : ∀ {l : List Int}, l ≠ [] → lmin l ∈ l ∧ ∀ y ∈ l, lmin l ≤ y
  | [], h => absurd rfl h
  | [a], _ => ⟨by simp [lmin], fun y hy => by simp at hy; simp [lmin, hy]⟩
  | a :: b :: r, _ => by
    obtain ⟨h1, h2⟩ := lmin_spec (l := b :: r) (by simp)
    have e : lmin (a :: b :: r) = min a (lmin (b :: r)) := rfl
    rw [e]
    constructor
    · rcases Int.le_total a (lmin (b :: r)) with h | h
      · rw [Int.min_eq_left h]
        exact List.mem_cons_self
      · rw [Int.min_eq_right h]
        exact List.mem_cons_of_mem _ h1
    · intro y hy
      rcases List.mem_cons.mp hy with rfl | hy
      · omega
      · have := h2 y hy
        omega
def maxLD (xs : List D) (G : Hq) : Rs D := match xs with
  | [d] => match (lstOf G d).bind intsD with
    | some ns => if ns = [] then .bad else .ok (.int (lmax ns)) G
    | none => .bad
  | _ => .bad
def minLD (xs : List D) (G : Hq) : Rs D := match xs with
  | [d] => match (lstOf G d).bind intsD with
    | some ns => if ns = [] then .bad else .ok (.int (lmin ns)) G
    | none => .bad
  | _ => .bad
section
variable {X : Cx} {W : L2.St → XW} {k : Nat}
theorem f_maxL (C : Ctx X W k) : CallF X (.builtin "max") maxLD := by
  intro pins s σ m G H xs vs us Q Wx I S rx ru q
  unfold maxLD at q
  split at q
  · obtain ⟨v, rfl, r⟩ := vrs_one rx
    split at q
    · rename_i ns h
      by_cases hn : ns = []
      · rw [if_pos hn] at q
        exact q.elim
      · rw [if_neg hn] at q
        obtain ⟨ys, hl, hi⟩ := Option.bind_eq_some_iff.mp h
        obtain ⟨a, ws, rfl, h1, h2⟩ := lst_at S r hl
        have e := intsD_eq hi
        subst e
        have e := vrs_ints h2
        subst e
        obtain ⟨z1, z2⟩ := lmax_spec hn
        refine cr_max C.calm pins s σ H _ us Q I ru ⟨a, ns, rfl, h1, List.length_pos_iff.mpr hn, fun m' h3 h4 => ?_⟩
        have e : m' = lmax ns := Int.le_antisymm (z2 m' h3) (h4 _ z1)
        rw [e]
        exact q.here S (.int _)
    · exact q.elim
  · exact q.elim
theorem f_minL (C : Ctx X W k) : CallF X (.builtin "min") minLD := by
  intro pins s σ m G H xs vs us Q Wx I S rx ru q
  unfold minLD at q
  split at q
  · obtain ⟨v, rfl, r⟩ := vrs_one rx
    split at q
    · rename_i ns h
      by_cases hn : ns = []
      · rw [if_pos hn] at q
        exact q.elim
      · rw [if_neg hn] at q
        obtain ⟨ys, hl, hi⟩ := Option.bind_eq_some_iff.mp h
        obtain ⟨a, ws, rfl, h1, h2⟩ := lst_at S r hl
        have e := intsD_eq hi
        subst e
        have e := vrs_ints h2
        subst e
        obtain ⟨z1, z2⟩ := lmin_spec hn
        refine cr_min C.calm pins s σ H _ us Q I ru ⟨a, ns, rfl, h1, List.length_pos_iff.mpr hn, fun m' h3 h4 => ?_⟩
        have e : m' = lmin ns := Int.le_antisymm (h4 _ z1) (z2 m' h3)
        rw [e]
        exact q.here S (.int _)
    · exact q.elim
  · exact q.elim
theorem maxLD_of {G : Hq} {p : Nat} {ns : List Int} (h : G[p]? = some (.lst (ns.map D.int))) (hn : ns ≠ []) : maxLD [.ref p] G = .ok (.int (lmax ns)) G := by
  unfold maxLD
  simp only [lstOf_lst h, Option.bind_some, intsD_map, if_neg hn]
theorem minLD_of {G : Hq} {p : Nat} {ns : List Int} (h : G[p]? = some (.lst (ns.map D.int))) (hn : ns ≠ []) : minLD [.ref p] G = .ok (.int (lmin ns)) G := by
  unfold minLD
  simp only [lstOf_lst h, Option.bind_some, intsD_map, if_neg hn]
end
end SX

set_option Elab.async false
set_option linter.all false
set_option maxRecDepth 100000
set_option maxHeartbeats 1000000
namespace SX
open PySem PySem.Spec PyProof.Rows L2
/-! ### xs.extend(ys) -/
def extendD (x : D) (ys : List D) (G : Hq) : Rs D := match x, ys with
  | .ref p, [.ref q] => match G[p]?, G[q]? with
    | some (.lst xs), some (.lst zs) => if xs.length + zs.length ≤ 16777216 then .ok .non (G.set p (.lst (xs ++ zs))) else .bad
    | _, _ => .bad
  | _, _ => .bad
theorem m_extend : MtF X "list.extend" extendD := by
  intro pins s σ m G H x xs v vs u us Q Wx I S rx rxs ru rus q
  unfold extendD at q
  split at q
  · rename_i p b
    split at q
    · rename_i ws zs hg hb
      split at q
      · rename_i hz
        obtain ⟨a, ts, ha, hv, r⟩ := cell_lst S hg
        obtain ⟨c, ts2, hc, hv2, r2⟩ := cell_lst S hb
        obtain ⟨w, rfl, ry⟩ := vrs_one rxs
        cases rx with
        | ref ha' =>
          rw [ha] at ha'; cases ha'
          cases ry with
          | ref hc' =>
            rw [hc] at hc'; cases hc'
            have hm : Mut (H a) := by rw [hv]; trivial
            refine mt_extend pins s σ H _ _ u us Q I ru rus ⟨a, c, ts, ts2, rfl, rfl, hv, hv2, by rw [← r.length, ← r2.length]; exact hz, ?_⟩
            exact q m _ .non (xt_wr hm) (S.wr ha hm ⟨_, upd_same, (r.mono (xt_wr hm)).append (r2.mono (xt_wr hm))⟩) .non
      · exact q.elim
    · exact q.elim
  · exact q.elim
theorem m_extend_ty : typeOf (.builtin "list.extend") = pure (.type "method_descriptor") := PySem.F.type_list_extend
/-! ### xs[lo:hi:step] of a list -/
def pick3 {α : Type} (xs : List α) (lo hi st : Option Int) : List α :=
  (sliceRange (sliceBounds lo hi st xs.length).1 (sliceBounds lo hi st xs.length).2.1 (sliceBounds lo hi st xs.length).2.2).filterMap (xs[·]?)
def cut3Of (x : D) (lo hi st : Option Int) (G : Hq) : Rs D := match lstOf G x with
  | some xs => if st ≠ some 0 ∧ (pick3 xs lo hi st).length ≤ 16777216 then .ok (.ref G.length) (G ++ [.lst (pick3 xs lo hi st)]) else .bad
  | none => .bad
def slice3C (o : EF) (lo hi st : OF) : EF := fun σ G => (o σ G).bind fun x G1 => (lo σ G1).bind fun l G2 => (hi σ G2).bind fun h G3 => (st σ G3).bind fun c G4 => cut3Of x l h c G4
theorem VRs.pickN {K : PySem.W.Frag} {m : List Addr} {H : Hp} {xs : List D} {vs : List V} (r : VRs K m H xs vs) : ∀ ks : List Nat, VRs K m H (ks.filterMap (xs[·]?)) (ks.filterMap (vs[·]?))
  | [] => .nil
  | k :: ks => by
    cases e : xs[k]? with
    | none =>
      have e2 : vs[k]? = none := by
        rw [List.getElem?_eq_none_iff] at e ⊢
        rw [← r.length]
        exact e
      rw [List.filterMap_cons_none e, List.filterMap_cons_none e2]
      exact r.pickN ks
    | some x =>
      obtain ⟨w, h1, h2⟩ := r.get e
      rw [List.filterMap_cons_some e, List.filterMap_cons_some h1]
      exact .cons h2 (r.pickN ks)
theorem vals_pickN {vs : List V} {us : List Value} (r : Vals vs us) : ∀ ks : List Nat, Vals (ks.filterMap (vs[·]?)) (ks.filterMap (us[·]?))
  | [] => .nil
  | k :: ks => by
    have ih := vals_pickN r ks
    cases e : vs[k]? with
    | none =>
      have e2 : us[k]? = none := by
        rw [List.getElem?_eq_none_iff] at e ⊢
        rw [← r.length]
        exact e
      rw [List.filterMap_cons_none e, List.filterMap_cons_none e2]
      exact ih
    | some x =>
      obtain ⟨w, h1, h2⟩ := r.get e
      rw [List.filterMap_cons_some e, List.filterMap_cons_some h1]
      exact .cons h2 ih
section
variable {X : Cx} {W : L2.St → XW}
theorem xe_slice3 {e st : Expr} {lo hi : Option Expr} {fo : EF} {fl fh fs : OF} {p2 pos : Pos} (he : PE X e (tE X W fo)) (hl : PO X lo (tO (X := X) (W := W) fl)) (hh : PO X hi (tO (X := X) (W := W) fh)) (hs : PO X (some st) (tO (X := X) (W := W) fs)) : PE X (.Subscript e (.Slice lo hi (some st) p2) pos) (tE X W (slice3C fo fl fh fs)) := by
  refine ⟨fun pins s σ H Q I ⟨m, σ', G, S, R, q⟩ => ?_⟩
  refine Subscript_ (thn (he.run pins s σ H (fun v H1 => ∃ m1 G1 x, Sim X.K m1 G1 H1 ∧ SR X.K m1 H1 σ' σ ∧ VR X.K m1 H1 x v ∧ PostR X.K X.mg (VR X.K) (W σ) m1 H1 ((fl σ' G1).bind fun l G2 => (fh σ' G2).bind fun h G3 => (fs σ' G3).bind fun c G4 => cut3Of x l h c G4) Q) I
    ⟨m, σ', G, S, R, (PostR.bnd (R := VR X.K) q).imp fun v H1 ⟨m1, G1, x, e1, S1, r1, _, h1⟩ => ⟨m1, G1, x, S1, R.mono e1, r1, h1⟩⟩) fun v s1 ⟨x', H1, I1, rv, m1, G1, x, S1, R1, r1, q1⟩ => ?_)
  refine wpAny_Slice (thn (hl.run pins s1 σ H1 (fun l H2 => ∃ m2 G2, Xt X.K m1 H1 m2 H2 ∧ Sim X.K m2 G2 H2 ∧ PostR X.K X.mg (VR X.K) (W σ) m2 H2 ((fh σ' G2).bind fun h G3 => (fs σ' G3).bind fun c G4 => cut3Of x l h c G4) Q) I1
    ⟨m1, σ', G1, S1, R1, (PostR.bnd (R := fun _ _ a b => a = b) q1).imp fun l H2 ⟨m2, G2, l', e2, S2, r2, _, h2⟩ => by subst r2; exact ⟨m2, G2, e2, S2, h2⟩⟩) fun vl s2 ⟨l, H2, I2, pl, m2, G2, e2, S2, q2⟩ => ?_)
  refine thn (hh.run pins s2 σ H2 (fun h H3 => ∃ m3 G3, Xt X.K m2 H2 m3 H3 ∧ Sim X.K m3 G3 H3 ∧ PostR X.K X.mg (VR X.K) (W σ) m3 H3 ((fs σ' G3).bind fun c G4 => cut3Of x l h c G4) Q) I2
    ⟨m2, σ', G2, S2, R1.mono e2, (PostR.bnd (R := fun _ _ a b => a = b) q2).imp fun h H3 ⟨m3, G3, h', e3, S3, r3, _, h3⟩ => by subst r3; exact ⟨m3, G3, e3, S3, h3⟩⟩) fun vu s3 ⟨h, H3, I3, pu, m3, G3, e3, S3, q3⟩ => ?_
  refine thn (hs.run pins s3 σ H3 (fun c H4 => ∃ m4 G4, Xt X.K m3 H3 m4 H4 ∧ Sim X.K m4 G4 H4 ∧ PostR X.K X.mg (VR X.K) (W σ) m4 H4 (cut3Of x l h c G4) Q) I3
    ⟨m3, σ', G3, S3, (R1.mono e2).mono e3, (PostR.bnd (R := fun _ _ a b => a = b) q3).imp fun c H4 ⟨m4, G4, c', e4, S4, r4, _, h4⟩ => by subst r4; exact ⟨m4, G4, e4, S4, h4⟩⟩) fun vs s4 ⟨c, H4, I4, ps, m4, G4, e4, S4, q4⟩ => ?_
  have rx := ((r1.mono e2).mono e3).mono e4
  unfold cut3Of at q4
  split at q4
  · rename_i xs hx
    split at q4
    · rename_i hc
      obtain ⟨a, ws, ex, h1, h2⟩ := lst_at S4 rx hx
      subst ex
      cases rv
      have I5 : Inv X pins σ H4 { s4 with heap := s4.heap.push { cls := .type "slice", data := .fields #[vl, vu, vs] } } := I4.kept (t' := s4.toks) fun b ob q => Heap.get?_push_of_some _ q
      obtain ⟨its, r, ht, hz⟩ := I5.list h1
      have hlen := r.length
      show wpAny (model X.prog X.w) X.A (subscriptTail e (.Slice lo hi (some st) p2) (.ref a) (.ref s4.heap.objs.size)) (EP X pins σ Q) X.xe { s4 with heap := s4.heap.push { cls := .type "slice", data := .fields #[vl, vu, vs] } }
      refine tail_any (ops := [.ref a, .ref s4.heap.objs.size]) ht.isList.typeIs (PySem.slot_list_getitem.lookup) ?_ (by with_unfolding_all rfl)
      refine wpAny_getItem_list_slice ht.isList (Heap.IsSliceOf.new _ vl vu vs) pl pu ps hc.1 ?_ (by rw [List.size_toArray]; omega)
      have hD : VRs X.K m4 H4 (pick3 xs l h c) (pick3 ws l h c) := by
        unfold pick3
        rw [h2.length]
        exact h2.pickN _
      have hV : Vals (pick3 ws l h c) (pick3 its l h c) := by
        unfold pick3
        rw [hlen]
        exact vals_pickN r _
      have eA : slicePick its.toArray l h c = (pick3 its l h c).toArray := by
        unfold slicePick pick3
        rw [List.size_toArray]
        congr 1
        refine congrArg (fun f => List.filterMap f _) (funext fun k => ?_)
        simp
      rw [eA]
      refine ⟨.ref _, _, I5.laid (t' := s4.toks) (o := .lst (pick3 ws l h c)) (fun b ob q => Heap.get?_push_of_some _ q) (Nat.le_refl _) ?_, rfl, ?_⟩
      · exact ⟨by rw [← hD.length]; exact hc.2, _, 0, hV, Heap.get?_push_size _ rfl⟩
      · have hf := I5.hok.fresh (Nat.le_refl ({ s4 with heap := s4.heap.push { cls := .type "slice", data := .fields #[vl, vu, vs] } } : Shared).heap.objs.size)
        have hcr : CR X.K (m4 ++ [_]) (upd H4 _ (.lst (pick3 ws l h c))) _ (.lst (pick3 xs l h c)) := ⟨_, upd_same, hD.mono (xt_push hf)⟩
        exact q4 (m4 ++ [_]) _ _ (xt_push hf) (S4.push hf hcr) (.ref (by rw [← S4.len]; simp))
    · exact q4.elim
  · exact q4.elim
end
end SX

set_option linter.all false
set_option maxRecDepth 100000
set_option maxHeartbeats 1000000
namespace SX
open PySem PySem.Spec PyProof.Rows L2
/-! ### a call of an item of a written list of functions: [f, g, ..][i](x, ..) -/
def pickC (ffs : List FF) (i : Nat) (fr : AF) : EF := fun σ G => match σ[i]? with
  | some (some (.int j)) => match atI ffs j with
    | some ff => fnC ff [] fr σ G
    | none => .bad
  | _ => .bad
inductive PkF (X : Cx) (k n : Nat) : List Expr → List Addr → List FF → Prop
  | nil : PkF X k n [] [] []
  | cons {x : Str} {p : Pos} {f : Addr} {fd : FuncData} {ps : List Str} {ff : FF} {es : List Expr} {fs : List Addr} {ffs : List FF} (F : FnG X.prog X.w X.K X.mg X.base k f fd ps (spF X.K X.mg ps.length ff)) (hm : X.mg x = some (.ref f))
    (hk : PySem.W.keepIn X.K (.ref f) = true) (hb : Binds X.K fd ps []) (hn : n = ps.length) (hg : Gl X x) (hd : (x == ("__debug__" : Str)) = false) (r : PkF X k n es fs ffs) : PkF X k n (.Name x p :: es) (f :: fs) (ff :: ffs)
theorem bind_none {K : PySem.W.Frag} {fd : FuncData} {ps : List Str} (h : ∃ ds, Vals [] ds ∧ Binds K fd ps ds) : Binds K fd ps [] := by
  obtain ⟨ds, h1, h2⟩ := h
  cases h1
  exact h2
section
variable {X : Cx} {W : L2.St → XW} {k n : Nat} {es : List Expr} {fs : List Addr} {ffs : List FF}
def tNm (fs : List Addr) : TA := fun _ H Q => Q (fs.map V.ref) H
theorem PkF.args : ∀ {es : List Expr} {fs : List Addr} {ffs : List FF}, PkF X k n es fs ffs → PA X es (tNm fs)
  | _, _, _, .nil => pa_nil
  | _, _, _, .cons F hm hk hb hn hg hd r => pa_cons (te := tC (.ref _)) (pe_glob hg hm rfl hd) r.args
theorem PkF.lens : ∀ {es : List Expr} {fs : List Addr} {ffs : List FF}, PkF X k n es fs ffs → fs.length = ffs.length
  | _, _, _, .nil => rfl
  | _, _, _, .cons _ _ _ _ _ _ _ r => by rw [List.length_cons, List.length_cons, r.lens]
theorem PkF.get : ∀ {es : List Expr} {fs : List Addr} {ffs : List FF} {i : Nat} {ff : FF}, PkF X k n es fs ffs → ffs[i]? = some ff →
    ∃ f fd ps, fs[i]? = some f ∧ FnG X.prog X.w X.K X.mg X.base k f fd ps (spF X.K X.mg ps.length ff) ∧ PySem.W.keepIn X.K (.ref f) = true ∧ Binds X.K fd ps [] ∧ n = ps.length
  | _, _, _, _, _, .nil, h => by simp at h
  | _, _, _, 0, _, .cons F hm hk hb hn hg hd r, h => by
    simp at h
    subst h
    exact ⟨_, _, _, rfl, F, hk, hb, hn⟩
  | _, _, _, i + 1, _, .cons F hm hk hb hn hg hd r, h => by
    simp at h
    obtain ⟨f, fd, ps, h1, h2⟩ := r.get h
    exact ⟨f, fd, ps, by simpa using h1, h2⟩
theorem xe_pick {y : Str} {p1 p2 p3 pos : Pos} {e : Expr} {es2 : List Expr} {fr : AF} (C : Ctx X W k) (N : PkF X k n es fs ffs) (i : Nat) (ha : PA X (e :: es2) (tA X W fr)) (hlen : ALen fr n) (hz : ffs.length ≤ sizeLine := by show _ ≤ 16777216; decide)
    (hN : X.N[i]? = some y := by rfl) (hv : Vis X.env.scope y := by first | exact Or.inl rfl | exact Or.inr (Or.inl rfl) | exact Or.inr (Or.inr rfl)) (hd : (y == ("__debug__" : Str)) = false := by decide) (hcd : (y == ("__classdict__" : Str)) = false := by decide)
    (hs : ∀ o j, subscripted (.Name y p2) false o j = operate [o, j] (getItem o j) := by intro _ _; rfl)
    (he : starEach (e :: es2) X.env = (false, eval e X.env) :: starEach es2 X.env := by rfl) (hpl : (backTo pos (starEach es2 X.env)).any (·.1) = false := by rfl) :
    PE X (.Call (.Subscript (.List es p1) (.Name y p2) p3) (e :: es2) [] pos) (tE X W (pickC ffs i fr)) := by
  refine ⟨fun pins s σ H Q I ⟨m, σ', G, S, R, q⟩ => Call_ ?_⟩
  unfold pickC at q
  split at q
  · rename_i j hj
    split at q
    · rename_i ff hff
      obtain ⟨v, ev, rv⟩ := R.get hj
      cases rv
      obtain ⟨jn, hjn, hget⟩ : ∃ jn, ixN ffs.length j = some jn ∧ ffs[jn]? = some ff := by
        unfold atI at hff
        cases h : ixN ffs.length j with
        | none => rw [h] at hff; cases hff
        | some jn => rw [h] at hff; exact ⟨jn, rfl, hff⟩
      obtain ⟨f, fd, ps, hf, F, hk, hb, hn⟩ := N.get hget
      have hat : atI (fs.map V.ref) j = some (.ref f) := by
        unfold atI
        rw [List.length_map, N.lens, hjn]
        show (fs.map V.ref)[jn]? = some (.ref f)
        rw [List.getElem?_map, hf]
        rfl
      have sub : wpAny (model X.prog X.w) X.A (eval (.Subscript (.List es p1) (.Name y p2) p3) X.env) (EP X pins σ fun v H' => v = .ref f ∧ ∃ a, H a = none ∧ H' = upd H a (.lst (fs.map V.ref))) X.xe s := by
        refine Subscript_ (binT (R := fun x w H2 => ∃ a, x = .ref a ∧ w = .int j ∧ H a = none ∧ H2 = upd H a (.lst (fs.map V.ref))) (pe_lst N.args) (pe_var (i := i) hN hv hd hcd) I ?_ fun u z s2 x w H2 I2 rx rw_ h => ?_)
        · show (fs.map V.ref).length ≤ sizeLine ∧ _
          exact ⟨by rw [List.length_map, N.lens]; exact hz, fun a ha => ⟨_, ev, a, rfl, rfl, ha, rfl⟩⟩
        · obtain ⟨a, rfl, rfl, h1, rfl⟩ := h
          exact ix_list (.List es p1) (.Name y p2) pins s2 σ _ _ _ u z _ I2 rx rw_ ⟨a, fs.map V.ref, j, .ref f, rfl, rfl, .inl (.inl upd_same), hat, rfl, a, h1, rfl⟩ (hs _ _)
      refine thn sub fun u s1 ⟨v, H1, I1, rv, ev1, a, ha1, eH⟩ => ?_
      subst ev1
      subst eH
      cases rv
      have xt : Xt X.K m H m (upd H a (.lst (fs.map V.ref))) := xt_more ha1
      have q' : tA X W fr σ (upd H a (.lst (fs.map V.ref))) fun vs H1 => ∃ vs0, Vals vs0 ([] : List Value) ∧ spF X.K X.mg ps.length ff (vs ++ vs0) H1 Q (W σ) := by
        refine ⟨m, σ', G, S.more ha1, R.mono xt, (PostR.bnd (R := VRs X.K) (q.shift xt)).imp fun vs H1 ⟨m1, G1, xs, e1, S1, r1, er, h1⟩ => ?_⟩
        refine ⟨[], .nil, ?_, m1, xs, G1, S1, by rw [List.append_nil]; exact r1, by rw [List.append_nil] at h1; exact h1⟩
        rw [List.append_nil, ← r1.length, hlen _ _ _ _ er]
        exact hn
      refine PySem.W.callWith_K (h₀ := X.base) I1.ok.mod.kin hk (thn (ha.run pos pins s1 σ _ _ I1 q') fun us s2 z => ?_) he hpl
      obtain ⟨vs, H2, I2, r, vs0, hv0, z⟩ := z
      exact ⟨I2.kIn, run_G C F hb hv0 I2 r z⟩
    · exact q.elim
  · exact q.elim
end
end SX

set_option Elab.async false
set_option linter.all false
set_option maxRecDepth 100000
set_option maxHeartbeats 1000000
/-! an error that is made and not raised: a value -/
namespace SX
open PySem PySem.Spec PyProof.Rows L2 ClX
section
variable {X : Cx} {W : L2.St → XW} {k : Nat} {T C : Addr}
theorem pe_mk {e : Expr} {t : L2.St → Hp → XK → Prop} (hex : X.ex = []) (he : PMk X e t) :
    PE X e (fun σ H Q => t σ H fun cls d H' => ∃ C dd, cls = .ref C ∧ d = some dd ∧ ∀ a, H' a = none → Q (.ref a) (upd H' a (exi a C dd))) := by
  refine ⟨fun pins s σ H Q I h => thn (he pins s σ H _ I h) fun u s1 hu => ?_⟩
  obtain ⟨a, oe, vs, sI, H', cls, d, rfl, J, kk, hne, ha, hz, hd, h1, na, os, ag, r, C, dd, rfl, rfl, q⟩ := hu
  have J3 : L2.Inv X pins σ H' s1 := J.landed (B := PySem.W.hideAll sI.heap (frs X.stack)) (fun b o e hb => PySem.W.hideAll_get _ e hb) (fun b o e => kk b o (PySem.W.of_hideAll _ e)) (Heap.UpToSlots.of_keeps kk) os ag
  have n0 : X.s_0.heap.get? a = none := by
    cases q : X.s_0.heap.get? a with
    | none => rfl
    | some o =>
      obtain ⟨o', z⟩ := J.base.there a o q (by rw [hex]; simp)
      rw [hne] at z
      cases z
  have nL : a ≠ X.env.locals := fun z => by
    obtain ⟨m, hm, _⟩ := J.loc
    obtain ⟨o, es, ep, ho, _⟩ := hm
    rw [← z, hne] at ho
    cases ho
  have nc : ∀ x c, X.env.cells.lookup x = some c → c ≠ a := fun x c e z => by
    obtain ⟨v, o, q1, q2⟩ := J.cell x c e
    rw [z, hne] at q1
    cases q1
  have np : ∀ p ∈ X.pn ++ pins, p.1 ≠ a := fun p hp z => by
    have q := (J.pin p hp).1
    rw [z, hne] at q
    cases q
  have J4 : L2.Inv X pins σ (upd H' a (exi a C dd)) s1 := Inv.track J3 n0 na nL nc np (exi_ok ha hz.1 hz.2 hd)
  exact ⟨.ref a, _, J4, rfl, q a na⟩
/-! ### X(e), X() -/
def insX (x : Str) (i : Nat) : SX.C := .ins x [(Str.empty, .ref i)]
@[irreducible] def newC (x : Str) (e : EF) : EF := fun σ G => (e σ G).bind fun d G1 => if showsD d G1 then .ok (.ref (G1.length + 1)) (G1 ++ [errX x d] ++ [insX x G1.length]) else .bad
@[irreducible] def new0C (x : Str) : EF := fun _ G => .ok (.ref (G.length + 1)) (G ++ [errX x .non] ++ [insX x G.length])
theorem new_end {x : Str} {d : D} {m1 : List Addr} {G1 : Hq} {H1 : Hp} {Q : V → Hp → Prop} {e' a : Addr} {m' : List Addr} {H' : Hp}
    (h1 : ∀ m' H' v, Xt X.K m1 H1 m' H' → Sim X.K m' (G1 ++ [errX x d] ++ [insX x G1.length]) H' → VR X.K m' H' (.ref (G1.length + 1)) v → Q v H')
    (x1 : Xt X.K m1 H1 m' H') (x2 : Sim X.K m' (G1 ++ [errX x d]) H') (x3 : m'[G1.length]? = some e') (ha : H' a = none) : Q (.ref a) (upd H' a (exi a (He.ga X.K x) e')) := by
  have xp := xt_push (K := X.K) (m := m') (o := exi a (He.ga X.K x) e') ha
  have ha' : (m' ++ [a])[G1.length]? = some e' := xp.at x3
  have hl : m'.length = G1.length + 1 := by
    rw [x2.len]
    simp
  refine h1 (m' ++ [a]) _ _ (x1.trans xp) (x2.push (c := insX x G1.length) ha ⟨e', G1.length, rfl, ha', upd_same⟩) (.ref ?_)
  rw [← hl]
  simp
theorem xe_new {x : Str} {a : Expr} {fa : EF} {p p2 : Pos} (E : ErrD X.prog X.w X.K X.mg X.base x T C) (hga : X.mg x = some (.ref (He.ga X.K x))) (D : CtxT X W k) (ha : PE X a (tE X W fa)) (hk : 3 ≤ k := by decide) (hg : Gl X x := by rfl) (hdb : (x == ("__debug__" : Str)) = false := by decide)
    (he : starEach [a] X.env = (false, eval a X.env) :: starEach [] X.env := by rfl) (hpl : (backTo p2 (starEach [] X.env)).any (·.1) = false := by rfl) : PE X (.Call (.Name x p) [a] [] p2) (tE X W (newC x fa)) := by
  have hC : C = He.ga X.K x := by
    have := E.at_.symm.trans hga
    cases this
    rfl
  subst hC
  refine ⟨fun pins s σ H Q I ⟨m, σ', G, S, R, q⟩ => (pe_mk (t := fun σ H Q => tE X W fa σ H fun v H1 => ∃ m1 G1 d, Sim X.K m1 G1 H1 ∧ VR X.K m1 H1 d v ∧ showsD d G1 = true ∧
    ∀ m' H' e', Xt X.K m1 H1 m' H' → Sim X.K m' (G1 ++ [errX x d]) H' → m'[G1.length]? = some e' → Q (.ref (He.ga X.K x)) (some e') H') D.hex ?_).run pins s σ H Q I ?_⟩
  · intro pins s σ H Q I h
    obtain ⟨f, fd, ds, hi, ti, FI, hb, _⟩ := E.ini
    refine wpAny_Call_Name_kw (ld_glob I hg E.at_ ?_ hdb)
    refine PySem.W.callWith_K (h₀ := X.base) I.ok.mod.kin E.keep ?_ he hpl
    rw [he]
    show wpAny _ _ (spliced ((false, eval a X.env) :: backTo p2 (starEach [] X.env))) _ _ s
    refine Calls.spliced_cons (thn (ha.run pins s σ H _ I h) fun u s1 ⟨v, H1, I1, r1, m1, G1, d, S1, rd, sh, q1⟩ => ?_)
    refine Calls.spliced_nil ⟨I1.kIn, ?_⟩
    show wpAny _ _ (call (.ref (He.ga X.K x)) [u]) _ _ _
    obtain ⟨a0, e0, w1, w2, w3, w5⟩ := showsD_of sh
    refine pmk_err (us := [u]) (vs := [v]) (ds := []) E D.c hk I1 hi ti FI hb (.cons r1 .nil) (fun b => .cons rfl (.cons r1 .nil)) (Nat.le_refl _) (a0 := a0) (fun b hb' => ?_) w1 w2 w3 w5 (fun b dx h1 h2 => ?_)
    · exact toPy_dp (S1.more hb') 24 d v a0 (rd.mono (xt_more hb')) e0
    · exact made_sim S1 rd h1 h2 q1
  · unfold newC at q
    refine ⟨m, σ', G, S, R, (PostR.bnd (R := VR X.K) q).imp fun v H1 ⟨m1, G1, d, e1, S1, r1, _, h1⟩ => ?_⟩
    by_cases hs : showsD d G1 = true
    · rw [if_pos hs] at h1
      exact ⟨m1, G1, d, S1, r1, hs, fun m' H' e' x1 x2 x3 => ⟨_, e', rfl, rfl, fun a ha => new_end h1 x1 x2 x3 ha⟩⟩
    · rw [if_neg hs] at h1
      exact h1.elim
theorem xe_new0 {x : Str} {p p2 : Pos} (E : ErrD X.prog X.w X.K X.mg X.base x T C) (hga : X.mg x = some (.ref (He.ga X.K x))) (D : CtxT X W k) (hk : 3 ≤ k := by decide) (hg : Gl X x := by rfl) (hdb : (x == ("__debug__" : Str)) = false := by decide) :
    PE X (.Call (.Name x p) [] [] p2) (tE X W (new0C x)) := by
  have hC : C = He.ga X.K x := by
    have := E.at_.symm.trans hga
    cases this
    rfl
  subst hC
  refine ⟨fun pins s σ H Q I ⟨m, σ', G, S, R, q⟩ => (pe_mk (t := fun σ H Q => ∃ m1 G1, Sim X.K m1 G1 H ∧
    ∀ m' H' e', Xt X.K m1 H m' H' → Sim X.K m' (G1 ++ [errX x .non]) H' → m'[G1.length]? = some e' → Q (.ref (He.ga X.K x)) (some e') H') D.hex ?_).run pins s σ H Q I ?_⟩
  · intro pins s σ H Q I h
    obtain ⟨f, fd, ds, hi, ti, FI, _, hb, hv⟩ := E.ini
    obtain ⟨m1, G1, S1, q1⟩ := h
    refine wpAny_Call_Name_kw (ld_glob I hg E.at_ ?_ hdb)
    refine PySem.W.callWith_K0 I.kIn E.keep ?_
    show wpAny _ _ (call (.ref (He.ga X.K x)) []) _ _ _
    refine pmk_err (us := []) (vs := []) (ds := ds) (pl := .non) E D.c hk I hi ti FI hb .nil (fun b => .cons rfl hv) (Nat.zero_le _) (a0 := .none) (fun b hb' => ?_) rfl rfl (by decide) (by decide) (fun b dx h1 h2 => ?_)
    · exact .non
    · exact made_sim S1 .non h1 h2 q1
  · unfold new0C at q
    exact ⟨m, G, S, fun m' H' e' x1 x2 x3 => ⟨_, e', rfl, rfl, fun a ha => new_end q x1 x2 x3 ha⟩⟩
/-! ### the class above all errors, made with a word -/
structure ErrT (P : Program) (w : World) (K : PySem.W.Frag) (mg : Str → Option Value) (base : Heap) (T : Addr) : Prop where
  at_ : mg "TermError" = some (.ref T)
  err : ErrC K T T
  keep : PySem.W.keepIn K (.ref T) = true
  ini : ∃ (f : Addr) (fd : FuncData) (ds : List Value), PySem.W.findIn K (.ref T) "__init__" = some (some (.ref f)) ∧ PySem.W.typeIn K (.ref f) = some (.type "function") ∧ FnG P w K mg base 1 f fd ["self", "word", "place"] (spT T K) ∧ Binds K fd ["self", "word", "place"] [] ∧
    Binds K fd ["self", "word", "place"] ds ∧ Vals [V.non] ds
theorem pmk_errT {cn : Str} (E : ErrT X.prog X.w X.K X.mg X.base T) (Cx0 : Ctx X W k) (hk : 3 ≤ k) (hcn : cn.length ≤ 1000) {pins : List (Addr × Obj)} {s : Shared} {σ : L2.St} {H : Hp} {Q : XK} {f : Addr} {fd : FuncData} {ds us : List Value} {pl : V} (I : Inv X pins σ H s)
    (hi : PySem.W.findIn X.K (.ref T) "__init__" = some (some (.ref f))) (ti : PySem.W.typeIn X.K (.ref f) = some (.type "function")) (FI : FnG X.prog X.w X.K X.mg X.base 1 f fd ["self", "word", "place"] (spT T X.K)) (hb : Binds X.K fd ["self", "word", "place"] ds)
    (e : ∀ a : Addr, Vals [V.ref a, .str cn, pl] (Value.ref a :: (us ++ ds))) (hl : us.length ≤ 2) {a0 : PyData} (dp : ∀ a, H a = none → Dp X.K (upd H a (exo a T none)) pl a0) (w1 : a0.showable = true) (w2 : a0.hasDict = false) (w3 : a0.depth ≤ 60) (w5 : a0.shown.length ≤ 16000000)
    (q : ∀ a dx, H a = none → H dx = none → Q (.ref T) (some dx) (upd (del (upd (upd (upd (upd H a (exo a T none)) dx (exd dx [("word", .str cn)])) a (exo a T (some dx))) dx (exd dx [("place", pl), ("word", .str cn)])) a) dx (.xd [("place", pl), ("word", .str cn)]))) :
    wpAny (model X.prog X.w) X.A (call (.ref T) us) (MkP X pins σ Q) X.xe s := by
  obtain ⟨nm, qn, N, bs, bm, sn, sub, ab, col, dd, k0, k1, k2, k3, k5, hC, hbm⟩ := E.err.oex.cls
  obtain ⟨hp, g, dr, tk, os⟩ := s
  have hsz : hp.objs.size ≤ hp.objs.size + 1 := Nat.le_succ _
  have hn : H (hp.objs.size + 1) = none := I.hok.fresh hsz
  have kk : ∀ b o, hp.get? b = some o → ((hp.push (PySem.W.kdv_tup us)).push (PySem.HandSPX.excO T hp.objs.size)).get? b = some o := fun b o e => Heap.get?_push_of_some _ (Heap.get?_push_of_some _ e)
  have hget : ((hp.push (PySem.W.kdv_tup us)).push (PySem.HandSPX.excO T hp.objs.size)).get? (hp.objs.size + 1) = some (PySem.HandSPX.excO T hp.objs.size) := by heap_get
  have I2 : Inv X pins σ (upd H (hp.objs.size + 1) (exo (hp.objs.size + 1) T none)) ⟨(hp.push (PySem.W.kdv_tup us)).push (PySem.HandSPX.excO T hp.objs.size), g, dr, tk, os⟩ :=
    I.laid (t' := tk) (a := hp.objs.size + 1) (o := exo (hp.objs.size + 1) T none) (h' := (hp.push (PySem.W.kdv_tup us)).push (PySem.HandSPX.excO T hp.objs.size)) kk hsz (exo_ok hget)
  have r2 := e (hp.objs.size + 1)
  have hl2 : (Value.ref (hp.objs.size + 1) :: us ++ ds).length = 3 := r2.length.symm
  have hr : Room 2 X.A := Cx0.room.mono (by omega)
  have hgd : (X.A.under (.builtin "type.__call__" ⟨.ref T :: us, []⟩)).guards = some [] := by
    have h0 := Cx0.gd
    first | exact h0 | (simpa [Around.under, Code.isGuard, guardIds] using h0)
  have hsp : spT T X.K [V.ref (hp.objs.size + 1), .str cn, pl] (upd H (hp.objs.size + 1) (exo (hp.objs.size + 1) T none)) (fun v H2 => v = .non ∧ ∃ (d : Addr) (fs : List (Str × V)), H2 (hp.objs.size + 1) = some (exo (hp.objs.size + 1) T (some d)) ∧ H2 d = some (exd d fs) ∧ H d = none ∧ Q (.ref T) (some d) (upd (del H2 (hp.objs.size + 1)) d (.xd fs))) (fun _ _ _ => False) := by
    refine ⟨_, T, cn, pl, rfl, E.err, upd_same, ⟨a0, dp _ hn, w1, w2, w3, hcn, w5⟩, fun dx d1 d2 => ⟨rfl, dx, _, ?_, upd_same, ?_, ?_⟩⟩
    · rw [upd_ne (Ne.symm d2), upd_same]
    · rw [upd_ne d2] at d1
      exact d1
    · rw [upd_ne d2] at d1
      exact q _ dx hn d1
  refine wpAny_call (PySem.HandSPX.call_own F.excBase_ValueError (fun Y => PySem.HandSPX.refsVE_contains Y bm hbm) (I.kIn _ _ hC) (PySem.W.looks_findIn I.kIn hi) (fun self => PySem.W.bind_fn I.kIn self ti) (by rw [sizeLine_eq]; omega)
    (codeAny_mono (FI.go _ X.stack _ _ ⟨Value.ref (hp.objs.size + 1) :: us, []⟩ (Value.ref (hp.objs.size + 1) :: (us ++ ds)) _ _ (fun _ _ _ => False) hgd (hr.make T us []) (I2.env0.make T us []) (hb _ (Value.ref (hp.objs.size + 1) :: us) I2.kIn hl2) r2 hsp) fun res s' hq' => ?_))
  cases res with
  | error er =>
    obtain ⟨_, _, _, _, _, _, _, _, _, _, _, _, z⟩ := hq'
    exact z.elim
  | ok fl =>
    cases fl with
    | ret u =>
      obtain ⟨v, H2, os2, bare2, un2, hok2, rv, ev, d, fs, ea, ed, hd1, q2⟩ := hq'
      subst ev
      obtain ⟨h2, g2, d2, t2, os'⟩ := s'
      exact ⟨rv, mk_end (raises_own E.err.oex.exC E.err.oex.tyC) I hsz kk un2 hok2 os2 bare2 ea ed hd1 q2⟩
    | next => exact False.elim hq'
    | brk => exact False.elim hq'
    | cont => exact False.elim hq'
/-- TermError("word", e), TermError("word") -/
@[irreducible] def newT2 (cn : Str) (e : EF) : EF := fun σ G => (e σ G).bind fun d G1 => if showsD d G1 then .ok (.ref (G1.length + 1)) (G1 ++ [errX cn d] ++ [insX "TermError" G1.length]) else .bad
@[irreducible] def newT1 (cn : Str) : EF := fun _ G => .ok (.ref (G.length + 1)) (G ++ [errX cn .non] ++ [insX "TermError" G.length])
theorem new_endT {cn : Str} {d : D} {m1 : List Addr} {G1 : Hq} {H1 : Hp} {Q : V → Hp → Prop} {e' a : Addr} {m' : List Addr} {H' : Hp}
    (h1 : ∀ m' H' v, Xt X.K m1 H1 m' H' → Sim X.K m' (G1 ++ [errX cn d] ++ [insX "TermError" G1.length]) H' → VR X.K m' H' (.ref (G1.length + 1)) v → Q v H')
    (x1 : Xt X.K m1 H1 m' H') (x2 : Sim X.K m' (G1 ++ [errX cn d]) H') (x3 : m'[G1.length]? = some e') (ha : H' a = none) : Q (.ref a) (upd H' a (exi a (He.ga X.K "TermError") e')) := by
  have xp := xt_push (K := X.K) (m := m') (o := exi a (He.ga X.K "TermError") e') ha
  have ha' : (m' ++ [a])[G1.length]? = some e' := xp.at x3
  have hl : m'.length = G1.length + 1 := by
    rw [x2.len]
    simp
  refine h1 (m' ++ [a]) _ _ (x1.trans xp) (x2.push (c := insX "TermError" G1.length) ha ⟨e', G1.length, rfl, ha', upd_same⟩) (.ref ?_)
  rw [← hl]
  simp
theorem xe_newT2 {cn : Str} {a : Expr} {fa : EF} {p p2 pc : Pos} {j : Nat} (E : ErrT X.prog X.w X.K X.mg X.base T) (hga : X.mg "TermError" = some (.ref (He.ga X.K "TermError"))) (D : CtxT X W k) (ha : PE X a (tE X W fa)) (hcn : cn.length ≤ 1000 := by decide) (hk : 3 ≤ k := by decide) (hg : Gl X "TermError" := by rfl)
    (he : starEach [.Constant (.str cn) j pc, a] X.env = (false, eval (.Constant (.str cn) j pc) X.env) :: starEach [a] X.env := by rfl) (he2 : starEach [a] X.env = (false, eval a X.env) :: starEach [] X.env := by rfl) (hpl : (backTo p2 (starEach [a] X.env)).any (·.1) = false := by rfl) : PE X (.Call (.Name "TermError" p) [.Constant (.str cn) j pc, a] [] p2) (tE X W (newT2 cn fa)) := by
  have hC : T = He.ga X.K "TermError" := by
    have := E.at_.symm.trans hga
    cases this
    rfl
  subst hC
  have pa : PA X [.Constant (.str cn) j pc, a] (tCons (tC (.str cn)) (tCons (tE X W fa) tNil)) := pa_cons pe_str (pa_cons ha pa_nil he2) he
  refine ⟨fun pins s σ H Q I ⟨m, σ', G, S, R, q⟩ => (pe_mk (t := fun σ H Q => tE X W fa σ H fun v H1 => ∃ m1 G1 d, Sim X.K m1 G1 H1 ∧ VR X.K m1 H1 d v ∧ showsD d G1 = true ∧
    ∀ m' H' e', Xt X.K m1 H1 m' H' → Sim X.K m' (G1 ++ [errX cn d]) H' → m'[G1.length]? = some e' → Q (.ref (He.ga X.K "TermError")) (some e') H') D.hex ?_).run pins s σ H Q I ?_⟩
  · intro pins s σ H Q I h
    obtain ⟨f, fd, ds, hi, ti, FI, hb, _⟩ := E.ini
    refine wpAny_Call_Name_kw (ld_glob I hg E.at_ ?_)
    refine PySem.W.callWith_K (h₀ := X.base) I.ok.mod.kin E.keep ?_ he hpl
    have h' : tCons (tC (.str cn)) (tCons (tE X W fa) tNil) σ H (fun vs H1 => match vs with
        | [w, v] => w = V.str cn ∧ ∃ m1 G1 d, Sim X.K m1 G1 H1 ∧ VR X.K m1 H1 d v ∧ showsD d G1 = true ∧
          ∀ m' H' e', Xt X.K m1 H1 m' H' → Sim X.K m' (G1 ++ [errX cn d]) H' → m'[G1.length]? = some e' → Q (.ref (He.ga X.K "TermError")) (some e') H'
        | _ => False) := by
      obtain ⟨m, σ', G, S, R, q⟩ := h
      exact ⟨m, σ', G, S, R, q.imp fun v H1 hb => ⟨rfl, hb⟩⟩
    refine thn (pa.run p2 pins s σ H _ I h') fun us s1 hu => ?_
    obtain ⟨vs, H1, I1, r1, q1⟩ := hu
    refine ⟨I1.kIn, ?_⟩
    cases r1 with
    | nil => exact q1.elim
    | cons ra rr =>
      cases rr with
      | nil => exact q1.elim
      | cons rb rr =>
        cases rr with
        | cons _ _ => exact q1.elim
        | nil =>
          obtain ⟨rfl, m1, G1, d, S1, rd, sh, q1⟩ := q1
          obtain ⟨a0, e0, w1, w2, w3, w5⟩ := showsD_of sh
          refine pmk_errT (ds := []) E D.c hk hcn I1 hi ti FI hb (fun b => .cons rfl (.cons ra (.cons rb .nil))) (Nat.le_refl _) (a0 := a0) (fun b hb' => ?_) w1 w2 w3 w5 (fun b dx h1 h2 => ?_)
          · exact toPy_dp (S1.more hb') 24 d _ a0 (rd.mono (xt_more hb')) e0
          · exact made_sim S1 rd h1 h2 q1
  · unfold newT2 at q
    refine ⟨m, σ', G, S, R, (PostR.bnd (R := VR X.K) q).imp fun v H1 ⟨m1, G1, d, e1, S1, r1, _, h1⟩ => ?_⟩
    by_cases hs : showsD d G1 = true
    · rw [if_pos hs] at h1
      exact ⟨m1, G1, d, S1, r1, hs, fun m' H' e' x1 x2 x3 => ⟨_, e', rfl, rfl, fun a ha => new_endT h1 x1 x2 x3 ha⟩⟩
    · rw [if_neg hs] at h1
      exact h1.elim
theorem xe_newT1 {cn : Str} {p p2 pc : Pos} {j : Nat} (E : ErrT X.prog X.w X.K X.mg X.base T) (hga : X.mg "TermError" = some (.ref (He.ga X.K "TermError"))) (D : CtxT X W k) (hcn : cn.length ≤ 1000 := by decide) (hk : 3 ≤ k := by decide) (hg : Gl X "TermError" := by rfl)
    (he : starEach [.Constant (.str cn) j pc] X.env = (false, eval (.Constant (.str cn) j pc) X.env) :: starEach [] X.env := by rfl) (hpl : (backTo p2 (starEach [] X.env)).any (·.1) = false := by rfl) : PE X (.Call (.Name "TermError" p) [.Constant (.str cn) j pc] [] p2) (tE X W (newT1 cn)) := by
  have hC : T = He.ga X.K "TermError" := by
    have := E.at_.symm.trans hga
    cases this
    rfl
  subst hC
  have pa : PA X [.Constant (.str cn) j pc] (tCons (tC (.str cn)) tNil) := pa_cons pe_str pa_nil he
  refine ⟨fun pins s σ H Q I ⟨m, σ', G, S, R, q⟩ => (pe_mk (t := fun σ H Q => ∃ m1 G1, Sim X.K m1 G1 H ∧
    ∀ m' H' e', Xt X.K m1 H m' H' → Sim X.K m' (G1 ++ [errX cn .non]) H' → m'[G1.length]? = some e' → Q (.ref (He.ga X.K "TermError")) (some e') H') D.hex ?_).run pins s σ H Q I ?_⟩
  · intro pins s σ H Q I h
    obtain ⟨f, fd, ds, hi, ti, FI, _, hb, hv⟩ := E.ini
    refine wpAny_Call_Name_kw (ld_glob I hg E.at_ ?_)
    refine PySem.W.callWith_K (h₀ := X.base) I.ok.mod.kin E.keep ?_ he hpl
    refine thn (pa.run p2 pins s σ H (fun vs H1 => vs = [.str cn] ∧ ∃ m1 G1, Sim X.K m1 G1 H1 ∧
        ∀ m' H' e', Xt X.K m1 H1 m' H' → Sim X.K m' (G1 ++ [errX cn .non]) H' → m'[G1.length]? = some e' → Q (.ref (He.ga X.K "TermError")) (some e') H') I ⟨rfl, h⟩) fun us s1 hu => ?_
    obtain ⟨vs, H1, I1, r1, rfl, m1, G1, S1, q1⟩ := hu
    refine ⟨I1.kIn, ?_⟩
    cases r1 with
    | cons ra rr =>
      cases rr
      refine pmk_errT (ds := ds) (pl := .non) E D.c hk hcn I1 hi ti FI hb (fun b => .cons rfl (.cons ra hv)) (Nat.le_succ 1) (a0 := .none) (fun b hb' => ?_) rfl rfl (by decide) (by decide) (fun b dx h1 h2 => ?_)
      · exact .non
      · exact made_sim S1 .non h1 h2 q1
  · unfold newT1 at q
    exact ⟨m, G, S, fun m' H' e' x1 x2 x3 => ⟨_, e', rfl, rfl, fun a ha => new_endT q x1 x2 x3 ha⟩⟩
end
section
variable {K : PySem.W.Frag} {h : Heap} {mg : Str → Option Value} {P : Program} {dT : ErD}
theorem errT_of (X : K.In h) (G : h.Ns mainGlobals mg) (O : ErOkT dT) (hx : dT.x = "TermError") (c : errB K P.main.file (dT.C K) dT = true) (e : fnK K (dT.f K) = dT.val) (sup : mg "super" = none) (rp : mg "repr" = none) (top : (P.main.scope.names.lookup ("super" : Str)).isSome = false)
    (any : PySem.W.nsIn K cStatics "thirdparty.any" = some none)
    (b2 : ∀ (T : Addr) (kV doc pm cdv ct : Value) (an : Option Addr) (cc : Addr) (us its : List Value), us.length = 2 → its.length = 1 →
      ∃ k, bindArgs (PySem.W.ksFn "__init__" dT.qual dT.params dT.body dT.scope (.ref T) kV doc pm an cdv ct cc) ⟨us, []⟩ = seqItems? (.ref T) >>= k ∧ k (some its.toArray) = pure ((["self", "word", "place"] : List Str).zip (us ++ its)))
    (w : World) (base : Heap) : ErrT P w K mg base (dT.C K) := by
  obtain ⟨c1, c2, c3, c4, c5, c6, c7, c8⟩ := errB_ok c
  obtain ⟨fd, cc, cda, F⟩ := iniB_ok c7 e c5 c8
  obtain ⟨oc, od, osl, dV, kV, doc, pm, ct, an, e1, lk, hD⟩ := id F.ex
  have at0 := PySem.W.mg_of X G c1
  rw [hx] at at0
  rcases hD with ⟨z, _⟩ | ⟨_, T', o, its, m, rfl, lT, oT, rT⟩
  · cases z
  · refine ⟨at0, c2, c3, dT.f K, fd, its, c4, c5, init_T F O.sc O.rp O.body O.head sup rp top any, ?_, ?_, rT⟩
    · refine fun s us kin hl => ?_
      rw [List.append_nil] at hl ⊢
      obtain ⟨k, k1, k2⟩ := O.b3 T' kV doc pm (.ref cda) ct an cc us its hl rT.length.symm
      refine BindsTo.of_looks fun M => ?_
      rw [e1, k1]
      exact looks_items kin lT oT (.of_pure k2)
    · refine fun s us kin hl => ?_
      have l1 : its.length = 1 := rT.length.symm
      have l2 : us.length = 2 := by
        rw [List.length_append, l1] at hl
        have hl' : us.length + 1 = 3 := hl
        omega
      obtain ⟨k, k1, k2⟩ := b2 T' kV doc pm (.ref cda) ct an cc us its l2 l1
      refine BindsTo.of_looks fun M => ?_
      rw [e1, k1]
      exact looks_items kin lT oT (.of_pure k2)
end
end SX

set_option Elab.async false
set_option linter.all false
set_option maxRecDepth 100000
set_option maxHeartbeats 1000000
/-! a plain def called within an except suite -/
namespace SX
open PySem PySem.Spec PyProof.Rows L2 ClX
def cxS (P : Program) (w : World) (K : PySem.W.Frag) (mg : Str → Option Value) (base : Heap) (N : List Str) (qual : Str) (scope : Scope) (f : Addr) (cd : Value) (A : Around) (outer : List Env) (s : Shared) (H : Hp) : Cx :=
  { cxOf (L2.CX P w) P w K mg base N qual scope f cd A outer s H W0 with calm := false }
theorem inv_startS {P : Program} {w : World} {K : PySem.W.Frag} {mg : Str → Option Value} {base : Heap} {N ps : List Str} {qual : Str} {scope : Scope} {f : Addr} {cd : Value} {A : Around} {outer : List Env} {s s1 : Shared} {H : Hp} {us : List Value} {vs : List V}
    (S : FnScope N ps scope) (e0 : Env0 P w K mg base A outer s H) (hl : vs.length = ps.length) (r : Vals vs us)
    (x : InCallC s s.heap.objs.size (bindL (envOfC qual scope s.heap.objs.size f cd).kindOf (ps.zip us) fun _ => none) (cellsFrom (s.heap.objs.size + 1) scope.names []) (bindC (envOfC qual scope s.heap.objs.size f cd).kindOf (ps.zip us) fun _ => none) s1) :
    Inv (cxS P w K mg base N qual scope f cd A outer s H) [] (L2.start N vs) H s1 := by
  have hpl : ps.length ≤ N.length := by have := congrArg List.length S.pre; rw [List.length_take] at this; omega
  obtain ⟨h1, tk, rfl, hk⟩ := x.done
  have noA : ∀ b : Addr, b ∉ (cxS P w K mg base N qual scope f cd A outer s H).ex := fun b z => absurd (show b ∈ ([] : List Addr) from z) (by simp)
  refine ⟨⟨e0.mod, S.kind, rfl, rfl, Nat.le_refl _, fun y z c h1 h2 => ?_, fun y hy => ?_, fun y c _ h => ?_, (fun z => Bool.noConfusion (show false = true from z)), Around.frames_deeper e0.frames, .inr ⟨rfl, rfl⟩, fun b z => absurd z (noA b), e0.bs, e0.bsz, fun b _ _ => noA b, fun b z => absurd z (noA b), e0.funs, e0.frf⟩,
    rfl, e0.bare, Un.kept hk, ⟨_, x.toInCall.ns, fun i y v h1 h2 h3 => ?_⟩, fun y c h => ⟨_, x.cell y c h⟩, e0.hok.fresh (Nat.le_refl _), fun y c h => ?_, fun q hq => ?_, e0.hok.kept hk, ?_⟩
  · exact name_of_addr x.apart (PySem.mem_of_lookup h1) (PySem.mem_of_lookup h2)
  · have hy : scope.names.lookup y = some .cell ∨ scope.names.lookup y = some .free := hy
    rcases hy with hy | hy
    · exact cell_has hy
    · exact absurd rfl (S.nofree _ (PySem.mem_of_lookup hy))
  · exact Nat.le_of_lt (x.above y c (PySem.mem_of_lookup h))
  · have hi : i < vs.length := by
      unfold L2.start at h2
      by_cases hi : i < vs.length
      · exact hi
      · rw [List.getElem?_append_right (by simpa using hi)] at h2
        rw [List.getElem?_replicate] at h2
        split at h2 <;> cases h2
    have ha : vs[i]? = some v := by
      unfold L2.start at h2
      rw [List.getElem?_append_left (by simpa using hi), List.getElem?_map] at h2
      cases e : vs[i]? with
      | none => rw [e] at h2; cases h2
      | some a => rw [e] at h2; cases h2; rfl
    obtain ⟨u, hu, rv⟩ := r.get ha
    have hp : ps[i]? = some y := by
      rw [← S.pre, List.getElem?_take_of_lt (by omega)]; exact h1
    have ndP : ps.Nodup := by rw [← S.pre]; exact S.nd.sublist (List.take_sublist _ _)
    refine ⟨u, rv, ?_⟩
    rcases S.par y (List.mem_of_getElem? hp) with k | k
    · exact .inl ⟨k, bindL_get ndP hp hu k⟩
    · obtain ⟨c, e⟩ := cell_has (n := s.heap.objs.size + 1) k
      refine .inr ⟨.inl k, c, e, ?_⟩
      have q := x.cell y c e
      rw [bindC_get ndP hp hu (by show scope.names.lookup y ≠ _; rw [k]; decide)] at q
      exact q
  · exact e0.hok.fresh (Nat.le_of_lt (x.above y c (PySem.mem_of_lookup h)))
  · exact absurd (show q ∈ ([] : List (Addr × Obj)) ++ [] from hq) (by simp)
  · unfold L2.start
    show _ = N.length
    rw [List.length_append, List.length_map, List.length_replicate]
    omega
/-- what a def promises in a suite: no exception -/
structure FnS (P : Program) (w : World) (K : PySem.W.Frag) (mg : Str → Option Value) (base : Heap) (f : Addr) (fd : FuncData) (ps : List Str) (sp : Sp) : Prop where
  len : ∀ vs H Q E, sp vs H Q E → vs.length = ps.length
  go : ∀ (A : Around) (out : List Env) (s : Shared) (H : Hp) (args : Args) (us : List Value) (vs : List V) (Q : VK),
    A.guards = some [] → A.depth < recursionLimit → A.units + 100 < cLine → Env0 P w K mg base A out s H → BindsTo s fd args (ps.zip us) → Vals vs us → sp vs H Q W0 → codeAny (model P w) A (.call (.ref f) args) (L2.CR (L2.CX P w) out P w H s Q W0) s
theorem defOkS {P : Program} {w : World} {K : PySem.W.Frag} {mg : Str → Option Value} {base : Heap} {x qual : Str} {st : Stmt} {f : Addr} {fd : FuncData} {N ps : List Str} {b : SF} {dvs : List V} {kws : List (Str × V)} (F : L2.FunD K x qual (defArgs st) (defBody st) (defScope st) dvs kws f fd) (Sc : FnScope N ps (defScope st))
    (h : ∀ (cdv : Value) (A : Around) (out : List Env) (s : Shared) (H : Hp), Rm (cxS P w K mg base N qual (defScope st) f cdv A out s H) →
      PSs (cxS P w K mg base N qual (defScope st) f cdv A out s H) (defBody st) (tS (cxS P w K mg base N qual (defScope st) f cdv A out s H) (fun _ => W0) b)) :
    FnS P w K mg base f fd ps (spF K mg ps.length (bodyC N.length b)) := by
  obtain ⟨oc, od, dV, kV, doc, pm, an, cdv, ct, osl, rfl, lk, hcd, _, _⟩ := F.ex
  refine ⟨fun vs H Q E q => q.1, fun A out s H args us vs Q hgd hdp hun en bt rv q => ?_⟩
  obtain ⟨hl, m, ds, G, S, r, q⟩ := q
  have kin : K.In s.heap := en.mod.kin.keeps fun c o z => (en.bs c o z).1
  have lim : s.heap.NoLimit := en.mod.nolimit.keeps fun c o z => (en.bs c o z).1
  have kinds : ∀ y ∈ ps.zip us, (defScope st).names.lookup y.1 = some .local ∨ ((defScope st).names.lookup y.1 = some .cell ∧ ((cellsFrom (s.heap.objs.size + 1) (defScope st).names []).lookup y.1).isSome = true) := by
    rintro ⟨n, v⟩ hy
    rcases Sc.par n (List.of_mem_zip hy).1 with z | z
    · exact .inl z
    · exact .inr ⟨z, PySem.W.cellsFrom_some _ _ _ (.inl z)⟩
  refine codeAny_call_function hdp (kin _ _ lk) rfl Sc.co Sc.gen rfl (PySem.W.codeRec_of kin hcd) (bt _ _ _ _ ?_)
  refine wpAny_newFunctionEnv_cells Sc.kind kinds fun env henv s1 ic => ?_
  subst henv
  refine ⟨lim.keeps ic.toInCall.keep, codeAny_func ?_⟩
  have I : Inv (cxS P w K mg base N qual (defScope st) f cdv A out s H) [] (L2.start N vs) H s1 := inv_startS Sc en hl rv ic
  have R : Rm (cxS P w K mg base N qual (defScope st) f cdv A out s H) := ⟨hgd, by show A.units + 3 + 64 < cLine; omega⟩
  have pre : tS (cxS P w K mg base N qual (defScope st) f cdv A out s H) (fun _ => W0) b { nx := fun _ H1 => Q .non H1, rt := Q } (L2.start N vs) H := by
    refine ⟨m, _, G, S, start_sr (N := N) r, ?_⟩
    unfold bodyC at q
    cases eb : b (ds.map some ++ List.replicate (N.length - ds.length) none) G with
    | nx σ1 G1 => rw [eb] at q; exact fun m1 H1 s1 x1 S1 R1 => q m1 H1 .non x1 S1 .non
    | rt d G1 => rw [eb] at q; exact q
    | bk _ _ => rw [eb] at q; exact q.elim
    | ct _ _ => rw [eb] at q; exact q.elim
    | ex c i σ1 G1 => rw [eb] at q; exact fun m1 H1 s1 Ca aa x1 S1 R1 z1 z2 => q m1 H1 Ca aa x1 S1 z1 z2
    | bad => rw [eb] at q; exact q.elim
  refine wpAny_mono ((h cdv A out s H R).run [] s1 _ H _ I pre) (fun fl s2 z => ?_) fun _ _ z => z
  cases fl with
  | ret u => obtain ⟨v, σ2, H2, J, r2, z⟩ := z; exact ⟨v, H2, J.os, J.bare, J.base, J.hok, r2, z⟩
  | next => obtain ⟨σ2, H2, J, z⟩ := z; exact ⟨.non, H2, J.os, J.bare, J.base, J.hok, rfl, z⟩
  | brk => obtain ⟨_, _, _, z⟩ := z; exact z.elim
  | cont => obtain ⟨_, _, _, z⟩ := z; exact z.elim
section
variable {X : Cx} {W : L2.St → XW} {k : Nat} {x : Str} {p pos : Pos} {e : Expr} {es : List Expr} {fr : AF} {ff : FF} {f : Addr} {fd : FuncData} {ps : List Str}
/-- the call, in a suite of a def whose context is X -/
theorem xe_callS {n : Nat} {a : Addr} {pn : List (Addr × Obj)} (C : Ctx X W k) (hk2 : 3 ≤ k) (F : FnS X.prog X.w X.K X.mg X.base f fd ps (spF X.K X.mg ps.length ff)) (hm : X.mg x = some (.ref f)) (hk : PySem.W.keepIn X.K (.ref f) = true) (hb : Binds X.K fd ps [])
    (ha : PA (X.suite a pn) (e :: es) (tA (X.suite a pn) (fun _ => W0) fr)) (hl : ALen fr n) (hn : n = ps.length := by rfl) (hg : Gl X x := by rfl) (hdb : (x == ("__debug__" : Str)) = false := by decide) (he : starEach (e :: es) X.env = (false, eval e X.env) :: starEach es X.env := by rfl) (hpl : (backTo pos (starEach es X.env)).any (·.1) = false := by rfl) :
    PE (X.suite a pn) (.Call (.Name x p) (e :: es) [] pos) (tE (X.suite a pn) (fun _ => W0) (fnC ff [] fr)) := by
  refine ⟨fun pins s σ H Q I ⟨m, σ', G, S, R, q⟩ => wpAny_Call_Name_kw (ld_glob (X := X.suite a pn) I hg hm ?_ hdb)⟩
  have q' : tA (X.suite a pn) (fun _ => W0) fr σ H fun vs H1 => spF X.K X.mg ps.length ff vs H1 Q W0 := by
    refine ⟨m, σ', G, S, R, (PostR.bnd (R := VRs X.K) q).imp fun vs H1 ⟨m1, G1, xs, e1, S1, r1, er, h1⟩ => ?_⟩
    rw [List.append_nil] at h1
    refine ⟨?_, m1, xs, G1, S1, r1, h1⟩
    rw [← r1.length, hl _ _ _ _ er]
    exact hn
  refine PySem.W.callWith_K (h₀ := X.base) I.ok.mod.kin hk (thn (ha.run pos pins s σ H _ I q') fun us s1 z => ?_) he hpl
  obtain ⟨vs, H1, I1, r, z⟩ := z
  refine ⟨I1.kIn, ?_⟩
  have hl2 : (us ++ []).length = ps.length := by
    rw [List.append_nil, ← r.length]
    exact F.len _ _ _ _ z
  have b := hb s1 us I1.kIn hl2
  rw [List.append_nil] at b
  have hd := C.room.dp
  have hu := C.room.un
  refine wpAny_call (codeAny_mono (F.go (X.suite a pn).A (X.suite a pn).stack s1 H1 ⟨us, []⟩ us vs Q C.gd (by show X.A.depth < _; omega) (by show X.A.units + 100 < _; omega) I1.env0 b r z) ?_)
  intro res s2 z
  match res, z with
  | .error e, z =>
    obtain ⟨_, _, _, _, _, _, _, _, _, _, _, _, z⟩ := z
    exact z.elim
  | .ok (.ret u), z => exact I1.after z
  | .ok .next, z => exact z.elim
  | .ok .brk, z => exact z.elim
  | .ok .cont, z => exact z.elim
end
end SX

set_option Elab.async false
set_option linter.all false
set_option maxRecDepth 100000
set_option maxHeartbeats 4000000
namespace Yk00
open PySem PySem.Spec PyProof.Rows L2 SX
def topS (i : Nat) : Stmt := PySem.Challenge.pw_everyterm_k00_errors_apart.main.body.getD i (.Pass ⟨0, 0, 0, 0⟩)
abbrev st__law_deck : Stmt := topS 21
abbrev st__law_draw : Stmt := topS 22
abbrev st__law_is : Stmt := topS 23
abbrev st__law_first : Stmt := topS 24
abbrev st__law_second : Stmt := topS 25
abbrev st__law_bare : Stmt := topS 26
abbrev st__law_kinds : Stmt := topS 27
abbrev st_law : Stmt := topS 28
abbrev ei_TermError : Stmt := clsInit (topS 1)
def er_TermError : ErD := ⟨"TermError", "TermError.__init__", defArgs ei_TermError, defBody ei_TermError, defScope ei_TermError⟩
theorem okE_TermError : ErOkT er_TermError := ⟨⟨rfl, rfl, rfl, by decide, by decide +kernel, by decide +kernel, rfl, rfl, free_only (by decide +kernel)⟩, rfl, ⟨_, _, _, _, _, _, _, _, _, _, _, _, _, _, _, _, _, _, _, _, _, rfl, rfl⟩, ⟨_, rfl, rfl⟩, fun _ _ _ _ _ _ _ _ us its hl hi => match us, hl, its, hi with | [_, _, _], _, [_], _ => ⟨_, rfl, rfl⟩⟩
abbrev ei_BadNumber : Stmt := clsInit (topS 2)
def er_BadNumber : ErD := ⟨"BadNumber", "BadNumber.__init__", defArgs ei_BadNumber, defBody ei_BadNumber, defScope ei_BadNumber⟩
theorem okE_BadNumber : ErOkB er_BadNumber := ⟨⟨rfl, rfl, rfl, by decide, by decide +kernel, by decide +kernel, rfl, rfl, free_only (by decide +kernel)⟩, ⟨_, _, _, _, _, _, _, _, rfl, rfl⟩, ⟨_, rfl, rfl⟩, by decide +kernel, fun _ _ _ _ _ _ _ _ us its hl hi => match us, hl, its, hi with | [_, _], _, [_], _ => ⟨_, rfl, rfl⟩, fun _ _ _ _ _ _ _ _ us its hl hi => match us, hl, its, hi with | [_], _, [_], _ => ⟨_, rfl, rfl⟩⟩
abbrev ei_BadRow : Stmt := clsInit (topS 3)
def er_BadRow : ErD := ⟨"BadRow", "BadRow.__init__", defArgs ei_BadRow, defBody ei_BadRow, defScope ei_BadRow⟩
theorem okE_BadRow : ErOkB er_BadRow := ⟨⟨rfl, rfl, rfl, by decide, by decide +kernel, by decide +kernel, rfl, rfl, free_only (by decide +kernel)⟩, ⟨_, _, _, _, _, _, _, _, rfl, rfl⟩, ⟨_, rfl, rfl⟩, by decide +kernel, fun _ _ _ _ _ _ _ _ us its hl hi => match us, hl, its, hi with | [_, _], _, [_], _ => ⟨_, rfl, rfl⟩, fun _ _ _ _ _ _ _ _ us its hl hi => match us, hl, its, hi with | [_], _, [_], _ => ⟨_, rfl, rfl⟩⟩
abbrev ei_BadLevel : Stmt := clsInit (topS 4)
def er_BadLevel : ErD := ⟨"BadLevel", "BadLevel.__init__", defArgs ei_BadLevel, defBody ei_BadLevel, defScope ei_BadLevel⟩
theorem okE_BadLevel : ErOkB er_BadLevel := ⟨⟨rfl, rfl, rfl, by decide, by decide +kernel, by decide +kernel, rfl, rfl, free_only (by decide +kernel)⟩, ⟨_, _, _, _, _, _, _, _, rfl, rfl⟩, ⟨_, rfl, rfl⟩, by decide +kernel, fun _ _ _ _ _ _ _ _ us its hl hi => match us, hl, its, hi with | [_, _], _, [_], _ => ⟨_, rfl, rfl⟩, fun _ _ _ _ _ _ _ _ us its hl hi => match us, hl, its, hi with | [_], _, [_], _ => ⟨_, rfl, rfl⟩⟩
abbrev ei_BadWeight : Stmt := clsInit (topS 5)
def er_BadWeight : ErD := ⟨"BadWeight", "BadWeight.__init__", defArgs ei_BadWeight, defBody ei_BadWeight, defScope ei_BadWeight⟩
theorem okE_BadWeight : ErOkB er_BadWeight := ⟨⟨rfl, rfl, rfl, by decide, by decide +kernel, by decide +kernel, rfl, rfl, free_only (by decide +kernel)⟩, ⟨_, _, _, _, _, _, _, _, rfl, rfl⟩, ⟨_, rfl, rfl⟩, by decide +kernel, fun _ _ _ _ _ _ _ _ us its hl hi => match us, hl, its, hi with | [_, _], _, [_], _ => ⟨_, rfl, rfl⟩, fun _ _ _ _ _ _ _ _ us its hl hi => match us, hl, its, hi with | [_], _, [_], _ => ⟨_, rfl, rfl⟩⟩
abbrev ei_BadMaking : Stmt := clsInit (topS 6)
def er_BadMaking : ErD := ⟨"BadMaking", "BadMaking.__init__", defArgs ei_BadMaking, defBody ei_BadMaking, defScope ei_BadMaking⟩
theorem okE_BadMaking : ErOkB er_BadMaking := ⟨⟨rfl, rfl, rfl, by decide, by decide +kernel, by decide +kernel, rfl, rfl, free_only (by decide +kernel)⟩, ⟨_, _, _, _, _, _, _, _, rfl, rfl⟩, ⟨_, rfl, rfl⟩, by decide +kernel, fun _ _ _ _ _ _ _ _ us its hl hi => match us, hl, its, hi with | [_, _], _, [_], _ => ⟨_, rfl, rfl⟩, fun _ _ _ _ _ _ _ _ us its hl hi => match us, hl, its, hi with | [_], _, [_], _ => ⟨_, rfl, rfl⟩⟩
abbrev ei_Unlike : Stmt := clsInit (topS 7)
def er_Unlike : ErD := ⟨"Unlike", "Unlike.__init__", defArgs ei_Unlike, defBody ei_Unlike, defScope ei_Unlike⟩
theorem okE_Unlike : ErOkB er_Unlike := ⟨⟨rfl, rfl, rfl, by decide, by decide +kernel, by decide +kernel, rfl, rfl, free_only (by decide +kernel)⟩, ⟨_, _, _, _, _, _, _, _, rfl, rfl⟩, ⟨_, rfl, rfl⟩, by decide +kernel, fun _ _ _ _ _ _ _ _ us its hl hi => match us, hl, its, hi with | [_, _], _, [_], _ => ⟨_, rfl, rfl⟩, fun _ _ _ _ _ _ _ _ us its hl hi => match us, hl, its, hi with | [_], _, [_], _ => ⟨_, rfl, rfl⟩⟩
abbrev ei_TooMany : Stmt := clsInit (topS 8)
def er_TooMany : ErD := ⟨"TooMany", "TooMany.__init__", defArgs ei_TooMany, defBody ei_TooMany, defScope ei_TooMany⟩
theorem okE_TooMany : ErOkB er_TooMany := ⟨⟨rfl, rfl, rfl, by decide, by decide +kernel, by decide +kernel, rfl, rfl, free_only (by decide +kernel)⟩, ⟨_, _, _, _, _, _, _, _, rfl, rfl⟩, ⟨_, rfl, rfl⟩, by decide +kernel, fun _ _ _ _ _ _ _ _ us its hl hi => match us, hl, its, hi with | [_, _], _, [_], _ => ⟨_, rfl, rfl⟩, fun _ _ _ _ _ _ _ _ us its hl hi => match us, hl, its, hi with | [_], _, [_], _ => ⟨_, rfl, rfl⟩⟩
abbrev ei_BadQuadratic : Stmt := clsInit (topS 9)
def er_BadQuadratic : ErD := ⟨"BadQuadratic", "BadQuadratic.__init__", defArgs ei_BadQuadratic, defBody ei_BadQuadratic, defScope ei_BadQuadratic⟩
theorem okE_BadQuadratic : ErOkB er_BadQuadratic := ⟨⟨rfl, rfl, rfl, by decide, by decide +kernel, by decide +kernel, rfl, rfl, free_only (by decide +kernel)⟩, ⟨_, _, _, _, _, _, _, _, rfl, rfl⟩, ⟨_, rfl, rfl⟩, by decide +kernel, fun _ _ _ _ _ _ _ _ us its hl hi => match us, hl, its, hi with | [_, _], _, [_], _ => ⟨_, rfl, rfl⟩, fun _ _ _ _ _ _ _ _ us its hl hi => match us, hl, its, hi with | [_], _, [_], _ => ⟨_, rfl, rfl⟩⟩
abbrev ei_BadDiscriminant : Stmt := clsInit (topS 10)
def er_BadDiscriminant : ErD := ⟨"BadDiscriminant", "BadDiscriminant.__init__", defArgs ei_BadDiscriminant, defBody ei_BadDiscriminant, defScope ei_BadDiscriminant⟩
theorem okE_BadDiscriminant : ErOkB er_BadDiscriminant := ⟨⟨rfl, rfl, rfl, by decide, by decide +kernel, by decide +kernel, rfl, rfl, free_only (by decide +kernel)⟩, ⟨_, _, _, _, _, _, _, _, rfl, rfl⟩, ⟨_, rfl, rfl⟩, by decide +kernel, fun _ _ _ _ _ _ _ _ us its hl hi => match us, hl, its, hi with | [_, _], _, [_], _ => ⟨_, rfl, rfl⟩, fun _ _ _ _ _ _ _ _ us its hl hi => match us, hl, its, hi with | [_], _, [_], _ => ⟨_, rfl, rfl⟩⟩
abbrev ei_BadGram : Stmt := clsInit (topS 11)
def er_BadGram : ErD := ⟨"BadGram", "BadGram.__init__", defArgs ei_BadGram, defBody ei_BadGram, defScope ei_BadGram⟩
theorem okE_BadGram : ErOkB er_BadGram := ⟨⟨rfl, rfl, rfl, by decide, by decide +kernel, by decide +kernel, rfl, rfl, free_only (by decide +kernel)⟩, ⟨_, _, _, _, _, _, _, _, rfl, rfl⟩, ⟨_, rfl, rfl⟩, by decide +kernel, fun _ _ _ _ _ _ _ _ us its hl hi => match us, hl, its, hi with | [_, _], _, [_], _ => ⟨_, rfl, rfl⟩, fun _ _ _ _ _ _ _ _ us its hl hi => match us, hl, its, hi with | [_], _, [_], _ => ⟨_, rfl, rfl⟩⟩
abbrev ei_BadPartition : Stmt := clsInit (topS 12)
def er_BadPartition : ErD := ⟨"BadPartition", "BadPartition.__init__", defArgs ei_BadPartition, defBody ei_BadPartition, defScope ei_BadPartition⟩
theorem okE_BadPartition : ErOkB er_BadPartition := ⟨⟨rfl, rfl, rfl, by decide, by decide +kernel, by decide +kernel, rfl, rfl, free_only (by decide +kernel)⟩, ⟨_, _, _, _, _, _, _, _, rfl, rfl⟩, ⟨_, rfl, rfl⟩, by decide +kernel, fun _ _ _ _ _ _ _ _ us its hl hi => match us, hl, its, hi with | [_, _], _, [_], _ => ⟨_, rfl, rfl⟩, fun _ _ _ _ _ _ _ _ us its hl hi => match us, hl, its, hi with | [_], _, [_], _ => ⟨_, rfl, rfl⟩⟩
abbrev ei_BadFamily : Stmt := clsInit (topS 13)
def er_BadFamily : ErD := ⟨"BadFamily", "BadFamily.__init__", defArgs ei_BadFamily, defBody ei_BadFamily, defScope ei_BadFamily⟩
theorem okE_BadFamily : ErOkB er_BadFamily := ⟨⟨rfl, rfl, rfl, by decide, by decide +kernel, by decide +kernel, rfl, rfl, free_only (by decide +kernel)⟩, ⟨_, _, _, _, _, _, _, _, rfl, rfl⟩, ⟨_, rfl, rfl⟩, by decide +kernel, fun _ _ _ _ _ _ _ _ us its hl hi => match us, hl, its, hi with | [_, _], _, [_], _ => ⟨_, rfl, rfl⟩, fun _ _ _ _ _ _ _ _ us its hl hi => match us, hl, its, hi with | [_], _, [_], _ => ⟨_, rfl, rfl⟩⟩
abbrev ei_BadCurve : Stmt := clsInit (topS 14)
def er_BadCurve : ErD := ⟨"BadCurve", "BadCurve.__init__", defArgs ei_BadCurve, defBody ei_BadCurve, defScope ei_BadCurve⟩
theorem okE_BadCurve : ErOkB er_BadCurve := ⟨⟨rfl, rfl, rfl, by decide, by decide +kernel, by decide +kernel, rfl, rfl, free_only (by decide +kernel)⟩, ⟨_, _, _, _, _, _, _, _, rfl, rfl⟩, ⟨_, rfl, rfl⟩, by decide +kernel, fun _ _ _ _ _ _ _ _ us its hl hi => match us, hl, its, hi with | [_, _], _, [_], _ => ⟨_, rfl, rfl⟩, fun _ _ _ _ _ _ _ _ us its hl hi => match us, hl, its, hi with | [_], _, [_], _ => ⟨_, rfl, rfl⟩⟩
abbrev ei_BadPoint : Stmt := clsInit (topS 15)
def er_BadPoint : ErD := ⟨"BadPoint", "BadPoint.__init__", defArgs ei_BadPoint, defBody ei_BadPoint, defScope ei_BadPoint⟩
theorem okE_BadPoint : ErOkB er_BadPoint := ⟨⟨rfl, rfl, rfl, by decide, by decide +kernel, by decide +kernel, rfl, rfl, free_only (by decide +kernel)⟩, ⟨_, _, _, _, _, _, _, _, rfl, rfl⟩, ⟨_, rfl, rfl⟩, by decide +kernel, fun _ _ _ _ _ _ _ _ us its hl hi => match us, hl, its, hi with | [_, _], _, [_], _ => ⟨_, rfl, rfl⟩, fun _ _ _ _ _ _ _ _ us its hl hi => match us, hl, its, hi with | [_], _, [_], _ => ⟨_, rfl, rfl⟩⟩
abbrev ei_BadCode : Stmt := clsInit (topS 16)
def er_BadCode : ErD := ⟨"BadCode", "BadCode.__init__", defArgs ei_BadCode, defBody ei_BadCode, defScope ei_BadCode⟩
theorem okE_BadCode : ErOkB er_BadCode := ⟨⟨rfl, rfl, rfl, by decide, by decide +kernel, by decide +kernel, rfl, rfl, free_only (by decide +kernel)⟩, ⟨_, _, _, _, _, _, _, _, rfl, rfl⟩, ⟨_, rfl, rfl⟩, by decide +kernel, fun _ _ _ _ _ _ _ _ us its hl hi => match us, hl, its, hi with | [_, _], _, [_], _ => ⟨_, rfl, rfl⟩, fun _ _ _ _ _ _ _ _ us its hl hi => match us, hl, its, hi with | [_], _, [_], _ => ⟨_, rfl, rfl⟩⟩
abbrev ei_BadPrime : Stmt := clsInit (topS 17)
def er_BadPrime : ErD := ⟨"BadPrime", "BadPrime.__init__", defArgs ei_BadPrime, defBody ei_BadPrime, defScope ei_BadPrime⟩
theorem okE_BadPrime : ErOkB er_BadPrime := ⟨⟨rfl, rfl, rfl, by decide, by decide +kernel, by decide +kernel, rfl, rfl, free_only (by decide +kernel)⟩, ⟨_, _, _, _, _, _, _, _, rfl, rfl⟩, ⟨_, rfl, rfl⟩, by decide +kernel, fun _ _ _ _ _ _ _ _ us its hl hi => match us, hl, its, hi with | [_, _], _, [_], _ => ⟨_, rfl, rfl⟩, fun _ _ _ _ _ _ _ _ us its hl hi => match us, hl, its, hi with | [_], _, [_], _ => ⟨_, rfl, rfl⟩⟩
abbrev ei_BadQuasi : Stmt := clsInit (topS 18)
def er_BadQuasi : ErD := ⟨"BadQuasi", "BadQuasi.__init__", defArgs ei_BadQuasi, defBody ei_BadQuasi, defScope ei_BadQuasi⟩
theorem okE_BadQuasi : ErOkB er_BadQuasi := ⟨⟨rfl, rfl, rfl, by decide, by decide +kernel, by decide +kernel, rfl, rfl, free_only (by decide +kernel)⟩, ⟨_, _, _, _, _, _, _, _, rfl, rfl⟩, ⟨_, rfl, rfl⟩, by decide +kernel, fun _ _ _ _ _ _ _ _ us its hl hi => match us, hl, its, hi with | [_, _], _, [_], _ => ⟨_, rfl, rfl⟩, fun _ _ _ _ _ _ _ _ us its hl hi => match us, hl, its, hi with | [_], _, [_], _ => ⟨_, rfl, rfl⟩⟩
abbrev ei_NothingThere : Stmt := clsInit (topS 19)
def er_NothingThere : ErD := ⟨"NothingThere", "NothingThere.__init__", defArgs ei_NothingThere, defBody ei_NothingThere, defScope ei_NothingThere⟩
theorem okE_NothingThere : ErOkB er_NothingThere := ⟨⟨rfl, rfl, rfl, by decide, by decide +kernel, by decide +kernel, rfl, rfl, free_only (by decide +kernel)⟩, ⟨_, _, _, _, _, _, _, _, rfl, rfl⟩, ⟨_, rfl, rfl⟩, by decide +kernel, fun _ _ _ _ _ _ _ _ us its hl hi => match us, hl, its, hi with | [_, _], _, [_], _ => ⟨_, rfl, rfl⟩, fun _ _ _ _ _ _ _ _ us its hl hi => match us, hl, its, hi with | [_], _, [_], _ => ⟨_, rfl, rfl⟩⟩
def knE : Str → Bool := fun c => [("BadNumber" : Str), ("BadRow" : Str), ("BadLevel" : Str), ("BadWeight" : Str), ("BadMaking" : Str), ("Unlike" : Str), ("TooMany" : Str), ("BadQuadratic" : Str), ("BadDiscriminant" : Str), ("BadGram" : Str), ("BadPartition" : Str), ("BadFamily" : Str), ("BadCurve" : Str), ("BadPoint" : Str), ("BadCode" : Str), ("BadPrime" : Str), ("BadQuasi" : Str), ("NothingThere" : Str), ("TermError" : Str)].contains c
def hd_TermError : List (Str × Bool) := [("BadNumber", true), ("BadRow", true), ("BadLevel", true), ("BadWeight", true), ("BadMaking", true), ("Unlike", true), ("TooMany", true), ("BadQuadratic", true), ("BadDiscriminant", true), ("BadGram", true), ("BadPartition", true), ("BadFamily", true), ("BadCurve", true), ("BadPoint", true), ("BadCode", true), ("BadPrime", true), ("BadQuasi", true), ("NothingThere", true)]
def is_BadCode : List (Str × Bool) := [("BadNumber", false), ("BadRow", false), ("BadLevel", false), ("BadWeight", false), ("BadMaking", false), ("Unlike", false), ("TooMany", false), ("BadQuadratic", false), ("BadDiscriminant", false), ("BadGram", false), ("BadPartition", false), ("BadFamily", false), ("BadCurve", false), ("BadPoint", false), ("BadCode", true), ("BadPrime", false), ("BadQuasi", false), ("NothingThere", false), ("TermError", false)]
def is_BadCurve : List (Str × Bool) := [("BadNumber", false), ("BadRow", false), ("BadLevel", false), ("BadWeight", false), ("BadMaking", false), ("Unlike", false), ("TooMany", false), ("BadQuadratic", false), ("BadDiscriminant", false), ("BadGram", false), ("BadPartition", false), ("BadFamily", false), ("BadCurve", true), ("BadPoint", false), ("BadCode", false), ("BadPrime", false), ("BadQuasi", false), ("NothingThere", false), ("TermError", false)]
def is_BadDiscriminant : List (Str × Bool) := [("BadNumber", false), ("BadRow", false), ("BadLevel", false), ("BadWeight", false), ("BadMaking", false), ("Unlike", false), ("TooMany", false), ("BadQuadratic", false), ("BadDiscriminant", true), ("BadGram", false), ("BadPartition", false), ("BadFamily", false), ("BadCurve", false), ("BadPoint", false), ("BadCode", false), ("BadPrime", false), ("BadQuasi", false), ("NothingThere", false), ("TermError", false)]
def is_BadFamily : List (Str × Bool) := [("BadNumber", false), ("BadRow", false), ("BadLevel", false), ("BadWeight", false), ("BadMaking", false), ("Unlike", false), ("TooMany", false), ("BadQuadratic", false), ("BadDiscriminant", false), ("BadGram", false), ("BadPartition", false), ("BadFamily", true), ("BadCurve", false), ("BadPoint", false), ("BadCode", false), ("BadPrime", false), ("BadQuasi", false), ("NothingThere", false), ("TermError", false)]
def is_BadGram : List (Str × Bool) := [("BadNumber", false), ("BadRow", false), ("BadLevel", false), ("BadWeight", false), ("BadMaking", false), ("Unlike", false), ("TooMany", false), ("BadQuadratic", false), ("BadDiscriminant", false), ("BadGram", true), ("BadPartition", false), ("BadFamily", false), ("BadCurve", false), ("BadPoint", false), ("BadCode", false), ("BadPrime", false), ("BadQuasi", false), ("NothingThere", false), ("TermError", false)]
def is_BadLevel : List (Str × Bool) := [("BadNumber", false), ("BadRow", false), ("BadLevel", true), ("BadWeight", false), ("BadMaking", false), ("Unlike", false), ("TooMany", false), ("BadQuadratic", false), ("BadDiscriminant", false), ("BadGram", false), ("BadPartition", false), ("BadFamily", false), ("BadCurve", false), ("BadPoint", false), ("BadCode", false), ("BadPrime", false), ("BadQuasi", false), ("NothingThere", false), ("TermError", false)]
def is_BadMaking : List (Str × Bool) := [("BadNumber", false), ("BadRow", false), ("BadLevel", false), ("BadWeight", false), ("BadMaking", true), ("Unlike", false), ("TooMany", false), ("BadQuadratic", false), ("BadDiscriminant", false), ("BadGram", false), ("BadPartition", false), ("BadFamily", false), ("BadCurve", false), ("BadPoint", false), ("BadCode", false), ("BadPrime", false), ("BadQuasi", false), ("NothingThere", false), ("TermError", false)]
def is_BadNumber : List (Str × Bool) := [("BadNumber", true), ("BadRow", false), ("BadLevel", false), ("BadWeight", false), ("BadMaking", false), ("Unlike", false), ("TooMany", false), ("BadQuadratic", false), ("BadDiscriminant", false), ("BadGram", false), ("BadPartition", false), ("BadFamily", false), ("BadCurve", false), ("BadPoint", false), ("BadCode", false), ("BadPrime", false), ("BadQuasi", false), ("NothingThere", false), ("TermError", false)]
def is_BadPartition : List (Str × Bool) := [("BadNumber", false), ("BadRow", false), ("BadLevel", false), ("BadWeight", false), ("BadMaking", false), ("Unlike", false), ("TooMany", false), ("BadQuadratic", false), ("BadDiscriminant", false), ("BadGram", false), ("BadPartition", true), ("BadFamily", false), ("BadCurve", false), ("BadPoint", false), ("BadCode", false), ("BadPrime", false), ("BadQuasi", false), ("NothingThere", false), ("TermError", false)]
def is_BadPoint : List (Str × Bool) := [("BadNumber", false), ("BadRow", false), ("BadLevel", false), ("BadWeight", false), ("BadMaking", false), ("Unlike", false), ("TooMany", false), ("BadQuadratic", false), ("BadDiscriminant", false), ("BadGram", false), ("BadPartition", false), ("BadFamily", false), ("BadCurve", false), ("BadPoint", true), ("BadCode", false), ("BadPrime", false), ("BadQuasi", false), ("NothingThere", false), ("TermError", false)]
def is_BadPrime : List (Str × Bool) := [("BadNumber", false), ("BadRow", false), ("BadLevel", false), ("BadWeight", false), ("BadMaking", false), ("Unlike", false), ("TooMany", false), ("BadQuadratic", false), ("BadDiscriminant", false), ("BadGram", false), ("BadPartition", false), ("BadFamily", false), ("BadCurve", false), ("BadPoint", false), ("BadCode", false), ("BadPrime", true), ("BadQuasi", false), ("NothingThere", false), ("TermError", false)]
def is_BadQuadratic : List (Str × Bool) := [("BadNumber", false), ("BadRow", false), ("BadLevel", false), ("BadWeight", false), ("BadMaking", false), ("Unlike", false), ("TooMany", false), ("BadQuadratic", true), ("BadDiscriminant", false), ("BadGram", false), ("BadPartition", false), ("BadFamily", false), ("BadCurve", false), ("BadPoint", false), ("BadCode", false), ("BadPrime", false), ("BadQuasi", false), ("NothingThere", false), ("TermError", false)]
def is_BadQuasi : List (Str × Bool) := [("BadNumber", false), ("BadRow", false), ("BadLevel", false), ("BadWeight", false), ("BadMaking", false), ("Unlike", false), ("TooMany", false), ("BadQuadratic", false), ("BadDiscriminant", false), ("BadGram", false), ("BadPartition", false), ("BadFamily", false), ("BadCurve", false), ("BadPoint", false), ("BadCode", false), ("BadPrime", false), ("BadQuasi", true), ("NothingThere", false), ("TermError", false)]
def is_BadRow : List (Str × Bool) := [("BadNumber", false), ("BadRow", true), ("BadLevel", false), ("BadWeight", false), ("BadMaking", false), ("Unlike", false), ("TooMany", false), ("BadQuadratic", false), ("BadDiscriminant", false), ("BadGram", false), ("BadPartition", false), ("BadFamily", false), ("BadCurve", false), ("BadPoint", false), ("BadCode", false), ("BadPrime", false), ("BadQuasi", false), ("NothingThere", false), ("TermError", false)]
def is_BadWeight : List (Str × Bool) := [("BadNumber", false), ("BadRow", false), ("BadLevel", false), ("BadWeight", true), ("BadMaking", false), ("Unlike", false), ("TooMany", false), ("BadQuadratic", false), ("BadDiscriminant", false), ("BadGram", false), ("BadPartition", false), ("BadFamily", false), ("BadCurve", false), ("BadPoint", false), ("BadCode", false), ("BadPrime", false), ("BadQuasi", false), ("NothingThere", false), ("TermError", false)]
def is_NothingThere : List (Str × Bool) := [("BadNumber", false), ("BadRow", false), ("BadLevel", false), ("BadWeight", false), ("BadMaking", false), ("Unlike", false), ("TooMany", false), ("BadQuadratic", false), ("BadDiscriminant", false), ("BadGram", false), ("BadPartition", false), ("BadFamily", false), ("BadCurve", false), ("BadPoint", false), ("BadCode", false), ("BadPrime", false), ("BadQuasi", false), ("NothingThere", true), ("TermError", false)]
def is_TermError : List (Str × Bool) := [("BadNumber", true), ("BadRow", true), ("BadLevel", true), ("BadWeight", true), ("BadMaking", true), ("Unlike", true), ("TooMany", true), ("BadQuadratic", true), ("BadDiscriminant", true), ("BadGram", true), ("BadPartition", true), ("BadFamily", true), ("BadCurve", true), ("BadPoint", true), ("BadCode", true), ("BadPrime", true), ("BadQuasi", true), ("NothingThere", true), ("TermError", true)]
def is_TooMany : List (Str × Bool) := [("BadNumber", false), ("BadRow", false), ("BadLevel", false), ("BadWeight", false), ("BadMaking", false), ("Unlike", false), ("TooMany", true), ("BadQuadratic", false), ("BadDiscriminant", false), ("BadGram", false), ("BadPartition", false), ("BadFamily", false), ("BadCurve", false), ("BadPoint", false), ("BadCode", false), ("BadPrime", false), ("BadQuasi", false), ("NothingThere", false), ("TermError", false)]
def is_Unlike : List (Str × Bool) := [("BadNumber", false), ("BadRow", false), ("BadLevel", false), ("BadWeight", false), ("BadMaking", false), ("Unlike", true), ("TooMany", false), ("BadQuadratic", false), ("BadDiscriminant", false), ("BadGram", false), ("BadPartition", false), ("BadFamily", false), ("BadCurve", false), ("BadPoint", false), ("BadCode", false), ("BadPrime", false), ("BadQuasi", false), ("NothingThere", false), ("TermError", false)]
def is_ValueError : List (Str × Bool) := [("BadNumber", true), ("BadRow", true), ("BadLevel", true), ("BadWeight", true), ("BadMaking", true), ("Unlike", true), ("TooMany", true), ("BadQuadratic", true), ("BadDiscriminant", true), ("BadGram", true), ("BadPartition", true), ("BadFamily", true), ("BadCurve", true), ("BadPoint", true), ("BadCode", true), ("BadPrime", true), ("BadQuasi", true), ("NothingThere", true), ("TermError", true)]
def knL : List Str := [("BadNumber" : Str), ("BadRow" : Str), ("BadLevel" : Str), ("BadWeight" : Str), ("BadMaking" : Str), ("Unlike" : Str), ("TooMany" : Str), ("BadQuadratic" : Str), ("BadDiscriminant" : Str), ("BadGram" : Str), ("BadPartition" : Str), ("BadFamily" : Str), ("BadCurve" : Str), ("BadPoint" : Str), ("BadCode" : Str), ("BadPrime" : Str), ("BadQuasi" : Str), ("NothingThere" : Str), ("TermError" : Str)]
structure Fx (P : Program) (w : World) (K : PySem.W.Frag) (mg : Str → Option Value) (base : Heap) where
  d__law_deck : FuncData
  F__law_deck : L2.FunD K "_law_deck" "_law_deck" (defArgs st__law_deck) (defBody st__law_deck) (defScope st__law_deck) [] [] (He.ga K "_law_deck") d__law_deck
  m__law_deck : mg "_law_deck" = some (.ref (He.ga K "_law_deck"))
  d__law_draw : FuncData
  F__law_draw : L2.FunD K "_law_draw" "_law_draw" (defArgs st__law_draw) (defBody st__law_draw) (defScope st__law_draw) [] [] (He.ga K "_law_draw") d__law_draw
  m__law_draw : mg "_law_draw" = some (.ref (He.ga K "_law_draw"))
  d__law_is : FuncData
  F__law_is : L2.FunD K "_law_is" "_law_is" (defArgs st__law_is) (defBody st__law_is) (defScope st__law_is) [] [] (He.ga K "_law_is") d__law_is
  m__law_is : mg "_law_is" = some (.ref (He.ga K "_law_is"))
  d__law_first : FuncData
  F__law_first : L2.FunD K "_law_first" "_law_first" (defArgs st__law_first) (defBody st__law_first) (defScope st__law_first) [] [] (He.ga K "_law_first") d__law_first
  m__law_first : mg "_law_first" = some (.ref (He.ga K "_law_first"))
  d__law_second : FuncData
  F__law_second : L2.FunD K "_law_second" "_law_second" (defArgs st__law_second) (defBody st__law_second) (defScope st__law_second) [] [] (He.ga K "_law_second") d__law_second
  m__law_second : mg "_law_second" = some (.ref (He.ga K "_law_second"))
  d__law_bare : FuncData
  F__law_bare : L2.FunD K "_law_bare" "_law_bare" (defArgs st__law_bare) (defBody st__law_bare) (defScope st__law_bare) [] [] (He.ga K "_law_bare") d__law_bare
  m__law_bare : mg "_law_bare" = some (.ref (He.ga K "_law_bare"))
  d__law_kinds : FuncData
  F__law_kinds : L2.FunD K "_law_kinds" "_law_kinds" (defArgs st__law_kinds) (defBody st__law_kinds) (defScope st__law_kinds) [] [] (He.ga K "_law_kinds") d__law_kinds
  m__law_kinds : mg "_law_kinds" = some (.ref (He.ga K "_law_kinds"))
  d_law : FuncData
  F_law : L2.FunD K "law" "law" (defArgs st_law) (defBody st_law) (defScope st_law) [] [] (He.ga K "law") d_law
  m_law : mg "law" = some (.ref (He.ga K "law"))
  b_ValueError : mg "ValueError" = none
  b_abs : mg "abs" = none
  b_any : mg "any" = none
  b_int : mg "int" = none
  b_isinstance : mg "isinstance" = none
  b_len : mg "len" = none
  b_list : mg "list" = none
  b_range : mg "range" = none
  b_repr : mg "repr" = none
  b_super : mg "super" = none
  a_TermError : mg "TermError" = some (.ref (He.ga K "TermError"))
  a_BadNumber : mg "BadNumber" = some (.ref (He.ga K "BadNumber"))
  a_BadRow : mg "BadRow" = some (.ref (He.ga K "BadRow"))
  a_BadLevel : mg "BadLevel" = some (.ref (He.ga K "BadLevel"))
  a_BadWeight : mg "BadWeight" = some (.ref (He.ga K "BadWeight"))
  a_BadMaking : mg "BadMaking" = some (.ref (He.ga K "BadMaking"))
  a_Unlike : mg "Unlike" = some (.ref (He.ga K "Unlike"))
  a_TooMany : mg "TooMany" = some (.ref (He.ga K "TooMany"))
  a_BadQuadratic : mg "BadQuadratic" = some (.ref (He.ga K "BadQuadratic"))
  a_BadDiscriminant : mg "BadDiscriminant" = some (.ref (He.ga K "BadDiscriminant"))
  a_BadGram : mg "BadGram" = some (.ref (He.ga K "BadGram"))
  a_BadPartition : mg "BadPartition" = some (.ref (He.ga K "BadPartition"))
  a_BadFamily : mg "BadFamily" = some (.ref (He.ga K "BadFamily"))
  a_BadCurve : mg "BadCurve" = some (.ref (He.ga K "BadCurve"))
  a_BadPoint : mg "BadPoint" = some (.ref (He.ga K "BadPoint"))
  a_BadCode : mg "BadCode" = some (.ref (He.ga K "BadCode"))
  a_BadPrime : mg "BadPrime" = some (.ref (He.ga K "BadPrime"))
  a_BadQuasi : mg "BadQuasi" = some (.ref (He.ga K "BadQuasi"))
  a_NothingThere : mg "NothingThere" = some (.ref (He.ga K "NothingThere"))
  e_BadNumber : ErrD P w K mg base "BadNumber" (He.ga K "TermError") (He.ga K "BadNumber")
  e_BadRow : ErrD P w K mg base "BadRow" (He.ga K "TermError") (He.ga K "BadRow")
  e_BadLevel : ErrD P w K mg base "BadLevel" (He.ga K "TermError") (He.ga K "BadLevel")
  e_BadWeight : ErrD P w K mg base "BadWeight" (He.ga K "TermError") (He.ga K "BadWeight")
  e_BadMaking : ErrD P w K mg base "BadMaking" (He.ga K "TermError") (He.ga K "BadMaking")
  e_Unlike : ErrD P w K mg base "Unlike" (He.ga K "TermError") (He.ga K "Unlike")
  e_TooMany : ErrD P w K mg base "TooMany" (He.ga K "TermError") (He.ga K "TooMany")
  e_BadQuadratic : ErrD P w K mg base "BadQuadratic" (He.ga K "TermError") (He.ga K "BadQuadratic")
  e_BadDiscriminant : ErrD P w K mg base "BadDiscriminant" (He.ga K "TermError") (He.ga K "BadDiscriminant")
  e_BadGram : ErrD P w K mg base "BadGram" (He.ga K "TermError") (He.ga K "BadGram")
  e_BadPartition : ErrD P w K mg base "BadPartition" (He.ga K "TermError") (He.ga K "BadPartition")
  e_BadFamily : ErrD P w K mg base "BadFamily" (He.ga K "TermError") (He.ga K "BadFamily")
  e_BadCurve : ErrD P w K mg base "BadCurve" (He.ga K "TermError") (He.ga K "BadCurve")
  e_BadPoint : ErrD P w K mg base "BadPoint" (He.ga K "TermError") (He.ga K "BadPoint")
  e_BadCode : ErrD P w K mg base "BadCode" (He.ga K "TermError") (He.ga K "BadCode")
  e_BadPrime : ErrD P w K mg base "BadPrime" (He.ga K "TermError") (He.ga K "BadPrime")
  e_BadQuasi : ErrD P w K mg base "BadQuasi" (He.ga K "TermError") (He.ga K "BadQuasi")
  e_NothingThere : ErrD P w K mg base "NothingThere" (He.ga K "TermError") (He.ga K "NothingThere")
  e_TermError : ErrT P w K mg base (He.ga K "TermError")
  q_BadNumber : XfC K (He.ga K "BadNumber") ∧ ExcC K (He.ga K "BadNumber")
  q_BadRow : XfC K (He.ga K "BadRow") ∧ ExcC K (He.ga K "BadRow")
  q_BadLevel : XfC K (He.ga K "BadLevel") ∧ ExcC K (He.ga K "BadLevel")
  q_BadWeight : XfC K (He.ga K "BadWeight") ∧ ExcC K (He.ga K "BadWeight")
  q_BadMaking : XfC K (He.ga K "BadMaking") ∧ ExcC K (He.ga K "BadMaking")
  q_Unlike : XfC K (He.ga K "Unlike") ∧ ExcC K (He.ga K "Unlike")
  q_TooMany : XfC K (He.ga K "TooMany") ∧ ExcC K (He.ga K "TooMany")
  q_BadQuadratic : XfC K (He.ga K "BadQuadratic") ∧ ExcC K (He.ga K "BadQuadratic")
  q_BadDiscriminant : XfC K (He.ga K "BadDiscriminant") ∧ ExcC K (He.ga K "BadDiscriminant")
  q_BadGram : XfC K (He.ga K "BadGram") ∧ ExcC K (He.ga K "BadGram")
  q_BadPartition : XfC K (He.ga K "BadPartition") ∧ ExcC K (He.ga K "BadPartition")
  q_BadFamily : XfC K (He.ga K "BadFamily") ∧ ExcC K (He.ga K "BadFamily")
  q_BadCurve : XfC K (He.ga K "BadCurve") ∧ ExcC K (He.ga K "BadCurve")
  q_BadPoint : XfC K (He.ga K "BadPoint") ∧ ExcC K (He.ga K "BadPoint")
  q_BadCode : XfC K (He.ga K "BadCode") ∧ ExcC K (He.ga K "BadCode")
  q_BadPrime : XfC K (He.ga K "BadPrime") ∧ ExcC K (He.ga K "BadPrime")
  q_BadQuasi : XfC K (He.ga K "BadQuasi") ∧ ExcC K (He.ga K "BadQuasi")
  q_NothingThere : XfC K (He.ga K "NothingThere") ∧ ExcC K (He.ga K "NothingThere")
  q_TermError : XfC K (He.ga K "TermError") ∧ ExcC K (He.ga K "TermError")
  h_TermError_BadNumber : PySem.W.exmOne K (.ref (He.ga K "BadNumber")) (.ref (He.ga K "TermError")) = some true
  h_TermError_BadRow : PySem.W.exmOne K (.ref (He.ga K "BadRow")) (.ref (He.ga K "TermError")) = some true
  h_TermError_BadLevel : PySem.W.exmOne K (.ref (He.ga K "BadLevel")) (.ref (He.ga K "TermError")) = some true
  h_TermError_BadWeight : PySem.W.exmOne K (.ref (He.ga K "BadWeight")) (.ref (He.ga K "TermError")) = some true
  h_TermError_BadMaking : PySem.W.exmOne K (.ref (He.ga K "BadMaking")) (.ref (He.ga K "TermError")) = some true
  h_TermError_Unlike : PySem.W.exmOne K (.ref (He.ga K "Unlike")) (.ref (He.ga K "TermError")) = some true
  h_TermError_TooMany : PySem.W.exmOne K (.ref (He.ga K "TooMany")) (.ref (He.ga K "TermError")) = some true
  h_TermError_BadQuadratic : PySem.W.exmOne K (.ref (He.ga K "BadQuadratic")) (.ref (He.ga K "TermError")) = some true
  h_TermError_BadDiscriminant : PySem.W.exmOne K (.ref (He.ga K "BadDiscriminant")) (.ref (He.ga K "TermError")) = some true
  h_TermError_BadGram : PySem.W.exmOne K (.ref (He.ga K "BadGram")) (.ref (He.ga K "TermError")) = some true
  h_TermError_BadPartition : PySem.W.exmOne K (.ref (He.ga K "BadPartition")) (.ref (He.ga K "TermError")) = some true
  h_TermError_BadFamily : PySem.W.exmOne K (.ref (He.ga K "BadFamily")) (.ref (He.ga K "TermError")) = some true
  h_TermError_BadCurve : PySem.W.exmOne K (.ref (He.ga K "BadCurve")) (.ref (He.ga K "TermError")) = some true
  h_TermError_BadPoint : PySem.W.exmOne K (.ref (He.ga K "BadPoint")) (.ref (He.ga K "TermError")) = some true
  h_TermError_BadCode : PySem.W.exmOne K (.ref (He.ga K "BadCode")) (.ref (He.ga K "TermError")) = some true
  h_TermError_BadPrime : PySem.W.exmOne K (.ref (He.ga K "BadPrime")) (.ref (He.ga K "TermError")) = some true
  h_TermError_BadQuasi : PySem.W.exmOne K (.ref (He.ga K "BadQuasi")) (.ref (He.ga K "TermError")) = some true
  h_TermError_NothingThere : PySem.W.exmOne K (.ref (He.ga K "NothingThere")) (.ref (He.ga K "TermError")) = some true
  i_BadCode : (is_BadCode.all fun p => decide (PySem.W.kitOne K (.ref (He.ga K p.1)) (.ref (He.ga K "BadCode")) = some p.2)) = true
  i_BadCurve : (is_BadCurve.all fun p => decide (PySem.W.kitOne K (.ref (He.ga K p.1)) (.ref (He.ga K "BadCurve")) = some p.2)) = true
  i_BadDiscriminant : (is_BadDiscriminant.all fun p => decide (PySem.W.kitOne K (.ref (He.ga K p.1)) (.ref (He.ga K "BadDiscriminant")) = some p.2)) = true
  i_BadFamily : (is_BadFamily.all fun p => decide (PySem.W.kitOne K (.ref (He.ga K p.1)) (.ref (He.ga K "BadFamily")) = some p.2)) = true
  i_BadGram : (is_BadGram.all fun p => decide (PySem.W.kitOne K (.ref (He.ga K p.1)) (.ref (He.ga K "BadGram")) = some p.2)) = true
  i_BadLevel : (is_BadLevel.all fun p => decide (PySem.W.kitOne K (.ref (He.ga K p.1)) (.ref (He.ga K "BadLevel")) = some p.2)) = true
  i_BadMaking : (is_BadMaking.all fun p => decide (PySem.W.kitOne K (.ref (He.ga K p.1)) (.ref (He.ga K "BadMaking")) = some p.2)) = true
  i_BadNumber : (is_BadNumber.all fun p => decide (PySem.W.kitOne K (.ref (He.ga K p.1)) (.ref (He.ga K "BadNumber")) = some p.2)) = true
  i_BadPartition : (is_BadPartition.all fun p => decide (PySem.W.kitOne K (.ref (He.ga K p.1)) (.ref (He.ga K "BadPartition")) = some p.2)) = true
  i_BadPoint : (is_BadPoint.all fun p => decide (PySem.W.kitOne K (.ref (He.ga K p.1)) (.ref (He.ga K "BadPoint")) = some p.2)) = true
  i_BadPrime : (is_BadPrime.all fun p => decide (PySem.W.kitOne K (.ref (He.ga K p.1)) (.ref (He.ga K "BadPrime")) = some p.2)) = true
  i_BadQuadratic : (is_BadQuadratic.all fun p => decide (PySem.W.kitOne K (.ref (He.ga K p.1)) (.ref (He.ga K "BadQuadratic")) = some p.2)) = true
  i_BadQuasi : (is_BadQuasi.all fun p => decide (PySem.W.kitOne K (.ref (He.ga K p.1)) (.ref (He.ga K "BadQuasi")) = some p.2)) = true
  i_BadRow : (is_BadRow.all fun p => decide (PySem.W.kitOne K (.ref (He.ga K p.1)) (.ref (He.ga K "BadRow")) = some p.2)) = true
  i_BadWeight : (is_BadWeight.all fun p => decide (PySem.W.kitOne K (.ref (He.ga K p.1)) (.ref (He.ga K "BadWeight")) = some p.2)) = true
  i_NothingThere : (is_NothingThere.all fun p => decide (PySem.W.kitOne K (.ref (He.ga K p.1)) (.ref (He.ga K "NothingThere")) = some p.2)) = true
  i_TermError : (is_TermError.all fun p => decide (PySem.W.kitOne K (.ref (He.ga K p.1)) (.ref (He.ga K "TermError")) = some p.2)) = true
  i_TooMany : (is_TooMany.all fun p => decide (PySem.W.kitOne K (.ref (He.ga K p.1)) (.ref (He.ga K "TooMany")) = some p.2)) = true
  i_Unlike : (is_Unlike.all fun p => decide (PySem.W.kitOne K (.ref (He.ga K p.1)) (.ref (He.ga K "Unlike")) = some p.2)) = true
  i_ValueError : (is_ValueError.all fun p => decide (PySem.W.kitOne K (.ref (He.ga K p.1)) (.type "ValueError") = some p.2)) = true
section
variable {P : Program} {w : World} {K : PySem.W.Frag} {mg : Str → Option Value} {base : Heap}
theorem kn_place (T : Fx P w K mg base) : ∀ c, knE c = true → XfC K (He.ga K c) ∧ PySem.W.findIn K (.ref (He.ga K c)) "place" = some none := con_of (List.forall_mem_cons.mpr ⟨⟨T.q_BadNumber.1, T.e_BadNumber.err.p⟩, (List.forall_mem_cons.mpr ⟨⟨T.q_BadRow.1, T.e_BadRow.err.p⟩, (List.forall_mem_cons.mpr ⟨⟨T.q_BadLevel.1, T.e_BadLevel.err.p⟩, (List.forall_mem_cons.mpr ⟨⟨T.q_BadWeight.1, T.e_BadWeight.err.p⟩, (List.forall_mem_cons.mpr ⟨⟨T.q_BadMaking.1, T.e_BadMaking.err.p⟩, (List.forall_mem_cons.mpr ⟨⟨T.q_Unlike.1, T.e_Unlike.err.p⟩, (List.forall_mem_cons.mpr ⟨⟨T.q_TooMany.1, T.e_TooMany.err.p⟩, (List.forall_mem_cons.mpr ⟨⟨T.q_BadQuadratic.1, T.e_BadQuadratic.err.p⟩, (List.forall_mem_cons.mpr ⟨⟨T.q_BadDiscriminant.1, T.e_BadDiscriminant.err.p⟩, (List.forall_mem_cons.mpr ⟨⟨T.q_BadGram.1, T.e_BadGram.err.p⟩, (List.forall_mem_cons.mpr ⟨⟨T.q_BadPartition.1, T.e_BadPartition.err.p⟩, (List.forall_mem_cons.mpr ⟨⟨T.q_BadFamily.1, T.e_BadFamily.err.p⟩, (List.forall_mem_cons.mpr ⟨⟨T.q_BadCurve.1, T.e_BadCurve.err.p⟩, (List.forall_mem_cons.mpr ⟨⟨T.q_BadPoint.1, T.e_BadPoint.err.p⟩, (List.forall_mem_cons.mpr ⟨⟨T.q_BadCode.1, T.e_BadCode.err.p⟩, (List.forall_mem_cons.mpr ⟨⟨T.q_BadPrime.1, T.e_BadPrime.err.p⟩, (List.forall_mem_cons.mpr ⟨⟨T.q_BadQuasi.1, T.e_BadQuasi.err.p⟩, (List.forall_mem_cons.mpr ⟨⟨T.q_NothingThere.1, T.e_NothingThere.err.p⟩, (List.forall_mem_cons.mpr ⟨⟨T.q_TermError.1, T.e_TermError.err.p⟩, List.forall_mem_nil _⟩)⟩)⟩)⟩)⟩)⟩)⟩)⟩)⟩)⟩)⟩)⟩)⟩)⟩)⟩)⟩)⟩)⟩)⟩)
theorem kn_word (T : Fx P w K mg base) : ∀ c, knE c = true → XfC K (He.ga K c) ∧ PySem.W.findIn K (.ref (He.ga K c)) "word" = some none := con_of (List.forall_mem_cons.mpr ⟨⟨T.q_BadNumber.1, T.e_BadNumber.err.w⟩, (List.forall_mem_cons.mpr ⟨⟨T.q_BadRow.1, T.e_BadRow.err.w⟩, (List.forall_mem_cons.mpr ⟨⟨T.q_BadLevel.1, T.e_BadLevel.err.w⟩, (List.forall_mem_cons.mpr ⟨⟨T.q_BadWeight.1, T.e_BadWeight.err.w⟩, (List.forall_mem_cons.mpr ⟨⟨T.q_BadMaking.1, T.e_BadMaking.err.w⟩, (List.forall_mem_cons.mpr ⟨⟨T.q_Unlike.1, T.e_Unlike.err.w⟩, (List.forall_mem_cons.mpr ⟨⟨T.q_TooMany.1, T.e_TooMany.err.w⟩, (List.forall_mem_cons.mpr ⟨⟨T.q_BadQuadratic.1, T.e_BadQuadratic.err.w⟩, (List.forall_mem_cons.mpr ⟨⟨T.q_BadDiscriminant.1, T.e_BadDiscriminant.err.w⟩, (List.forall_mem_cons.mpr ⟨⟨T.q_BadGram.1, T.e_BadGram.err.w⟩, (List.forall_mem_cons.mpr ⟨⟨T.q_BadPartition.1, T.e_BadPartition.err.w⟩, (List.forall_mem_cons.mpr ⟨⟨T.q_BadFamily.1, T.e_BadFamily.err.w⟩, (List.forall_mem_cons.mpr ⟨⟨T.q_BadCurve.1, T.e_BadCurve.err.w⟩, (List.forall_mem_cons.mpr ⟨⟨T.q_BadPoint.1, T.e_BadPoint.err.w⟩, (List.forall_mem_cons.mpr ⟨⟨T.q_BadCode.1, T.e_BadCode.err.w⟩, (List.forall_mem_cons.mpr ⟨⟨T.q_BadPrime.1, T.e_BadPrime.err.w⟩, (List.forall_mem_cons.mpr ⟨⟨T.q_BadQuasi.1, T.e_BadQuasi.err.w⟩, (List.forall_mem_cons.mpr ⟨⟨T.q_NothingThere.1, T.e_NothingThere.err.w⟩, (List.forall_mem_cons.mpr ⟨⟨T.q_TermError.1, T.e_TermError.err.w⟩, List.forall_mem_nil _⟩)⟩)⟩)⟩)⟩)⟩)⟩)⟩)⟩)⟩)⟩)⟩)⟩)⟩)⟩)⟩)⟩)⟩)⟩)
theorem q_all (T : Fx P w K mg base) : ∀ x ∈ knL, XfC K (He.ga K x) ∧ ExcC K (He.ga K x) := (List.forall_mem_cons.mpr ⟨T.q_BadNumber, (List.forall_mem_cons.mpr ⟨T.q_BadRow, (List.forall_mem_cons.mpr ⟨T.q_BadLevel, (List.forall_mem_cons.mpr ⟨T.q_BadWeight, (List.forall_mem_cons.mpr ⟨T.q_BadMaking, (List.forall_mem_cons.mpr ⟨T.q_Unlike, (List.forall_mem_cons.mpr ⟨T.q_TooMany, (List.forall_mem_cons.mpr ⟨T.q_BadQuadratic, (List.forall_mem_cons.mpr ⟨T.q_BadDiscriminant, (List.forall_mem_cons.mpr ⟨T.q_BadGram, (List.forall_mem_cons.mpr ⟨T.q_BadPartition, (List.forall_mem_cons.mpr ⟨T.q_BadFamily, (List.forall_mem_cons.mpr ⟨T.q_BadCurve, (List.forall_mem_cons.mpr ⟨T.q_BadPoint, (List.forall_mem_cons.mpr ⟨T.q_BadCode, (List.forall_mem_cons.mpr ⟨T.q_BadPrime, (List.forall_mem_cons.mpr ⟨T.q_BadQuasi, (List.forall_mem_cons.mpr ⟨T.q_NothingThere, (List.forall_mem_cons.mpr ⟨T.q_TermError, List.forall_mem_nil _⟩)⟩)⟩)⟩)⟩)⟩)⟩)⟩)⟩)⟩)⟩)⟩)⟩)⟩)⟩)⟩)⟩)⟩)⟩)
theorem hc_TermError (T : Fx P w K mg base) : ∀ k r, hd_TermError.lookup k = some r → mg k = some (.ref (He.ga K k)) ∧ PySem.W.exmOne K (.ref (He.ga K k)) (.ref (He.ga K "TermError")) = some r := tab_of (List.forall_mem_cons.mpr ⟨⟨T.a_BadNumber, T.h_TermError_BadNumber⟩, (List.forall_mem_cons.mpr ⟨⟨T.a_BadRow, T.h_TermError_BadRow⟩, (List.forall_mem_cons.mpr ⟨⟨T.a_BadLevel, T.h_TermError_BadLevel⟩, (List.forall_mem_cons.mpr ⟨⟨T.a_BadWeight, T.h_TermError_BadWeight⟩, (List.forall_mem_cons.mpr ⟨⟨T.a_BadMaking, T.h_TermError_BadMaking⟩, (List.forall_mem_cons.mpr ⟨⟨T.a_Unlike, T.h_TermError_Unlike⟩, (List.forall_mem_cons.mpr ⟨⟨T.a_TooMany, T.h_TermError_TooMany⟩, (List.forall_mem_cons.mpr ⟨⟨T.a_BadQuadratic, T.h_TermError_BadQuadratic⟩, (List.forall_mem_cons.mpr ⟨⟨T.a_BadDiscriminant, T.h_TermError_BadDiscriminant⟩, (List.forall_mem_cons.mpr ⟨⟨T.a_BadGram, T.h_TermError_BadGram⟩, (List.forall_mem_cons.mpr ⟨⟨T.a_BadPartition, T.h_TermError_BadPartition⟩, (List.forall_mem_cons.mpr ⟨⟨T.a_BadFamily, T.h_TermError_BadFamily⟩, (List.forall_mem_cons.mpr ⟨⟨T.a_BadCurve, T.h_TermError_BadCurve⟩, (List.forall_mem_cons.mpr ⟨⟨T.a_BadPoint, T.h_TermError_BadPoint⟩, (List.forall_mem_cons.mpr ⟨⟨T.a_BadCode, T.h_TermError_BadCode⟩, (List.forall_mem_cons.mpr ⟨⟨T.a_BadPrime, T.h_TermError_BadPrime⟩, (List.forall_mem_cons.mpr ⟨⟨T.a_BadQuasi, T.h_TermError_BadQuasi⟩, (List.forall_mem_cons.mpr ⟨⟨T.a_NothingThere, T.h_TermError_NothingThere⟩, List.forall_mem_nil _⟩)⟩)⟩)⟩)⟩)⟩)⟩)⟩)⟩)⟩)⟩)⟩)⟩)⟩)⟩)⟩)⟩)⟩)
theorem isT_BadCode (T : Fx P w K mg base) : ∀ k r, is_BadCode.lookup k = some r → ExcC K (He.ga K k) ∧ PySem.W.kitOne K (.ref (He.ga K k)) (.ref (He.ga K "BadCode")) = some r := tab_of fun p hp => ⟨(q_all T p.1 (List.mem_map_of_mem (f := fun q : Str × Bool => q.1) hp)).2, of_decide_eq_true (List.all_eq_true.mp T.i_BadCode p hp)⟩
theorem isT_BadCurve (T : Fx P w K mg base) : ∀ k r, is_BadCurve.lookup k = some r → ExcC K (He.ga K k) ∧ PySem.W.kitOne K (.ref (He.ga K k)) (.ref (He.ga K "BadCurve")) = some r := tab_of fun p hp => ⟨(q_all T p.1 (List.mem_map_of_mem (f := fun q : Str × Bool => q.1) hp)).2, of_decide_eq_true (List.all_eq_true.mp T.i_BadCurve p hp)⟩
theorem isT_BadDiscriminant (T : Fx P w K mg base) : ∀ k r, is_BadDiscriminant.lookup k = some r → ExcC K (He.ga K k) ∧ PySem.W.kitOne K (.ref (He.ga K k)) (.ref (He.ga K "BadDiscriminant")) = some r := tab_of fun p hp => ⟨(q_all T p.1 (List.mem_map_of_mem (f := fun q : Str × Bool => q.1) hp)).2, of_decide_eq_true (List.all_eq_true.mp T.i_BadDiscriminant p hp)⟩
theorem isT_BadFamily (T : Fx P w K mg base) : ∀ k r, is_BadFamily.lookup k = some r → ExcC K (He.ga K k) ∧ PySem.W.kitOne K (.ref (He.ga K k)) (.ref (He.ga K "BadFamily")) = some r := tab_of fun p hp => ⟨(q_all T p.1 (List.mem_map_of_mem (f := fun q : Str × Bool => q.1) hp)).2, of_decide_eq_true (List.all_eq_true.mp T.i_BadFamily p hp)⟩
theorem isT_BadGram (T : Fx P w K mg base) : ∀ k r, is_BadGram.lookup k = some r → ExcC K (He.ga K k) ∧ PySem.W.kitOne K (.ref (He.ga K k)) (.ref (He.ga K "BadGram")) = some r := tab_of fun p hp => ⟨(q_all T p.1 (List.mem_map_of_mem (f := fun q : Str × Bool => q.1) hp)).2, of_decide_eq_true (List.all_eq_true.mp T.i_BadGram p hp)⟩
theorem isT_BadLevel (T : Fx P w K mg base) : ∀ k r, is_BadLevel.lookup k = some r → ExcC K (He.ga K k) ∧ PySem.W.kitOne K (.ref (He.ga K k)) (.ref (He.ga K "BadLevel")) = some r := tab_of fun p hp => ⟨(q_all T p.1 (List.mem_map_of_mem (f := fun q : Str × Bool => q.1) hp)).2, of_decide_eq_true (List.all_eq_true.mp T.i_BadLevel p hp)⟩
theorem isT_BadMaking (T : Fx P w K mg base) : ∀ k r, is_BadMaking.lookup k = some r → ExcC K (He.ga K k) ∧ PySem.W.kitOne K (.ref (He.ga K k)) (.ref (He.ga K "BadMaking")) = some r := tab_of fun p hp => ⟨(q_all T p.1 (List.mem_map_of_mem (f := fun q : Str × Bool => q.1) hp)).2, of_decide_eq_true (List.all_eq_true.mp T.i_BadMaking p hp)⟩
theorem isT_BadNumber (T : Fx P w K mg base) : ∀ k r, is_BadNumber.lookup k = some r → ExcC K (He.ga K k) ∧ PySem.W.kitOne K (.ref (He.ga K k)) (.ref (He.ga K "BadNumber")) = some r := tab_of fun p hp => ⟨(q_all T p.1 (List.mem_map_of_mem (f := fun q : Str × Bool => q.1) hp)).2, of_decide_eq_true (List.all_eq_true.mp T.i_BadNumber p hp)⟩
theorem isT_BadPartition (T : Fx P w K mg base) : ∀ k r, is_BadPartition.lookup k = some r → ExcC K (He.ga K k) ∧ PySem.W.kitOne K (.ref (He.ga K k)) (.ref (He.ga K "BadPartition")) = some r := tab_of fun p hp => ⟨(q_all T p.1 (List.mem_map_of_mem (f := fun q : Str × Bool => q.1) hp)).2, of_decide_eq_true (List.all_eq_true.mp T.i_BadPartition p hp)⟩
theorem isT_BadPoint (T : Fx P w K mg base) : ∀ k r, is_BadPoint.lookup k = some r → ExcC K (He.ga K k) ∧ PySem.W.kitOne K (.ref (He.ga K k)) (.ref (He.ga K "BadPoint")) = some r := tab_of fun p hp => ⟨(q_all T p.1 (List.mem_map_of_mem (f := fun q : Str × Bool => q.1) hp)).2, of_decide_eq_true (List.all_eq_true.mp T.i_BadPoint p hp)⟩
theorem isT_BadPrime (T : Fx P w K mg base) : ∀ k r, is_BadPrime.lookup k = some r → ExcC K (He.ga K k) ∧ PySem.W.kitOne K (.ref (He.ga K k)) (.ref (He.ga K "BadPrime")) = some r := tab_of fun p hp => ⟨(q_all T p.1 (List.mem_map_of_mem (f := fun q : Str × Bool => q.1) hp)).2, of_decide_eq_true (List.all_eq_true.mp T.i_BadPrime p hp)⟩
theorem isT_BadQuadratic (T : Fx P w K mg base) : ∀ k r, is_BadQuadratic.lookup k = some r → ExcC K (He.ga K k) ∧ PySem.W.kitOne K (.ref (He.ga K k)) (.ref (He.ga K "BadQuadratic")) = some r := tab_of fun p hp => ⟨(q_all T p.1 (List.mem_map_of_mem (f := fun q : Str × Bool => q.1) hp)).2, of_decide_eq_true (List.all_eq_true.mp T.i_BadQuadratic p hp)⟩
theorem isT_BadQuasi (T : Fx P w K mg base) : ∀ k r, is_BadQuasi.lookup k = some r → ExcC K (He.ga K k) ∧ PySem.W.kitOne K (.ref (He.ga K k)) (.ref (He.ga K "BadQuasi")) = some r := tab_of fun p hp => ⟨(q_all T p.1 (List.mem_map_of_mem (f := fun q : Str × Bool => q.1) hp)).2, of_decide_eq_true (List.all_eq_true.mp T.i_BadQuasi p hp)⟩
theorem isT_BadRow (T : Fx P w K mg base) : ∀ k r, is_BadRow.lookup k = some r → ExcC K (He.ga K k) ∧ PySem.W.kitOne K (.ref (He.ga K k)) (.ref (He.ga K "BadRow")) = some r := tab_of fun p hp => ⟨(q_all T p.1 (List.mem_map_of_mem (f := fun q : Str × Bool => q.1) hp)).2, of_decide_eq_true (List.all_eq_true.mp T.i_BadRow p hp)⟩
theorem isT_BadWeight (T : Fx P w K mg base) : ∀ k r, is_BadWeight.lookup k = some r → ExcC K (He.ga K k) ∧ PySem.W.kitOne K (.ref (He.ga K k)) (.ref (He.ga K "BadWeight")) = some r := tab_of fun p hp => ⟨(q_all T p.1 (List.mem_map_of_mem (f := fun q : Str × Bool => q.1) hp)).2, of_decide_eq_true (List.all_eq_true.mp T.i_BadWeight p hp)⟩
theorem isT_NothingThere (T : Fx P w K mg base) : ∀ k r, is_NothingThere.lookup k = some r → ExcC K (He.ga K k) ∧ PySem.W.kitOne K (.ref (He.ga K k)) (.ref (He.ga K "NothingThere")) = some r := tab_of fun p hp => ⟨(q_all T p.1 (List.mem_map_of_mem (f := fun q : Str × Bool => q.1) hp)).2, of_decide_eq_true (List.all_eq_true.mp T.i_NothingThere p hp)⟩
theorem isT_TermError (T : Fx P w K mg base) : ∀ k r, is_TermError.lookup k = some r → ExcC K (He.ga K k) ∧ PySem.W.kitOne K (.ref (He.ga K k)) (.ref (He.ga K "TermError")) = some r := tab_of fun p hp => ⟨(q_all T p.1 (List.mem_map_of_mem (f := fun q : Str × Bool => q.1) hp)).2, of_decide_eq_true (List.all_eq_true.mp T.i_TermError p hp)⟩
theorem isT_TooMany (T : Fx P w K mg base) : ∀ k r, is_TooMany.lookup k = some r → ExcC K (He.ga K k) ∧ PySem.W.kitOne K (.ref (He.ga K k)) (.ref (He.ga K "TooMany")) = some r := tab_of fun p hp => ⟨(q_all T p.1 (List.mem_map_of_mem (f := fun q : Str × Bool => q.1) hp)).2, of_decide_eq_true (List.all_eq_true.mp T.i_TooMany p hp)⟩
theorem isT_Unlike (T : Fx P w K mg base) : ∀ k r, is_Unlike.lookup k = some r → ExcC K (He.ga K k) ∧ PySem.W.kitOne K (.ref (He.ga K k)) (.ref (He.ga K "Unlike")) = some r := tab_of fun p hp => ⟨(q_all T p.1 (List.mem_map_of_mem (f := fun q : Str × Bool => q.1) hp)).2, of_decide_eq_true (List.all_eq_true.mp T.i_Unlike p hp)⟩
theorem isT_ValueError (T : Fx P w K mg base) : ∀ k r, is_ValueError.lookup k = some r → ExcC K (He.ga K k) ∧ PySem.W.kitOne K (.ref (He.ga K k)) (.type "ValueError") = some r := tab_of fun p hp => ⟨(q_all T p.1 (List.mem_map_of_mem (f := fun q : Str × Bool => q.1) hp)).2, of_decide_eq_true (List.all_eq_true.mp T.i_ValueError p hp)⟩
/-! _law_deck -/
noncomputable def _law_deck_b : SF :=
  (seqC (setC 1 (cC (.int 7)))
    (seqC (forC (iterC (varC 0)) (gN 2) (setC 1 (binC modD (callC intD (consA (binC addD (binC mulD (varC 1) (cC (.int 48271))) (varC 2)) nilA)) (cC (.int 2147483647)))))
    (retC (lstC (consA (cC (.int 0)) (consA (cC (.int 0)) (consA (varC 1) (consA (callC listD (consA (varC 0) nilA)) (consA (cC (.int 0)) nilA)))))))))
noncomputable def _law_deck_c : FF := bodyC 3 _law_deck_b
abbrev N__law_deck : List Str := ["script", "seed", "cell"]
theorem sc__law_deck : FnScope N__law_deck ["script"] (defScope st__law_deck) := ⟨rfl, rfl, rfl, by decide +kernel, rfl, by decide +kernel, by decide +kernel⟩
theorem bd__law_deck (T : Fx P w K mg base) : Binds K T.d__law_deck ["script"] [] := T.F__law_deck.bindsN fun _ _ _ _ _ _ us hl => match us, hl with | [_], _ => rfl
theorem ok__law_deck (T : Fx P w K mg base) : FnG P w K mg base 1 (He.ga K "_law_deck") T.d__law_deck ["script"] (spF K mg 1 _law_deck_c) :=
  defOkT (N := N__law_deck) (k := 0) T.F__law_deck sc__law_deck fun cdv A out s H E C Dt =>
    (xss_cons (xs_set 1 C.nd xe_int)
    (xss_cons (xs_for C.hp C.calm (xi_val (xe_var 0)) (xg_name 2 C.nd) (xss_one (xs_set 1 C.nd (xe_bin f_mod (xe_callT f_int T.b_int (xa_cons (xe_bin f_add (xe_bin f_mul (xe_var 1) xe_int) (xe_var 2)) xa_nil)) xe_int))))
    (xss_one (xs_ret (xe_lst (xa_cons xe_int (xa_cons xe_int (xa_cons (xe_var 1) (xa_cons (xe_callT f_list T.b_list (xa_cons (xe_var 0) xa_nil)) (xa_cons xe_int xa_nil))))) (aLen_cons (aLen_cons (aLen_cons (aLen_cons (aLen_cons aLen_nil))))))))))
/-! _law_draw -/
noncomputable def _law_draw_b : SF :=
  (seqC (ifS (andT (valT (binC (eqD false) (binC ixD (varC 0) (cC (.int 0))) (cC (.int 0)))) (valT (binC (cmpD fun i j => decide (i < j)) (binC ixD (varC 0) (cC (.int 1))) (callC lenD (consA (binC ixD (varC 0) (cC (.int 3))) nilA))))) (seqC (asgC (callC absD (consA (binC ixD (binC ixD (varC 0) (cC (.int 3))) (binC ixD (varC 0) (cC (.int 1)))) nilA)) (gSubC setD (varC 0) (cC (.int 0))))
    (asgC (binC addD (binC ixD (varC 0) (cC (.int 1))) (cC (.int 1))) (gSubC setD (varC 0) (cC (.int 1))))) (ifS (valT (binC (eqD false) (binC ixD (varC 0) (cC (.int 0))) (cC (.int 0)))) (seqC (asgC (binC addD (binC ixD (varC 0) (cC (.int 4))) (cC (.int 1))) (gSubC setD (varC 0) (cC (.int 4))))
    (seqC (setC 3 (binC modD (callC intD (consA (binC addD (binC addD (binC mulD (binC ixD (varC 0) (cC (.int 2))) (cC (.int 48271))) (binC mulD (binC ixD (varC 0) (cC (.int 4))) (cC (.int 69621)))) (cC (.int 12345))) nilA)) (cC (.int 2147483647))))
    (seqC (setC 3 (binC modD (callC intD (consA (binC addD (binC addD (binC mulD (varC 3) (varC 3)) (binC mulD (cC (.int 16807)) (binC ixD (varC 0) (cC (.int 4))))) (cC (.int 7))) nilA)) (cC (.int 998244353))))
    (seqC (setC 3 (binC modD (callC intD (consA (binC addD (binC addD (binC mulD (varC 3) (varC 3)) (binC mulD (cC (.int 48271)) (binC ixD (varC 0) (cC (.int 4))))) (binC ixD (varC 0) (cC (.int 2)))) nilA)) (cC (.int 2147483629))))
    (asgC (binC fdivD (varC 3) (cC (.int 13))) (gSubC setD (varC 0) (cC (.int 0)))))))) passC))
    (seqC (setC 2 (binC modD (callC intD (consA (binC ixD (varC 0) (cC (.int 0))) nilA)) (varC 1)))
    (seqC (asgC (binC fdivD (binC ixD (varC 0) (cC (.int 0))) (varC 1)) (gSubC setD (varC 0) (cC (.int 0))))
    (retC (varC 2)))))
noncomputable def _law_draw_c : FF := bodyC 4 _law_draw_b
abbrev N__law_draw : List Str := ["deck", "bound", "value", "number"]
theorem sc__law_draw : FnScope N__law_draw ["deck", "bound"] (defScope st__law_draw) := ⟨rfl, rfl, rfl, by decide +kernel, rfl, by decide +kernel, by decide +kernel⟩
theorem bd__law_draw (T : Fx P w K mg base) : Binds K T.d__law_draw ["deck", "bound"] [] := T.F__law_draw.bindsN fun _ _ _ _ _ _ us hl => match us, hl with | [_, _], _ => rfl
theorem ok__law_draw (T : Fx P w K mg base) : FnG P w K mg base 1 (He.ga K "_law_draw") T.d__law_draw ["deck", "bound"] (spF K mg 2 _law_draw_c) :=
  defOkT (N := N__law_draw) (k := 0) T.F__law_draw sc__law_draw fun cdv A out s H E C Dt =>
    (xss_cons (xs_if ((xw_and (xt_cmpR (f_eq C) (xe_ix (f_ix C) (xe_var 0) xe_int) xe_int (nomark _)) (xw_and1 (xt_cmpR f_lt (xe_ix (f_ix C) (xe_var 0) xe_int) (xe_callB f_len T.b_len (xa_cons (xe_ix (f_ix C) (xe_var 0) xe_int) xa_nil)) (nomark _))))).pt (xss_cons (xs_asg (xe_callB f_abs T.b_abs (xa_cons (xe_ix (f_ix C) (xe_ix (f_ix C) (xe_var 0) xe_int) (xe_ix (f_ix C) (xe_var 0) xe_int)) xa_nil)) (xg_sub (W := fun _ => E) (f_set C) (xe_var 0) xe_int))
    (xss_one (xs_asg (xe_bin f_add (xe_ix (f_ix C) (xe_var 0) xe_int) xe_int) (xg_sub (W := fun _ => E) (f_set C) (xe_var 0) xe_int)))) (xss_one (xs_if (xt_cmpR (f_eq C) (xe_ix (f_ix C) (xe_var 0) xe_int) xe_int (nomark _)) (xss_cons (xs_asg (xe_bin f_add (xe_ix (f_ix C) (xe_var 0) xe_int) xe_int) (xg_sub (W := fun _ => E) (f_set C) (xe_var 0) xe_int))
    (xss_cons (xs_set 3 C.nd (xe_bin f_mod (xe_callT f_int T.b_int (xa_cons (xe_bin f_add (xe_bin f_add (xe_bin f_mul (xe_ix (f_ix C) (xe_var 0) xe_int) xe_int) (xe_bin f_mul (xe_ix (f_ix C) (xe_var 0) xe_int) xe_int)) xe_int) xa_nil)) xe_int))
    (xss_cons (xs_set 3 C.nd (xe_bin f_mod (xe_callT f_int T.b_int (xa_cons (xe_bin f_add (xe_bin f_add (xe_bin f_mul (xe_var 3) (xe_var 3)) (xe_bin f_mul xe_int (xe_ix (f_ix C) (xe_var 0) xe_int))) xe_int) xa_nil)) xe_int))
    (xss_cons (xs_set 3 C.nd (xe_bin f_mod (xe_callT f_int T.b_int (xa_cons (xe_bin f_add (xe_bin f_add (xe_bin f_mul (xe_var 3) (xe_var 3)) (xe_bin f_mul xe_int (xe_ix (f_ix C) (xe_var 0) xe_int))) (xe_ix (f_ix C) (xe_var 0) xe_int)) xa_nil)) xe_int))
    (xss_one (xs_asg (xe_bin f_fdiv (xe_var 3) xe_int) (xg_sub (W := fun _ => E) (f_set C) (xe_var 0) xe_int))))))) xss_nil)))
    (xss_cons (xs_set 2 C.nd (xe_bin f_mod (xe_callT f_int T.b_int (xa_cons (xe_ix (f_ix C) (xe_var 0) xe_int) xa_nil)) (xe_var 1)))
    (xss_cons (xs_asg (xe_bin f_fdiv (xe_ix (f_ix C) (xe_var 0) xe_int) (xe_var 1)) (xg_sub (W := fun _ => E) (f_set C) (xe_var 0) xe_int))
    (xss_one (xs_ret (xe_var 2))))))
/-! _law_is -/
noncomputable def _law_is_b : SF :=
  (retC (binC (eqD false) (callC reprD (consA (varC 0) nilA)) (callC reprD (consA (varC 1) nilA))))
noncomputable def _law_is_c : FF := bodyC 2 _law_is_b
abbrev N__law_is : List Str := ["value", "due"]
theorem sc__law_is : FnScope N__law_is ["value", "due"] (defScope st__law_is) := ⟨rfl, rfl, rfl, by decide +kernel, rfl, by decide +kernel, by decide +kernel⟩
theorem bd__law_is (T : Fx P w K mg base) : Binds K T.d__law_is ["value", "due"] [] := T.F__law_is.bindsN fun _ _ _ _ _ _ us hl => match us, hl with | [_, _], _ => rfl
theorem ok__law_is (T : Fx P w K mg base) : FnG P w K mg base 1 (He.ga K "_law_is") T.d__law_is ["value", "due"] (spF K mg 2 _law_is_c) :=
  defOkT (N := N__law_is) (k := 0) T.F__law_is sc__law_is fun cdv A out s H E C Dt =>
    (xss_one (xs_ret (xe_cmp (f_eq C) (xe_callB (f_repr C) T.b_repr (xa_cons (xe_var 0) xa_nil)) (xe_callB (f_repr C) T.b_repr (xa_cons (xe_var 1) xa_nil)) (nomark _))))
theorem okS__law_is (T : Fx P w K mg base) : FnS P w K mg base (He.ga K "_law_is") T.d__law_is ["value", "due"] (spF K mg 2 _law_is_c) :=
  defOkS (N := N__law_is) T.F__law_is sc__law_is fun cdv A out s H R =>
    (xss_one (xs_ret (xe_cmp (f_eqS (R)) (xe_callB (f_reprS (R)) T.b_repr (xa_cons (xe_var 0) xa_nil)) (xe_callB (f_reprS (R)) T.b_repr (xa_cons (xe_var 1) xa_nil)) (nomark _))))
/-! _law_first -/
noncomputable def _law_first_b : SF :=
  (retC (lstC (consA (newC "BadNumber" (varC 0)) (consA (newC "BadRow" (varC 0)) (consA (newC "BadLevel" (varC 0)) (consA (newC "BadWeight" (varC 0)) (consA (newC "BadMaking" (varC 0)) (consA (newC "Unlike" (varC 0)) (consA (newC "TooMany" (varC 0)) (consA (newC "BadQuadratic" (varC 0)) (consA (newC "BadDiscriminant" (varC 0)) nilA)))))))))))
noncomputable def _law_first_c : FF := bodyC 1 _law_first_b
abbrev N__law_first : List Str := ["place"]
theorem sc__law_first : FnScope N__law_first ["place"] (defScope st__law_first) := ⟨rfl, rfl, rfl, by decide +kernel, rfl, by decide +kernel, by decide +kernel⟩
theorem bd__law_first (T : Fx P w K mg base) : Binds K T.d__law_first ["place"] [] := T.F__law_first.bindsN fun _ _ _ _ _ _ us hl => match us, hl with | [_], _ => rfl
theorem ok__law_first (T : Fx P w K mg base) : FnG P w K mg base 4 (He.ga K "_law_first") T.d__law_first ["place"] (spF K mg 1 _law_first_c) :=
  defOkT (N := N__law_first) (k := 3) T.F__law_first sc__law_first fun cdv A out s H E C Dt =>
    (xss_one (xs_ret (xe_lst (xa_cons (xe_new T.e_BadNumber T.a_BadNumber Dt (xe_var 0) (hk := by first | decide | omega)) (xa_cons (xe_new T.e_BadRow T.a_BadRow Dt (xe_var 0) (hk := by first | decide | omega)) (xa_cons (xe_new T.e_BadLevel T.a_BadLevel Dt (xe_var 0) (hk := by first | decide | omega)) (xa_cons (xe_new T.e_BadWeight T.a_BadWeight Dt (xe_var 0) (hk := by first | decide | omega)) (xa_cons (xe_new T.e_BadMaking T.a_BadMaking Dt (xe_var 0) (hk := by first | decide | omega)) (xa_cons (xe_new T.e_Unlike T.a_Unlike Dt (xe_var 0) (hk := by first | decide | omega)) (xa_cons (xe_new T.e_TooMany T.a_TooMany Dt (xe_var 0) (hk := by first | decide | omega)) (xa_cons (xe_new T.e_BadQuadratic T.a_BadQuadratic Dt (xe_var 0) (hk := by first | decide | omega)) (xa_cons (xe_new T.e_BadDiscriminant T.a_BadDiscriminant Dt (xe_var 0) (hk := by first | decide | omega)) xa_nil))))))))) (aLen_cons (aLen_cons (aLen_cons (aLen_cons (aLen_cons (aLen_cons (aLen_cons (aLen_cons (aLen_cons aLen_nil))))))))))))
/-! _law_second -/
noncomputable def _law_second_b : SF :=
  (seqC (setC 1 (lstC (consA (newC "BadGram" (varC 0)) (consA (newC "BadPartition" (varC 0)) (consA (newC "BadFamily" (varC 0)) (consA (newC "BadCurve" (varC 0)) (consA (newC "BadPoint" (varC 0)) nilA)))))))
    (retC (binC addD (varC 1) (lstC (consA (newC "BadCode" (varC 0)) (consA (newC "BadPrime" (varC 0)) (consA (newC "BadQuasi" (varC 0)) (consA (newC "NothingThere" (varC 0)) nilA))))))))
noncomputable def _law_second_c : FF := bodyC 2 _law_second_b
abbrev N__law_second : List Str := ["place", "found"]
theorem sc__law_second : FnScope N__law_second ["place"] (defScope st__law_second) := ⟨rfl, rfl, rfl, by decide +kernel, rfl, by decide +kernel, by decide +kernel⟩
theorem bd__law_second (T : Fx P w K mg base) : Binds K T.d__law_second ["place"] [] := T.F__law_second.bindsN fun _ _ _ _ _ _ us hl => match us, hl with | [_], _ => rfl
theorem ok__law_second (T : Fx P w K mg base) : FnG P w K mg base 4 (He.ga K "_law_second") T.d__law_second ["place"] (spF K mg 1 _law_second_c) :=
  defOkT (N := N__law_second) (k := 3) T.F__law_second sc__law_second fun cdv A out s H E C Dt =>
    (xss_cons (xs_set 1 C.nd (xe_lst (xa_cons (xe_new T.e_BadGram T.a_BadGram Dt (xe_var 0) (hk := by first | decide | omega)) (xa_cons (xe_new T.e_BadPartition T.a_BadPartition Dt (xe_var 0) (hk := by first | decide | omega)) (xa_cons (xe_new T.e_BadFamily T.a_BadFamily Dt (xe_var 0) (hk := by first | decide | omega)) (xa_cons (xe_new T.e_BadCurve T.a_BadCurve Dt (xe_var 0) (hk := by first | decide | omega)) (xa_cons (xe_new T.e_BadPoint T.a_BadPoint Dt (xe_var 0) (hk := by first | decide | omega)) xa_nil))))) (aLen_cons (aLen_cons (aLen_cons (aLen_cons (aLen_cons aLen_nil)))))))
    (xss_one (xs_ret (xe_bin f_add (xe_var 1) (xe_lst (xa_cons (xe_new T.e_BadCode T.a_BadCode Dt (xe_var 0) (hk := by first | decide | omega)) (xa_cons (xe_new T.e_BadPrime T.a_BadPrime Dt (xe_var 0) (hk := by first | decide | omega)) (xa_cons (xe_new T.e_BadQuasi T.a_BadQuasi Dt (xe_var 0) (hk := by first | decide | omega)) (xa_cons (xe_new T.e_NothingThere T.a_NothingThere Dt (xe_var 0) (hk := by first | decide | omega)) xa_nil)))) (aLen_cons (aLen_cons (aLen_cons (aLen_cons aLen_nil)))))))))
/-! _law_bare -/
noncomputable def _law_bare_b : SF :=
  (seqC (setC 0 (lstC (consA (new0C "BadNumber") (consA (new0C "BadRow") (consA (new0C "BadLevel") (consA (new0C "BadWeight") (consA (new0C "BadMaking") (consA (new0C "Unlike") (consA (new0C "TooMany") (consA (new0C "BadQuadratic") (consA (new0C "BadDiscriminant") nilA)))))))))))
    (retC (binC addD (varC 0) (lstC (consA (new0C "BadGram") (consA (new0C "BadPartition") (consA (new0C "BadFamily") (consA (new0C "BadCurve") (consA (new0C "BadPoint") (consA (new0C "BadCode") (consA (new0C "BadPrime") (consA (new0C "BadQuasi") (consA (new0C "NothingThere") nilA)))))))))))))
noncomputable def _law_bare_c : FF := bodyC 1 _law_bare_b
abbrev N__law_bare : List Str := ["found"]
theorem sc__law_bare : FnScope N__law_bare [] (defScope st__law_bare) := ⟨rfl, rfl, rfl, by decide +kernel, rfl, by decide +kernel, by decide +kernel⟩
theorem bd__law_bare (T : Fx P w K mg base) : Binds K T.d__law_bare [] [] := T.F__law_bare.bindsN fun _ _ _ _ _ _ us hl => match us, hl with | [], _ => rfl
theorem ok__law_bare (T : Fx P w K mg base) : FnG P w K mg base 4 (He.ga K "_law_bare") T.d__law_bare [] (spF K mg 0 _law_bare_c) :=
  defOkT (N := N__law_bare) (k := 3) T.F__law_bare sc__law_bare fun cdv A out s H E C Dt =>
    (xss_cons (xs_set 0 C.nd (xe_lst (xa_cons (xe_new0 T.e_BadNumber T.a_BadNumber Dt (hk := by first | decide | omega)) (xa_cons (xe_new0 T.e_BadRow T.a_BadRow Dt (hk := by first | decide | omega)) (xa_cons (xe_new0 T.e_BadLevel T.a_BadLevel Dt (hk := by first | decide | omega)) (xa_cons (xe_new0 T.e_BadWeight T.a_BadWeight Dt (hk := by first | decide | omega)) (xa_cons (xe_new0 T.e_BadMaking T.a_BadMaking Dt (hk := by first | decide | omega)) (xa_cons (xe_new0 T.e_Unlike T.a_Unlike Dt (hk := by first | decide | omega)) (xa_cons (xe_new0 T.e_TooMany T.a_TooMany Dt (hk := by first | decide | omega)) (xa_cons (xe_new0 T.e_BadQuadratic T.a_BadQuadratic Dt (hk := by first | decide | omega)) (xa_cons (xe_new0 T.e_BadDiscriminant T.a_BadDiscriminant Dt (hk := by first | decide | omega)) xa_nil))))))))) (aLen_cons (aLen_cons (aLen_cons (aLen_cons (aLen_cons (aLen_cons (aLen_cons (aLen_cons (aLen_cons aLen_nil)))))))))))
    (xss_one (xs_ret (xe_bin f_add (xe_var 0) (xe_lst (xa_cons (xe_new0 T.e_BadGram T.a_BadGram Dt (hk := by first | decide | omega)) (xa_cons (xe_new0 T.e_BadPartition T.a_BadPartition Dt (hk := by first | decide | omega)) (xa_cons (xe_new0 T.e_BadFamily T.a_BadFamily Dt (hk := by first | decide | omega)) (xa_cons (xe_new0 T.e_BadCurve T.a_BadCurve Dt (hk := by first | decide | omega)) (xa_cons (xe_new0 T.e_BadPoint T.a_BadPoint Dt (hk := by first | decide | omega)) (xa_cons (xe_new0 T.e_BadCode T.a_BadCode Dt (hk := by first | decide | omega)) (xa_cons (xe_new0 T.e_BadPrime T.a_BadPrime Dt (hk := by first | decide | omega)) (xa_cons (xe_new0 T.e_BadQuasi T.a_BadQuasi Dt (hk := by first | decide | omega)) (xa_cons (xe_new0 T.e_NothingThere T.a_NothingThere Dt (hk := by first | decide | omega)) xa_nil))))))))) (aLen_cons (aLen_cons (aLen_cons (aLen_cons (aLen_cons (aLen_cons (aLen_cons (aLen_cons (aLen_cons aLen_nil))))))))))))))
/-! _law_kinds -/
noncomputable def _law_kinds_b : SF :=
  (seqC (setC 1 (lstC nilA))
    (seqC (setC 1 (binC addD (varC 1) (lstC (consA (isEC (fun c => is_BadNumber.lookup c) (varC 0)) (consA (isEC (fun c => is_BadRow.lookup c) (varC 0)) (consA (isEC (fun c => is_BadLevel.lookup c) (varC 0)) (consA (isEC (fun c => is_BadWeight.lookup c) (varC 0)) nilA)))))))
    (seqC (setC 1 (binC addD (varC 1) (lstC (consA (isEC (fun c => is_BadMaking.lookup c) (varC 0)) (consA (isEC (fun c => is_Unlike.lookup c) (varC 0)) (consA (isEC (fun c => is_TooMany.lookup c) (varC 0)) (consA (isEC (fun c => is_BadQuadratic.lookup c) (varC 0)) nilA)))))))
    (seqC (setC 1 (binC addD (varC 1) (lstC (consA (isEC (fun c => is_BadDiscriminant.lookup c) (varC 0)) (consA (isEC (fun c => is_BadGram.lookup c) (varC 0)) (consA (isEC (fun c => is_BadPartition.lookup c) (varC 0)) (consA (isEC (fun c => is_BadFamily.lookup c) (varC 0)) nilA)))))))
    (seqC (setC 1 (binC addD (varC 1) (lstC (consA (isEC (fun c => is_BadCurve.lookup c) (varC 0)) (consA (isEC (fun c => is_BadPoint.lookup c) (varC 0)) (consA (isEC (fun c => is_BadCode.lookup c) (varC 0)) (consA (isEC (fun c => is_BadPrime.lookup c) (varC 0)) nilA)))))))
    (seqC (setC 1 (binC addD (varC 1) (lstC (consA (isEC (fun c => is_BadQuasi.lookup c) (varC 0)) (consA (isEC (fun c => is_NothingThere.lookup c) (varC 0)) nilA)))))
    (retC (varC 1))))))))
noncomputable def _law_kinds_c : FF := bodyC 2 _law_kinds_b
abbrev N__law_kinds : List Str := ["e", "found"]
theorem sc__law_kinds : FnScope N__law_kinds ["e"] (defScope st__law_kinds) := ⟨rfl, rfl, rfl, by decide +kernel, rfl, by decide +kernel, by decide +kernel⟩
theorem bd__law_kinds (T : Fx P w K mg base) : Binds K T.d__law_kinds ["e"] [] := T.F__law_kinds.bindsN fun _ _ _ _ _ _ us hl => match us, hl with | [_], _ => rfl
theorem ok__law_kinds (T : Fx P w K mg base) : FnG P w K mg base 1 (He.ga K "_law_kinds") T.d__law_kinds ["e"] (spF K mg 1 _law_kinds_c) :=
  defOkT (N := N__law_kinds) (k := 0) T.F__law_kinds sc__law_kinds fun cdv A out s H E C Dt =>
    (xss_cons (xs_set 1 C.nd (xe_lst xa_nil aLen_nil))
    (xss_cons (xs_set 1 C.nd (xe_bin f_add (xe_var 1) (xe_lst (xa_cons (xe_isE (xe_var 0) T.b_isinstance (by exact (pe_glob (v := .ref (He.ga K "BadNumber")) rfl T.a_BadNumber rfl (by decide))) (by exact fun u h => h) (isT_BadNumber T)) (xa_cons (xe_isE (xe_var 0) T.b_isinstance (by exact (pe_glob (v := .ref (He.ga K "BadRow")) rfl T.a_BadRow rfl (by decide))) (by exact fun u h => h) (isT_BadRow T)) (xa_cons (xe_isE (xe_var 0) T.b_isinstance (by exact (pe_glob (v := .ref (He.ga K "BadLevel")) rfl T.a_BadLevel rfl (by decide))) (by exact fun u h => h) (isT_BadLevel T)) (xa_cons (xe_isE (xe_var 0) T.b_isinstance (by exact (pe_glob (v := .ref (He.ga K "BadWeight")) rfl T.a_BadWeight rfl (by decide))) (by exact fun u h => h) (isT_BadWeight T)) xa_nil)))) (aLen_cons (aLen_cons (aLen_cons (aLen_cons aLen_nil)))))))
    (xss_cons (xs_set 1 C.nd (xe_bin f_add (xe_var 1) (xe_lst (xa_cons (xe_isE (xe_var 0) T.b_isinstance (by exact (pe_glob (v := .ref (He.ga K "BadMaking")) rfl T.a_BadMaking rfl (by decide))) (by exact fun u h => h) (isT_BadMaking T)) (xa_cons (xe_isE (xe_var 0) T.b_isinstance (by exact (pe_glob (v := .ref (He.ga K "Unlike")) rfl T.a_Unlike rfl (by decide))) (by exact fun u h => h) (isT_Unlike T)) (xa_cons (xe_isE (xe_var 0) T.b_isinstance (by exact (pe_glob (v := .ref (He.ga K "TooMany")) rfl T.a_TooMany rfl (by decide))) (by exact fun u h => h) (isT_TooMany T)) (xa_cons (xe_isE (xe_var 0) T.b_isinstance (by exact (pe_glob (v := .ref (He.ga K "BadQuadratic")) rfl T.a_BadQuadratic rfl (by decide))) (by exact fun u h => h) (isT_BadQuadratic T)) xa_nil)))) (aLen_cons (aLen_cons (aLen_cons (aLen_cons aLen_nil)))))))
    (xss_cons (xs_set 1 C.nd (xe_bin f_add (xe_var 1) (xe_lst (xa_cons (xe_isE (xe_var 0) T.b_isinstance (by exact (pe_glob (v := .ref (He.ga K "BadDiscriminant")) rfl T.a_BadDiscriminant rfl (by decide))) (by exact fun u h => h) (isT_BadDiscriminant T)) (xa_cons (xe_isE (xe_var 0) T.b_isinstance (by exact (pe_glob (v := .ref (He.ga K "BadGram")) rfl T.a_BadGram rfl (by decide))) (by exact fun u h => h) (isT_BadGram T)) (xa_cons (xe_isE (xe_var 0) T.b_isinstance (by exact (pe_glob (v := .ref (He.ga K "BadPartition")) rfl T.a_BadPartition rfl (by decide))) (by exact fun u h => h) (isT_BadPartition T)) (xa_cons (xe_isE (xe_var 0) T.b_isinstance (by exact (pe_glob (v := .ref (He.ga K "BadFamily")) rfl T.a_BadFamily rfl (by decide))) (by exact fun u h => h) (isT_BadFamily T)) xa_nil)))) (aLen_cons (aLen_cons (aLen_cons (aLen_cons aLen_nil)))))))
    (xss_cons (xs_set 1 C.nd (xe_bin f_add (xe_var 1) (xe_lst (xa_cons (xe_isE (xe_var 0) T.b_isinstance (by exact (pe_glob (v := .ref (He.ga K "BadCurve")) rfl T.a_BadCurve rfl (by decide))) (by exact fun u h => h) (isT_BadCurve T)) (xa_cons (xe_isE (xe_var 0) T.b_isinstance (by exact (pe_glob (v := .ref (He.ga K "BadPoint")) rfl T.a_BadPoint rfl (by decide))) (by exact fun u h => h) (isT_BadPoint T)) (xa_cons (xe_isE (xe_var 0) T.b_isinstance (by exact (pe_glob (v := .ref (He.ga K "BadCode")) rfl T.a_BadCode rfl (by decide))) (by exact fun u h => h) (isT_BadCode T)) (xa_cons (xe_isE (xe_var 0) T.b_isinstance (by exact (pe_glob (v := .ref (He.ga K "BadPrime")) rfl T.a_BadPrime rfl (by decide))) (by exact fun u h => h) (isT_BadPrime T)) xa_nil)))) (aLen_cons (aLen_cons (aLen_cons (aLen_cons aLen_nil)))))))
    (xss_cons (xs_set 1 C.nd (xe_bin f_add (xe_var 1) (xe_lst (xa_cons (xe_isE (xe_var 0) T.b_isinstance (by exact (pe_glob (v := .ref (He.ga K "BadQuasi")) rfl T.a_BadQuasi rfl (by decide))) (by exact fun u h => h) (isT_BadQuasi T)) (xa_cons (xe_isE (xe_var 0) T.b_isinstance (by exact (pe_glob (v := .ref (He.ga K "NothingThere")) rfl T.a_NothingThere rfl (by decide))) (by exact fun u h => h) (isT_NothingThere T)) xa_nil)) (aLen_cons (aLen_cons aLen_nil)))))
    (xss_one (xs_ret (xe_var 1)))))))))
/-! law -/
noncomputable def law_b : SF :=
  (seqC (setC 1 (fnC _law_deck_c [] (consA (varC 0) nilA)))
    (seqC (setC 2 (lstC (consA (cC (.str "BadNumber")) (consA (cC (.str "BadRow")) (consA (cC (.str "BadLevel")) (consA (cC (.str "BadWeight")) (consA (cC (.str "BadMaking")) (consA (cC (.str "Unlike")) (consA (cC (.str "TooMany")) (consA (cC (.str "BadQuadratic")) (consA (cC (.str "BadDiscriminant")) nilA)))))))))))
    (seqC (setC 2 (binC addD (varC 2) (lstC (consA (cC (.str "BadGram")) (consA (cC (.str "BadPartition")) (consA (cC (.str "BadFamily")) (consA (cC (.str "BadCurve")) (consA (cC (.str "BadPoint")) (consA (cC (.str "BadCode")) (consA (cC (.str "BadPrime")) (consA (cC (.str "BadQuasi")) (consA (cC (.str "NothingThere")) nilA))))))))))))
    (seqC (setC 3 (binC ixD (lstC (consA (cC .non) (consA (binC subD (fnC _law_draw_c [] (consA (varC 1) (consA (cC (.int 100)) nilA))) (cC (.int 50))) (consA (cC (.str "weight")) (consA (tupC (consA (cC (.int 0)) (consA (cC (.int 1)) nilA))) (consA (cC (.int 0)) nilA)))))) (fnC _law_draw_c [] (consA (varC 1) (consA (cC (.int 5)) nilA)))))
    (seqC (setC 4 (binC addD (fnC _law_first_c [] (consA (varC 3) nilA)) (fnC _law_second_c [] (consA (varC 3) nilA))))
    (seqC (setC 5 (fnC _law_bare_c [] nilA))
    (seqC (forC (srcC rangeD (consA (callC lenD (consA (varC 2) nilA)) nilA)) (gN 6) (seqC (forC (iterC (lstC (consA (binC ixD (varC 4) (varC 6)) (consA (binC ixD (varC 5) (varC 6)) nilA)))) (gN 9) (seqC (ifS (orT (notT (truthT (isEC (fun c => is_TermError.lookup c) (varC 9)))) (notT (truthT (isEC (fun c => is_ValueError.lookup c) (varC 9))))) (retC (cC (.bl false))) passC)
    (ifS (orT (notT (truthT (fnC _law_is_c [] (consA (fnC _law_kinds_c [] (consA (varC 9) nilA)) (consA (lcC (srcC rangeD (consA (callC lenD (consA (varC 2) nilA)) nilA)) (gN 10) yesT (binC (eqD false) (varC 10) (varC 6)) [10]) nilA))))) (notT (truthT (fnC _law_is_c [] (consA (fldC knE "word" (varC 9)) (consA (binC ixD (varC 2) (varC 6)) nilA)))))) (retC (cC (.bl false))) passC)))
    (ifS (notT (truthT (fnC _law_is_c [] (consA (lstC (consA (fldC knE "place" (binC ixD (varC 4) (varC 6))) (consA (fldC knE "place" (binC ixD (varC 5) (varC 6))) nilA))) (consA (lstC (consA (varC 3) (consA (cC .non) nilA))) nilA))))) (retC (cC (.bl false))) passC)))
    (seqC (setC 7 (newT2 "Other" (varC 3)))
    (seqC (ifS (orT (notT (truthT (fnC _law_is_c [] (consA (lstC (consA (fldC knE "word" (varC 7)) (consA (fldC knE "place" (varC 7)) (consA (fldC knE "place" (newT1 "x")) nilA)))) (consA (lstC (consA (cC (.str "Other")) (consA (varC 3) (consA (cC .non) nilA)))) nilA))))) (truthT (callC anyD (consA (fnC _law_kinds_c [] (consA (varC 7) nilA)) nilA)))) (retC (cC (.bl false))) passC)
    (tryC (raiseC "BadRow" (varC 3)) [(⟨fun k => hd_TermError.lookup k, 8, (retC (fnC _law_is_c [] (consA (lstC (consA (fldC knE "place" (varC 8)) (consA (fldC knE "word" (varC 8)) nilA))) (consA (lstC (consA (varC 3) (consA (cC (.str "BadRow")) nilA))) nilA))))⟩ : Hd)]))))))))))
noncomputable def law_c : FF := bodyC 11 law_b
abbrev N_law : List Str := ["script", "deck", "names", "place", "errors", "bare", "k", "base", "caught", "error", "j"]
theorem sc_law : FnScope N_law ["script"] (defScope st_law) := ⟨rfl, rfl, rfl, by decide +kernel, rfl, by decide +kernel, by decide +kernel⟩
theorem bd_law (T : Fx P w K mg base) : Binds K T.d_law ["script"] [] := T.F_law.bindsN fun _ _ _ _ _ _ us hl => match us, hl with | [_], _ => rfl
theorem ok_law (T : Fx P w K mg base) : FnG P w K mg base 5 (He.ga K "law") T.d_law ["script"] (spF K mg 1 law_c) :=
  defOkT (N := N_law) (k := 4) T.F_law sc_law fun cdv A out s H E C Dt =>
    (xss_cons (xs_set 1 C.nd (xe_call C ((ok__law_deck T).mono (by first | decide | omega)) T.m__law_deck T.F__law_deck.kp (bd__law_deck T) .nil (xa_cons (xe_var 0) xa_nil) (aLen_cons aLen_nil)))
    (xss_cons (xs_set 2 C.nd (xe_lst (xa_cons xe_str (xa_cons xe_str (xa_cons xe_str (xa_cons xe_str (xa_cons xe_str (xa_cons xe_str (xa_cons xe_str (xa_cons xe_str (xa_cons xe_str xa_nil))))))))) (aLen_cons (aLen_cons (aLen_cons (aLen_cons (aLen_cons (aLen_cons (aLen_cons (aLen_cons (aLen_cons aLen_nil)))))))))))
    (xss_cons (xs_set 2 C.nd (xe_bin f_add (xe_var 2) (xe_lst (xa_cons xe_str (xa_cons xe_str (xa_cons xe_str (xa_cons xe_str (xa_cons xe_str (xa_cons xe_str (xa_cons xe_str (xa_cons xe_str (xa_cons xe_str xa_nil))))))))) (aLen_cons (aLen_cons (aLen_cons (aLen_cons (aLen_cons (aLen_cons (aLen_cons (aLen_cons (aLen_cons aLen_nil))))))))))))
    (xss_cons (xs_set 3 C.nd (xe_ix (f_ix C) (xe_lst (xa_cons xe_non (xa_cons (xe_bin f_sub (xe_call C ((ok__law_draw T).mono (by first | decide | omega)) T.m__law_draw T.F__law_draw.kp (bd__law_draw T) .nil (xa_cons (xe_var 1) (xa_cons xe_int xa_nil)) (aLen_cons (aLen_cons aLen_nil))) xe_int) (xa_cons xe_str (xa_cons (xe_tup (xa_cons xe_int (xa_cons xe_int xa_nil)) (aLen_cons (aLen_cons aLen_nil))) (xa_cons xe_int xa_nil))))) (aLen_cons (aLen_cons (aLen_cons (aLen_cons (aLen_cons aLen_nil)))))) (xe_call C ((ok__law_draw T).mono (by first | decide | omega)) T.m__law_draw T.F__law_draw.kp (bd__law_draw T) .nil (xa_cons (xe_var 1) (xa_cons xe_int xa_nil)) (aLen_cons (aLen_cons aLen_nil)))))
    (xss_cons (xs_set 4 C.nd (xe_bin f_add (xe_call C ((ok__law_first T).mono (by first | decide | omega)) T.m__law_first T.F__law_first.kp (bd__law_first T) .nil (xa_cons (xe_var 3) xa_nil) (aLen_cons aLen_nil)) (xe_call C ((ok__law_second T).mono (by first | decide | omega)) T.m__law_second T.F__law_second.kp (bd__law_second T) .nil (xa_cons (xe_var 3) xa_nil) (aLen_cons aLen_nil))))
    (xss_cons (xs_set 5 C.nd (xe_call0 C ((ok__law_bare T).mono (by first | decide | omega)) T.m__law_bare T.F__law_bare.kp (bd__law_bare T) .nil))
    (xss_cons (xs_for C.hp C.calm (xi_range1 T.b_range (xa_cons (xe_callB f_len T.b_len (xa_cons (xe_var 2) xa_nil)) xa_nil) (aLen_cons aLen_nil)) (xg_name 6 C.nd) (xss_cons (xs_for C.hp C.calm (xi_val (xe_lst (xa_cons (xe_ix (f_ix C) (xe_var 4) (xe_var 6)) (xa_cons (xe_ix (f_ix C) (xe_var 5) (xe_var 6)) xa_nil)) (aLen_cons (aLen_cons aLen_nil)))) (xg_name 9 C.nd) (xss_cons (xs_if ((xw_or (xt_not (xt_truth (xe_isE (xe_var 9) T.b_isinstance (by exact (pe_glob (v := .ref (He.ga K "TermError")) rfl T.a_TermError rfl (by decide))) (by exact fun u h => h) (isT_TermError T)))) (xw_or1 (xt_not (xt_truth (xe_isE (xe_var 9) T.b_isinstance (by exact (pe_bltn (v := .ty "ValueError") rfl T.b_ValueError (by decide +kernel) rfl (by decide) (by decide))) (by exact fun u h => h) (isT_ValueError T))))))).pt (xss_one (xs_ret xe_bl)) xss_nil)
    (xss_one (xs_if ((xw_or (xt_not (xt_truth (xe_call C ((ok__law_is T).mono (by first | decide | omega)) T.m__law_is T.F__law_is.kp (bd__law_is T) .nil (xa_cons (xe_call C ((ok__law_kinds T).mono (by first | decide | omega)) T.m__law_kinds T.F__law_kinds.kp (bd__law_kinds T) .nil (xa_cons (xe_var 9) xa_nil) (aLen_cons aLen_nil)) (xa_cons (xe_lc C (own := [("j", 10)]) (xi_range1 T.b_range (xa_cons (xe_callB f_len T.b_len (xa_cons (xe_var 2) xa_nil)) xa_nil) (aLen_cons aLen_nil)) (by show blkC N_law (defScope st_law) _ _ = true; decide +kernel) (fun _ _ _ _ _ => (xgw_name 10 C.nd)) (fun _ _ _ _ _ C' => xts_nil) (fun _ _ _ _ _ C' => (xe_cmp (f_eq C') (xe_var 10) (xe_var 6) (nomark _)))) xa_nil)) (aLen_cons (aLen_cons aLen_nil))))) (xw_or1 (xt_not (xt_truth (xe_call C ((ok__law_is T).mono (by first | decide | omega)) T.m__law_is T.F__law_is.kp (bd__law_is T) .nil (xa_cons (xe_fld (xe_var 9) (kn_word T)) (xa_cons (xe_ix (f_ix C) (xe_var 2) (xe_var 6)) xa_nil)) (aLen_cons (aLen_cons aLen_nil)))))))).pt (xss_one (xs_ret xe_bl)) xss_nil))))
    (xss_one (xs_if (xt_not (xt_truth (xe_call C ((ok__law_is T).mono (by first | decide | omega)) T.m__law_is T.F__law_is.kp (bd__law_is T) .nil (xa_cons (xe_lst (xa_cons (xe_fld (xe_ix (f_ix C) (xe_var 4) (xe_var 6)) (kn_place T)) (xa_cons (xe_fld (xe_ix (f_ix C) (xe_var 5) (xe_var 6)) (kn_place T)) xa_nil)) (aLen_cons (aLen_cons aLen_nil))) (xa_cons (xe_lst (xa_cons (xe_var 3) (xa_cons xe_non xa_nil)) (aLen_cons (aLen_cons aLen_nil))) xa_nil)) (aLen_cons (aLen_cons aLen_nil))))) (xss_one (xs_ret xe_bl)) xss_nil))))
    (xss_cons (xs_set 7 C.nd (xe_newT2 T.e_TermError T.a_TermError Dt (xe_var 3) (hk := by first | decide | omega)))
    (xss_cons (xs_if ((xw_or (xt_not (xt_truth (xe_call C ((ok__law_is T).mono (by first | decide | omega)) T.m__law_is T.F__law_is.kp (bd__law_is T) .nil (xa_cons (xe_lst (xa_cons (xe_fld (xe_var 7) (kn_word T)) (xa_cons (xe_fld (xe_var 7) (kn_place T)) (xa_cons (xe_fld (xe_newT1 T.e_TermError T.a_TermError Dt (hk := by first | decide | omega)) (kn_place T)) xa_nil))) (aLen_cons (aLen_cons (aLen_cons aLen_nil)))) (xa_cons (xe_lst (xa_cons xe_str (xa_cons (xe_var 3) (xa_cons xe_non xa_nil))) (aLen_cons (aLen_cons (aLen_cons aLen_nil)))) xa_nil)) (aLen_cons (aLen_cons aLen_nil))))) (xw_or1 (xt_truth (xe_callB (f_any C) T.b_any (xa_cons (xe_call C ((ok__law_kinds T).mono (by first | decide | omega)) T.m__law_kinds T.F__law_kinds.kp (bd__law_kinds T) .nil (xa_cons (xe_var 7) xa_nil) (aLen_cons aLen_nil)) xa_nil)))))).pt (xss_one (xs_ret xe_bl)) xss_nil)
    (xss_one (xs_tryT (l := [(.ref (He.ga K "TermError"), (⟨fun k => hd_TermError.lookup k, 8, (retC (fnC _law_is_c [] (consA (lstC (consA (fldC knE "place" (varC 8)) (consA (fldC knE "word" (varC 8)) nilA))) (consA (lstC (consA (varC 3) (consA (cC (.str "BadRow")) nilA))) nilA))))⟩ : Hd))]) Dt (fun W' pn xe C1 Dt1 => (xss_one (xs_raise T.e_BadRow C1 Dt1.tk (xe_var 3) (hk := by first | decide | omega)))) (HdsX.cons (x := "TermError") (n := "caught") (c := .ref (He.ga K "TermError")) (h := (⟨fun k => hd_TermError.lookup k, 8, (retC (fnC _law_is_c [] (consA (lstC (consA (fldC knE "place" (varC 8)) (consA (fldC knE "word" (varC 8)) nilA))) (consA (lstC (consA (varC 3) (consA (cC (.str "BadRow")) nilA))) nilA))))⟩ : Hd)) ⟨⟨rfl, by decide, .inl T.a_TermError⟩, rfl, rfl, List.cons_ne_nil _ _, hc_TermError T, fun a pn => (xss_one (xs_ret (xe_callS C (by first | decide | omega) (okS__law_is T) T.m__law_is T.F__law_is.kp (bd__law_is T) (xa_cons (xe_lst (xa_cons (xe_fld (xe_var 8) (kn_place T)) (xa_cons (xe_fld (xe_var 8) (kn_word T)) xa_nil)) (aLen_cons (aLen_cons aLen_nil))) (xa_cons (xe_lst (xa_cons (xe_var 3) (xa_cons xe_str xa_nil)) (aLen_cons (aLen_cons aLen_nil))) xa_nil)) (aLen_cons (aLen_cons aLen_nil)))))⟩ HdsX.nil))))))))))))
end
/-! the head -/
def dd__law_deck : He.DefD := ⟨("_law_deck", none), "_law_deck", "_law_deck", defArgs st__law_deck, defBody st__law_deck, defScope st__law_deck, [], []⟩
def dd__law_draw : He.DefD := ⟨("_law_draw", none), "_law_draw", "_law_draw", defArgs st__law_draw, defBody st__law_draw, defScope st__law_draw, [], []⟩
def dd__law_is : He.DefD := ⟨("_law_is", none), "_law_is", "_law_is", defArgs st__law_is, defBody st__law_is, defScope st__law_is, [], []⟩
def dd__law_first : He.DefD := ⟨("_law_first", none), "_law_first", "_law_first", defArgs st__law_first, defBody st__law_first, defScope st__law_first, [], []⟩
def dd__law_second : He.DefD := ⟨("_law_second", none), "_law_second", "_law_second", defArgs st__law_second, defBody st__law_second, defScope st__law_second, [], []⟩
def dd__law_bare : He.DefD := ⟨("_law_bare", none), "_law_bare", "_law_bare", defArgs st__law_bare, defBody st__law_bare, defScope st__law_bare, [], []⟩
def dd__law_kinds : He.DefD := ⟨("_law_kinds", none), "_law_kinds", "_law_kinds", defArgs st__law_kinds, defBody st__law_kinds, defScope st__law_kinds, [], []⟩
def dd_law : He.DefD := ⟨("law", none), "law", "law", defArgs st_law, defBody st_law, defScope st_law, [], []⟩
def fnL : List He.DefD := [dd__law_deck, dd__law_draw, dd__law_is, dd__law_first, dd__law_second, dd__law_bare, dd__law_kinds, dd_law]
def faL : List He.Fa := [.glo "_law_deck", .glo "_law_draw", .glo "_law_is", .glo "_law_first", .glo "_law_second", .glo "_law_bare", .glo "_law_kinds", .glo "law", .free "ValueError", .free "abs", .free "any", .free "int", .free "isinstance", .free "len", .free "list", .free "range", .free "repr", .free "super"]
abbrev looseL : List Str := [("TermError" : Str), ("BadNumber" : Str), ("BadRow" : Str), ("BadLevel" : Str), ("BadWeight" : Str), ("BadMaking" : Str), ("Unlike" : Str), ("TooMany" : Str), ("BadQuadratic" : Str), ("BadDiscriminant" : Str), ("BadGram" : Str), ("BadPartition" : Str), ("BadFamily" : Str), ("BadCurve" : Str), ("BadPoint" : Str), ("BadCode" : Str), ("BadPrime" : Str), ("BadQuasi" : Str), ("NothingThere" : Str), ("_law_deck" : Str), ("_law_draw" : Str), ("_law_is" : Str), ("_law_first" : Str), ("_law_second" : Str), ("_law_bare" : Str), ("_law_kinds" : Str)]
abbrev Pg : Program := PySem.W.OpenLaw.prog PySem.Challenge.rw_everyterm_k00_errors_apart
def erL : List ErD := [er_TermError, er_BadNumber, er_BadRow, er_BadLevel, er_BadWeight, er_BadMaking, er_Unlike, er_TooMany, er_BadQuadratic, er_BadDiscriminant, er_BadGram, er_BadPartition, er_BadFamily, er_BadCurve, er_BadPoint, er_BadCode, er_BadPrime, er_BadQuasi, er_NothingThere]
def ckL : List (PySem.W.Frag → Bool) := [fun K => decide (PySem.W.nsIn K cStatics "thirdparty.any" = some none), fun K => supB K (He.ma K (He.ga K "TermError") "__init__") er_BadNumber, fun K => supB K (He.ma K (He.ga K "TermError") "__init__") er_BadRow, fun K => supB K (He.ma K (He.ga K "TermError") "__init__") er_BadLevel, fun K => supB K (He.ma K (He.ga K "TermError") "__init__") er_BadWeight, fun K => supB K (He.ma K (He.ga K "TermError") "__init__") er_BadMaking, fun K => supB K (He.ma K (He.ga K "TermError") "__init__") er_Unlike, fun K => supB K (He.ma K (He.ga K "TermError") "__init__") er_TooMany, fun K => supB K (He.ma K (He.ga K "TermError") "__init__") er_BadQuadratic, fun K => supB K (He.ma K (He.ga K "TermError") "__init__") er_BadDiscriminant, fun K => supB K (He.ma K (He.ga K "TermError") "__init__") er_BadGram, fun K => supB K (He.ma K (He.ga K "TermError") "__init__") er_BadPartition, fun K => supB K (He.ma K (He.ga K "TermError") "__init__") er_BadFamily, fun K => supB K (He.ma K (He.ga K "TermError") "__init__") er_BadCurve, fun K => supB K (He.ma K (He.ga K "TermError") "__init__") er_BadPoint, fun K => supB K (He.ma K (He.ga K "TermError") "__init__") er_BadCode, fun K => supB K (He.ma K (He.ga K "TermError") "__init__") er_BadPrime, fun K => supB K (He.ma K (He.ga K "TermError") "__init__") er_BadQuasi, fun K => supB K (He.ma K (He.ga K "TermError") "__init__") er_NothingThere, fun K => askB K (He.ga K "BadNumber"), fun K => askB K (He.ga K "BadRow"), fun K => askB K (He.ga K "BadLevel"), fun K => askB K (He.ga K "BadWeight"), fun K => askB K (He.ga K "BadMaking"), fun K => askB K (He.ga K "Unlike"), fun K => askB K (He.ga K "TooMany"), fun K => askB K (He.ga K "BadQuadratic"), fun K => askB K (He.ga K "BadDiscriminant"), fun K => askB K (He.ga K "BadGram"), fun K => askB K (He.ga K "BadPartition"), fun K => askB K (He.ga K "BadFamily"), fun K => askB K (He.ga K "BadCurve"), fun K => askB K (He.ga K "BadPoint"), fun K => askB K (He.ga K "BadCode"), fun K => askB K (He.ga K "BadPrime"), fun K => askB K (He.ga K "BadQuasi"), fun K => askB K (He.ga K "NothingThere"), fun K => askB K (He.ga K "TermError"), fun K => decide (PySem.W.exmOne K (.ref (He.ga K "BadNumber")) (.ref (He.ga K "TermError")) = some true), fun K => decide (PySem.W.exmOne K (.ref (He.ga K "BadRow")) (.ref (He.ga K "TermError")) = some true), fun K => decide (PySem.W.exmOne K (.ref (He.ga K "BadLevel")) (.ref (He.ga K "TermError")) = some true), fun K => decide (PySem.W.exmOne K (.ref (He.ga K "BadWeight")) (.ref (He.ga K "TermError")) = some true), fun K => decide (PySem.W.exmOne K (.ref (He.ga K "BadMaking")) (.ref (He.ga K "TermError")) = some true), fun K => decide (PySem.W.exmOne K (.ref (He.ga K "Unlike")) (.ref (He.ga K "TermError")) = some true), fun K => decide (PySem.W.exmOne K (.ref (He.ga K "TooMany")) (.ref (He.ga K "TermError")) = some true), fun K => decide (PySem.W.exmOne K (.ref (He.ga K "BadQuadratic")) (.ref (He.ga K "TermError")) = some true), fun K => decide (PySem.W.exmOne K (.ref (He.ga K "BadDiscriminant")) (.ref (He.ga K "TermError")) = some true), fun K => decide (PySem.W.exmOne K (.ref (He.ga K "BadGram")) (.ref (He.ga K "TermError")) = some true), fun K => decide (PySem.W.exmOne K (.ref (He.ga K "BadPartition")) (.ref (He.ga K "TermError")) = some true), fun K => decide (PySem.W.exmOne K (.ref (He.ga K "BadFamily")) (.ref (He.ga K "TermError")) = some true), fun K => decide (PySem.W.exmOne K (.ref (He.ga K "BadCurve")) (.ref (He.ga K "TermError")) = some true), fun K => decide (PySem.W.exmOne K (.ref (He.ga K "BadPoint")) (.ref (He.ga K "TermError")) = some true), fun K => decide (PySem.W.exmOne K (.ref (He.ga K "BadCode")) (.ref (He.ga K "TermError")) = some true), fun K => decide (PySem.W.exmOne K (.ref (He.ga K "BadPrime")) (.ref (He.ga K "TermError")) = some true), fun K => decide (PySem.W.exmOne K (.ref (He.ga K "BadQuasi")) (.ref (He.ga K "TermError")) = some true), fun K => decide (PySem.W.exmOne K (.ref (He.ga K "NothingThere")) (.ref (He.ga K "TermError")) = some true), fun K => (is_BadCode.all fun p => decide (PySem.W.kitOne K (.ref (He.ga K p.1)) (.ref (He.ga K "BadCode")) = some p.2)), fun K => (is_BadCurve.all fun p => decide (PySem.W.kitOne K (.ref (He.ga K p.1)) (.ref (He.ga K "BadCurve")) = some p.2)), fun K => (is_BadDiscriminant.all fun p => decide (PySem.W.kitOne K (.ref (He.ga K p.1)) (.ref (He.ga K "BadDiscriminant")) = some p.2)), fun K => (is_BadFamily.all fun p => decide (PySem.W.kitOne K (.ref (He.ga K p.1)) (.ref (He.ga K "BadFamily")) = some p.2)), fun K => (is_BadGram.all fun p => decide (PySem.W.kitOne K (.ref (He.ga K p.1)) (.ref (He.ga K "BadGram")) = some p.2)), fun K => (is_BadLevel.all fun p => decide (PySem.W.kitOne K (.ref (He.ga K p.1)) (.ref (He.ga K "BadLevel")) = some p.2)), fun K => (is_BadMaking.all fun p => decide (PySem.W.kitOne K (.ref (He.ga K p.1)) (.ref (He.ga K "BadMaking")) = some p.2)), fun K => (is_BadNumber.all fun p => decide (PySem.W.kitOne K (.ref (He.ga K p.1)) (.ref (He.ga K "BadNumber")) = some p.2)), fun K => (is_BadPartition.all fun p => decide (PySem.W.kitOne K (.ref (He.ga K p.1)) (.ref (He.ga K "BadPartition")) = some p.2)), fun K => (is_BadPoint.all fun p => decide (PySem.W.kitOne K (.ref (He.ga K p.1)) (.ref (He.ga K "BadPoint")) = some p.2)), fun K => (is_BadPrime.all fun p => decide (PySem.W.kitOne K (.ref (He.ga K p.1)) (.ref (He.ga K "BadPrime")) = some p.2)), fun K => (is_BadQuadratic.all fun p => decide (PySem.W.kitOne K (.ref (He.ga K p.1)) (.ref (He.ga K "BadQuadratic")) = some p.2)), fun K => (is_BadQuasi.all fun p => decide (PySem.W.kitOne K (.ref (He.ga K p.1)) (.ref (He.ga K "BadQuasi")) = some p.2)), fun K => (is_BadRow.all fun p => decide (PySem.W.kitOne K (.ref (He.ga K p.1)) (.ref (He.ga K "BadRow")) = some p.2)), fun K => (is_BadWeight.all fun p => decide (PySem.W.kitOne K (.ref (He.ga K p.1)) (.ref (He.ga K "BadWeight")) = some p.2)), fun K => (is_NothingThere.all fun p => decide (PySem.W.kitOne K (.ref (He.ga K p.1)) (.ref (He.ga K "NothingThere")) = some p.2)), fun K => (is_TermError.all fun p => decide (PySem.W.kitOne K (.ref (He.ga K p.1)) (.ref (He.ga K "TermError")) = some p.2)), fun K => (is_TooMany.all fun p => decide (PySem.W.kitOne K (.ref (He.ga K p.1)) (.ref (He.ga K "TooMany")) = some p.2)), fun K => (is_Unlike.all fun p => decide (PySem.W.kitOne K (.ref (He.ga K p.1)) (.ref (He.ga K "Unlike")) = some p.2)), fun K => (is_ValueError.all fun p => decide (PySem.W.kitOne K (.ref (He.ga K p.1)) (.type "ValueError") = some p.2))]
abbrev R : PySem.W.OpenRow := PySem.W.OpenLaw.row PySem.Challenge.rw_everyterm_k00_errors_apart
abbrev hk : PySem.W.Hook := hookX 4 Pg.main.file faL fnL erL ckL
def ob (s : PySem.W.SharedT) : AlX := obsXG 4 Pg.main.file faL fnL erL ckL (HandSHeadRun.getT s)
theorem ob_eq (s : PySem.W.SharedT) : ob s = hk.obs s.abs := obsXG_eq (HandSHeadRun.getT_eq s)
theorem run (w : World) : HandSHeadRun.RunEq R (PySem.W.view R.prog [28]) hk ob 13320 looseL w := by
  intro os
  kernel_rfl
def fxOf {K : PySem.W.Frag} {h : Heap} {mg : Str → Option Value} (X : K.In h) (G : h.Ns mainGlobals mg) (c : SaysX Pg.main.file faL fnL erL ckL K) (w : World) (base : Heap) : Nonempty (Fx Pg w K mg base) := by
  obtain ⟨d0, F0⟩ := c.def_ 0 (d := dd__law_deck) rfl
  obtain ⟨d1, F1⟩ := c.def_ 1 (d := dd__law_draw) rfl
  obtain ⟨d2, F2⟩ := c.def_ 2 (d := dd__law_is) rfl
  obtain ⟨d3, F3⟩ := c.def_ 3 (d := dd__law_first) rfl
  obtain ⟨d4, F4⟩ := c.def_ 4 (d := dd__law_second) rfl
  obtain ⟨d5, F5⟩ := c.def_ 5 (d := dd__law_bare) rfl
  obtain ⟨d6, F6⟩ := c.def_ 6 (d := dd__law_kinds) rfl
  obtain ⟨d7, F7⟩ := c.def_ 7 (d := dd_law) rfl
  have TF : TermF K Pg mg (He.ga K "TermError") (He.ma K (He.ga K "TermError") "__init__") := termF_of (dT := er_TermError) X G okE_TermError (c.err 0 (d := er_TermError) rfl).1 (c.err 0 (d := er_TermError) rfl).2 (He.free_ok X G (c.fact 17 (f := .free "super") rfl)) (He.free_ok X G (c.fact 16 (f := .free "repr") rfl)) (by decide +kernel) (of_decide_eq_true (c.chk 0 (f := fun K => decide (PySem.W.nsIn K cStatics "thirdparty.any" = some none)) rfl))
  exact ⟨{
    d__law_deck := d0,
    F__law_deck := F0,
    m__law_deck := He.glo_ok X G (c.fact 0 (f := .glo "_law_deck") rfl),
    d__law_draw := d1,
    F__law_draw := F1,
    m__law_draw := He.glo_ok X G (c.fact 1 (f := .glo "_law_draw") rfl),
    d__law_is := d2,
    F__law_is := F2,
    m__law_is := He.glo_ok X G (c.fact 2 (f := .glo "_law_is") rfl),
    d__law_first := d3,
    F__law_first := F3,
    m__law_first := He.glo_ok X G (c.fact 3 (f := .glo "_law_first") rfl),
    d__law_second := d4,
    F__law_second := F4,
    m__law_second := He.glo_ok X G (c.fact 4 (f := .glo "_law_second") rfl),
    d__law_bare := d5,
    F__law_bare := F5,
    m__law_bare := He.glo_ok X G (c.fact 5 (f := .glo "_law_bare") rfl),
    d__law_kinds := d6,
    F__law_kinds := F6,
    m__law_kinds := He.glo_ok X G (c.fact 6 (f := .glo "_law_kinds") rfl),
    d_law := d7,
    F_law := F7,
    m_law := He.glo_ok X G (c.fact 7 (f := .glo "law") rfl),
    b_ValueError := (He.free_ok X G (c.fact 8 (f := .free "ValueError") rfl)),
    b_abs := (He.free_ok X G (c.fact 9 (f := .free "abs") rfl)),
    b_any := (He.free_ok X G (c.fact 10 (f := .free "any") rfl)),
    b_int := (He.free_ok X G (c.fact 11 (f := .free "int") rfl)),
    b_isinstance := (He.free_ok X G (c.fact 12 (f := .free "isinstance") rfl)),
    b_len := (He.free_ok X G (c.fact 13 (f := .free "len") rfl)),
    b_list := (He.free_ok X G (c.fact 14 (f := .free "list") rfl)),
    b_range := (He.free_ok X G (c.fact 15 (f := .free "range") rfl)),
    b_repr := (He.free_ok X G (c.fact 16 (f := .free "repr") rfl)),
    b_super := (He.free_ok X G (c.fact 17 (f := .free "super") rfl)),
    a_TermError := PySem.W.mg_of X G (errB_ok (d := er_TermError) (c.err 0 (d := er_TermError) rfl).1).1,
    a_BadNumber := PySem.W.mg_of X G (errB_ok (d := er_BadNumber) (c.err 1 (d := er_BadNumber) rfl).1).1,
    a_BadRow := PySem.W.mg_of X G (errB_ok (d := er_BadRow) (c.err 2 (d := er_BadRow) rfl).1).1,
    a_BadLevel := PySem.W.mg_of X G (errB_ok (d := er_BadLevel) (c.err 3 (d := er_BadLevel) rfl).1).1,
    a_BadWeight := PySem.W.mg_of X G (errB_ok (d := er_BadWeight) (c.err 4 (d := er_BadWeight) rfl).1).1,
    a_BadMaking := PySem.W.mg_of X G (errB_ok (d := er_BadMaking) (c.err 5 (d := er_BadMaking) rfl).1).1,
    a_Unlike := PySem.W.mg_of X G (errB_ok (d := er_Unlike) (c.err 6 (d := er_Unlike) rfl).1).1,
    a_TooMany := PySem.W.mg_of X G (errB_ok (d := er_TooMany) (c.err 7 (d := er_TooMany) rfl).1).1,
    a_BadQuadratic := PySem.W.mg_of X G (errB_ok (d := er_BadQuadratic) (c.err 8 (d := er_BadQuadratic) rfl).1).1,
    a_BadDiscriminant := PySem.W.mg_of X G (errB_ok (d := er_BadDiscriminant) (c.err 9 (d := er_BadDiscriminant) rfl).1).1,
    a_BadGram := PySem.W.mg_of X G (errB_ok (d := er_BadGram) (c.err 10 (d := er_BadGram) rfl).1).1,
    a_BadPartition := PySem.W.mg_of X G (errB_ok (d := er_BadPartition) (c.err 11 (d := er_BadPartition) rfl).1).1,
    a_BadFamily := PySem.W.mg_of X G (errB_ok (d := er_BadFamily) (c.err 12 (d := er_BadFamily) rfl).1).1,
    a_BadCurve := PySem.W.mg_of X G (errB_ok (d := er_BadCurve) (c.err 13 (d := er_BadCurve) rfl).1).1,
    a_BadPoint := PySem.W.mg_of X G (errB_ok (d := er_BadPoint) (c.err 14 (d := er_BadPoint) rfl).1).1,
    a_BadCode := PySem.W.mg_of X G (errB_ok (d := er_BadCode) (c.err 15 (d := er_BadCode) rfl).1).1,
    a_BadPrime := PySem.W.mg_of X G (errB_ok (d := er_BadPrime) (c.err 16 (d := er_BadPrime) rfl).1).1,
    a_BadQuasi := PySem.W.mg_of X G (errB_ok (d := er_BadQuasi) (c.err 17 (d := er_BadQuasi) rfl).1).1,
    a_NothingThere := PySem.W.mg_of X G (errB_ok (d := er_NothingThere) (c.err 18 (d := er_NothingThere) rfl).1).1,
    e_BadNumber := errD_of (d := er_BadNumber) X G TF okE_BadNumber (c.err 1 (d := er_BadNumber) rfl).1 (c.err 1 (d := er_BadNumber) rfl).2 (c.chk 1 (f := fun K => supB K (He.ma K (He.ga K "TermError") "__init__") er_BadNumber) rfl) w base,
    e_BadRow := errD_of (d := er_BadRow) X G TF okE_BadRow (c.err 2 (d := er_BadRow) rfl).1 (c.err 2 (d := er_BadRow) rfl).2 (c.chk 2 (f := fun K => supB K (He.ma K (He.ga K "TermError") "__init__") er_BadRow) rfl) w base,
    e_BadLevel := errD_of (d := er_BadLevel) X G TF okE_BadLevel (c.err 3 (d := er_BadLevel) rfl).1 (c.err 3 (d := er_BadLevel) rfl).2 (c.chk 3 (f := fun K => supB K (He.ma K (He.ga K "TermError") "__init__") er_BadLevel) rfl) w base,
    e_BadWeight := errD_of (d := er_BadWeight) X G TF okE_BadWeight (c.err 4 (d := er_BadWeight) rfl).1 (c.err 4 (d := er_BadWeight) rfl).2 (c.chk 4 (f := fun K => supB K (He.ma K (He.ga K "TermError") "__init__") er_BadWeight) rfl) w base,
    e_BadMaking := errD_of (d := er_BadMaking) X G TF okE_BadMaking (c.err 5 (d := er_BadMaking) rfl).1 (c.err 5 (d := er_BadMaking) rfl).2 (c.chk 5 (f := fun K => supB K (He.ma K (He.ga K "TermError") "__init__") er_BadMaking) rfl) w base,
    e_Unlike := errD_of (d := er_Unlike) X G TF okE_Unlike (c.err 6 (d := er_Unlike) rfl).1 (c.err 6 (d := er_Unlike) rfl).2 (c.chk 6 (f := fun K => supB K (He.ma K (He.ga K "TermError") "__init__") er_Unlike) rfl) w base,
    e_TooMany := errD_of (d := er_TooMany) X G TF okE_TooMany (c.err 7 (d := er_TooMany) rfl).1 (c.err 7 (d := er_TooMany) rfl).2 (c.chk 7 (f := fun K => supB K (He.ma K (He.ga K "TermError") "__init__") er_TooMany) rfl) w base,
    e_BadQuadratic := errD_of (d := er_BadQuadratic) X G TF okE_BadQuadratic (c.err 8 (d := er_BadQuadratic) rfl).1 (c.err 8 (d := er_BadQuadratic) rfl).2 (c.chk 8 (f := fun K => supB K (He.ma K (He.ga K "TermError") "__init__") er_BadQuadratic) rfl) w base,
    e_BadDiscriminant := errD_of (d := er_BadDiscriminant) X G TF okE_BadDiscriminant (c.err 9 (d := er_BadDiscriminant) rfl).1 (c.err 9 (d := er_BadDiscriminant) rfl).2 (c.chk 9 (f := fun K => supB K (He.ma K (He.ga K "TermError") "__init__") er_BadDiscriminant) rfl) w base,
    e_BadGram := errD_of (d := er_BadGram) X G TF okE_BadGram (c.err 10 (d := er_BadGram) rfl).1 (c.err 10 (d := er_BadGram) rfl).2 (c.chk 10 (f := fun K => supB K (He.ma K (He.ga K "TermError") "__init__") er_BadGram) rfl) w base,
    e_BadPartition := errD_of (d := er_BadPartition) X G TF okE_BadPartition (c.err 11 (d := er_BadPartition) rfl).1 (c.err 11 (d := er_BadPartition) rfl).2 (c.chk 11 (f := fun K => supB K (He.ma K (He.ga K "TermError") "__init__") er_BadPartition) rfl) w base,
    e_BadFamily := errD_of (d := er_BadFamily) X G TF okE_BadFamily (c.err 12 (d := er_BadFamily) rfl).1 (c.err 12 (d := er_BadFamily) rfl).2 (c.chk 12 (f := fun K => supB K (He.ma K (He.ga K "TermError") "__init__") er_BadFamily) rfl) w base,
    e_BadCurve := errD_of (d := er_BadCurve) X G TF okE_BadCurve (c.err 13 (d := er_BadCurve) rfl).1 (c.err 13 (d := er_BadCurve) rfl).2 (c.chk 13 (f := fun K => supB K (He.ma K (He.ga K "TermError") "__init__") er_BadCurve) rfl) w base,
    e_BadPoint := errD_of (d := er_BadPoint) X G TF okE_BadPoint (c.err 14 (d := er_BadPoint) rfl).1 (c.err 14 (d := er_BadPoint) rfl).2 (c.chk 14 (f := fun K => supB K (He.ma K (He.ga K "TermError") "__init__") er_BadPoint) rfl) w base,
    e_BadCode := errD_of (d := er_BadCode) X G TF okE_BadCode (c.err 15 (d := er_BadCode) rfl).1 (c.err 15 (d := er_BadCode) rfl).2 (c.chk 15 (f := fun K => supB K (He.ma K (He.ga K "TermError") "__init__") er_BadCode) rfl) w base,
    e_BadPrime := errD_of (d := er_BadPrime) X G TF okE_BadPrime (c.err 16 (d := er_BadPrime) rfl).1 (c.err 16 (d := er_BadPrime) rfl).2 (c.chk 16 (f := fun K => supB K (He.ma K (He.ga K "TermError") "__init__") er_BadPrime) rfl) w base,
    e_BadQuasi := errD_of (d := er_BadQuasi) X G TF okE_BadQuasi (c.err 17 (d := er_BadQuasi) rfl).1 (c.err 17 (d := er_BadQuasi) rfl).2 (c.chk 17 (f := fun K => supB K (He.ma K (He.ga K "TermError") "__init__") er_BadQuasi) rfl) w base,
    e_NothingThere := errD_of (d := er_NothingThere) X G TF okE_NothingThere (c.err 18 (d := er_NothingThere) rfl).1 (c.err 18 (d := er_NothingThere) rfl).2 (c.chk 18 (f := fun K => supB K (He.ma K (He.ga K "TermError") "__init__") er_NothingThere) rfl) w base,
    q_BadNumber := askB_ok (c.chk 19 (f := fun K => askB K (He.ga K "BadNumber")) rfl),
    q_BadRow := askB_ok (c.chk 20 (f := fun K => askB K (He.ga K "BadRow")) rfl),
    q_BadLevel := askB_ok (c.chk 21 (f := fun K => askB K (He.ga K "BadLevel")) rfl),
    q_BadWeight := askB_ok (c.chk 22 (f := fun K => askB K (He.ga K "BadWeight")) rfl),
    q_BadMaking := askB_ok (c.chk 23 (f := fun K => askB K (He.ga K "BadMaking")) rfl),
    q_Unlike := askB_ok (c.chk 24 (f := fun K => askB K (He.ga K "Unlike")) rfl),
    q_TooMany := askB_ok (c.chk 25 (f := fun K => askB K (He.ga K "TooMany")) rfl),
    q_BadQuadratic := askB_ok (c.chk 26 (f := fun K => askB K (He.ga K "BadQuadratic")) rfl),
    q_BadDiscriminant := askB_ok (c.chk 27 (f := fun K => askB K (He.ga K "BadDiscriminant")) rfl),
    q_BadGram := askB_ok (c.chk 28 (f := fun K => askB K (He.ga K "BadGram")) rfl),
    q_BadPartition := askB_ok (c.chk 29 (f := fun K => askB K (He.ga K "BadPartition")) rfl),
    q_BadFamily := askB_ok (c.chk 30 (f := fun K => askB K (He.ga K "BadFamily")) rfl),
    q_BadCurve := askB_ok (c.chk 31 (f := fun K => askB K (He.ga K "BadCurve")) rfl),
    q_BadPoint := askB_ok (c.chk 32 (f := fun K => askB K (He.ga K "BadPoint")) rfl),
    q_BadCode := askB_ok (c.chk 33 (f := fun K => askB K (He.ga K "BadCode")) rfl),
    q_BadPrime := askB_ok (c.chk 34 (f := fun K => askB K (He.ga K "BadPrime")) rfl),
    q_BadQuasi := askB_ok (c.chk 35 (f := fun K => askB K (He.ga K "BadQuasi")) rfl),
    q_NothingThere := askB_ok (c.chk 36 (f := fun K => askB K (He.ga K "NothingThere")) rfl),
    q_TermError := askB_ok (c.chk 37 (f := fun K => askB K (He.ga K "TermError")) rfl),
    h_TermError_BadNumber := of_decide_eq_true (c.chk 38 (f := fun K => decide (PySem.W.exmOne K (.ref (He.ga K "BadNumber")) (.ref (He.ga K "TermError")) = some true)) rfl),
    h_TermError_BadRow := of_decide_eq_true (c.chk 39 (f := fun K => decide (PySem.W.exmOne K (.ref (He.ga K "BadRow")) (.ref (He.ga K "TermError")) = some true)) rfl),
    h_TermError_BadLevel := of_decide_eq_true (c.chk 40 (f := fun K => decide (PySem.W.exmOne K (.ref (He.ga K "BadLevel")) (.ref (He.ga K "TermError")) = some true)) rfl),
    h_TermError_BadWeight := of_decide_eq_true (c.chk 41 (f := fun K => decide (PySem.W.exmOne K (.ref (He.ga K "BadWeight")) (.ref (He.ga K "TermError")) = some true)) rfl),
    h_TermError_BadMaking := of_decide_eq_true (c.chk 42 (f := fun K => decide (PySem.W.exmOne K (.ref (He.ga K "BadMaking")) (.ref (He.ga K "TermError")) = some true)) rfl),
    h_TermError_Unlike := of_decide_eq_true (c.chk 43 (f := fun K => decide (PySem.W.exmOne K (.ref (He.ga K "Unlike")) (.ref (He.ga K "TermError")) = some true)) rfl),
    h_TermError_TooMany := of_decide_eq_true (c.chk 44 (f := fun K => decide (PySem.W.exmOne K (.ref (He.ga K "TooMany")) (.ref (He.ga K "TermError")) = some true)) rfl),
    h_TermError_BadQuadratic := of_decide_eq_true (c.chk 45 (f := fun K => decide (PySem.W.exmOne K (.ref (He.ga K "BadQuadratic")) (.ref (He.ga K "TermError")) = some true)) rfl),
    h_TermError_BadDiscriminant := of_decide_eq_true (c.chk 46 (f := fun K => decide (PySem.W.exmOne K (.ref (He.ga K "BadDiscriminant")) (.ref (He.ga K "TermError")) = some true)) rfl),
    h_TermError_BadGram := of_decide_eq_true (c.chk 47 (f := fun K => decide (PySem.W.exmOne K (.ref (He.ga K "BadGram")) (.ref (He.ga K "TermError")) = some true)) rfl),
    h_TermError_BadPartition := of_decide_eq_true (c.chk 48 (f := fun K => decide (PySem.W.exmOne K (.ref (He.ga K "BadPartition")) (.ref (He.ga K "TermError")) = some true)) rfl),
    h_TermError_BadFamily := of_decide_eq_true (c.chk 49 (f := fun K => decide (PySem.W.exmOne K (.ref (He.ga K "BadFamily")) (.ref (He.ga K "TermError")) = some true)) rfl),
    h_TermError_BadCurve := of_decide_eq_true (c.chk 50 (f := fun K => decide (PySem.W.exmOne K (.ref (He.ga K "BadCurve")) (.ref (He.ga K "TermError")) = some true)) rfl),
    h_TermError_BadPoint := of_decide_eq_true (c.chk 51 (f := fun K => decide (PySem.W.exmOne K (.ref (He.ga K "BadPoint")) (.ref (He.ga K "TermError")) = some true)) rfl),
    h_TermError_BadCode := of_decide_eq_true (c.chk 52 (f := fun K => decide (PySem.W.exmOne K (.ref (He.ga K "BadCode")) (.ref (He.ga K "TermError")) = some true)) rfl),
    h_TermError_BadPrime := of_decide_eq_true (c.chk 53 (f := fun K => decide (PySem.W.exmOne K (.ref (He.ga K "BadPrime")) (.ref (He.ga K "TermError")) = some true)) rfl),
    h_TermError_BadQuasi := of_decide_eq_true (c.chk 54 (f := fun K => decide (PySem.W.exmOne K (.ref (He.ga K "BadQuasi")) (.ref (He.ga K "TermError")) = some true)) rfl),
    h_TermError_NothingThere := of_decide_eq_true (c.chk 55 (f := fun K => decide (PySem.W.exmOne K (.ref (He.ga K "NothingThere")) (.ref (He.ga K "TermError")) = some true)) rfl),
    e_TermError := errT_of (dT := er_TermError) X G okE_TermError rfl (c.err 0 (d := er_TermError) rfl).1 (c.err 0 (d := er_TermError) rfl).2 (He.free_ok X G (c.fact 17 (f := .free "super") rfl)) (He.free_ok X G (c.fact 16 (f := .free "repr") rfl)) (by decide +kernel) (of_decide_eq_true (c.chk 0 (f := fun K => decide (PySem.W.nsIn K cStatics "thirdparty.any" = some none)) rfl)) (fun _ _ _ _ _ _ _ _ us its hl hi => match us, hl, its, hi with | [_, _], _, [_], _ => ⟨_, rfl, rfl⟩) w base,
    i_BadCode := c.chk 56 (f := fun K => (is_BadCode.all fun p => decide (PySem.W.kitOne K (.ref (He.ga K p.1)) (.ref (He.ga K "BadCode")) = some p.2))) rfl,
    i_BadCurve := c.chk 57 (f := fun K => (is_BadCurve.all fun p => decide (PySem.W.kitOne K (.ref (He.ga K p.1)) (.ref (He.ga K "BadCurve")) = some p.2))) rfl,
    i_BadDiscriminant := c.chk 58 (f := fun K => (is_BadDiscriminant.all fun p => decide (PySem.W.kitOne K (.ref (He.ga K p.1)) (.ref (He.ga K "BadDiscriminant")) = some p.2))) rfl,
    i_BadFamily := c.chk 59 (f := fun K => (is_BadFamily.all fun p => decide (PySem.W.kitOne K (.ref (He.ga K p.1)) (.ref (He.ga K "BadFamily")) = some p.2))) rfl,
    i_BadGram := c.chk 60 (f := fun K => (is_BadGram.all fun p => decide (PySem.W.kitOne K (.ref (He.ga K p.1)) (.ref (He.ga K "BadGram")) = some p.2))) rfl,
    i_BadLevel := c.chk 61 (f := fun K => (is_BadLevel.all fun p => decide (PySem.W.kitOne K (.ref (He.ga K p.1)) (.ref (He.ga K "BadLevel")) = some p.2))) rfl,
    i_BadMaking := c.chk 62 (f := fun K => (is_BadMaking.all fun p => decide (PySem.W.kitOne K (.ref (He.ga K p.1)) (.ref (He.ga K "BadMaking")) = some p.2))) rfl,
    i_BadNumber := c.chk 63 (f := fun K => (is_BadNumber.all fun p => decide (PySem.W.kitOne K (.ref (He.ga K p.1)) (.ref (He.ga K "BadNumber")) = some p.2))) rfl,
    i_BadPartition := c.chk 64 (f := fun K => (is_BadPartition.all fun p => decide (PySem.W.kitOne K (.ref (He.ga K p.1)) (.ref (He.ga K "BadPartition")) = some p.2))) rfl,
    i_BadPoint := c.chk 65 (f := fun K => (is_BadPoint.all fun p => decide (PySem.W.kitOne K (.ref (He.ga K p.1)) (.ref (He.ga K "BadPoint")) = some p.2))) rfl,
    i_BadPrime := c.chk 66 (f := fun K => (is_BadPrime.all fun p => decide (PySem.W.kitOne K (.ref (He.ga K p.1)) (.ref (He.ga K "BadPrime")) = some p.2))) rfl,
    i_BadQuadratic := c.chk 67 (f := fun K => (is_BadQuadratic.all fun p => decide (PySem.W.kitOne K (.ref (He.ga K p.1)) (.ref (He.ga K "BadQuadratic")) = some p.2))) rfl,
    i_BadQuasi := c.chk 68 (f := fun K => (is_BadQuasi.all fun p => decide (PySem.W.kitOne K (.ref (He.ga K p.1)) (.ref (He.ga K "BadQuasi")) = some p.2))) rfl,
    i_BadRow := c.chk 69 (f := fun K => (is_BadRow.all fun p => decide (PySem.W.kitOne K (.ref (He.ga K p.1)) (.ref (He.ga K "BadRow")) = some p.2))) rfl,
    i_BadWeight := c.chk 70 (f := fun K => (is_BadWeight.all fun p => decide (PySem.W.kitOne K (.ref (He.ga K p.1)) (.ref (He.ga K "BadWeight")) = some p.2))) rfl,
    i_NothingThere := c.chk 71 (f := fun K => (is_NothingThere.all fun p => decide (PySem.W.kitOne K (.ref (He.ga K p.1)) (.ref (He.ga K "NothingThere")) = some p.2))) rfl,
    i_TermError := c.chk 72 (f := fun K => (is_TermError.all fun p => decide (PySem.W.kitOne K (.ref (He.ga K p.1)) (.ref (He.ga K "TermError")) = some p.2))) rfl,
    i_TooMany := c.chk 73 (f := fun K => (is_TooMany.all fun p => decide (PySem.W.kitOne K (.ref (He.ga K p.1)) (.ref (He.ga K "TooMany")) = some p.2))) rfl,
    i_Unlike := c.chk 74 (f := fun K => (is_Unlike.all fun p => decide (PySem.W.kitOne K (.ref (He.ga K p.1)) (.ref (He.ga K "Unlike")) = some p.2))) rfl,
    i_ValueError := c.chk 75 (f := fun K => (is_ValueError.all fun p => decide (PySem.W.kitOne K (.ref (He.ga K p.1)) (.type "ValueError") = some p.2))) rfl }⟩
theorem ends (told : ∀ ns : List Int, ns.length ≤ 63 → (∀ z ∈ ns, Builtin.Int.intBits z ≤ 1048576) → Told law_c ns) : PySem.Challenge.rw_everyterm_k00_errors_apart.Holds := by
  w_on; o_law
  refine HandSHeadRun.head_any (r := R) (q := PySem.W.view R.prog [28]) (H := hk) (ob := ob) (M := 13320) (loose := looseL) (d := HandSHeadRun.topDef R.prog 28) (kwd := []) ob_eq
    (by kernel_rfl) (fun s => by kernel_rfl) run (by kernel_rfl) (by kernel_rfl) (by kernel_rfl) (by rfl) (by first | assumption | decide +kernel) (by decide +kernel) ⟨rfl, rfl, rfl, rfl, rfl, by decide +kernel⟩ ?hw ?hc
  case hw => w_witness2
  case hc =>
    refine walkG (l := PySem.Challenge.rw_everyterm_k00_errors_apart) (n := 63) (k := 5) (x := "script") (f := law_c) rfl (by decide) (by kernel_rfl) ⟨rfl, by decide, by decide⟩ ?F told
    rintro w mg fa h ⟨K, kin, c⟩ G hfa
    have hm : mg ("law" : Str) = some (.ref fa) := by
      have e : (HandSHeadRun.topDef R.prog 28).name = ("law" : Str) := by kernel_rfl
      rw [← e]
      exact hfa
    have ml : mg ("law" : Str) = some (.ref (He.ga K "law")) := He.glo_ok kin G (c.fact 7 (f := .glo "law") rfl)
    obtain ⟨dl, Fl⟩ := c.def_ 7 (d := dd_law) rfl
    have e := hm.symm.trans ml
    cases e
    have b := L2.FunD.bindsA (ps := ["script"]) Fl fun _ _ _ _ _ _ us hl => match us, hl with | [_], _ => rfl
    refine ⟨K, dl, kin, fun s v => b s [v] rfl, fun base _ _ => ?_⟩
    obtain ⟨T⟩ := fxOf kin G c w base
    have ed : T.d_law = dl := FunD.fd_eq T.F_law Fl
    rw [← ed]
    exact ok_law T
end Yk00

set_option linter.all false
set_option maxRecDepth 100000
namespace NT
/-! Fermat, Euler's criterion -/
theorem pg_without (M : Nat) : ∀ xs : List Nat, xs.Nodup → xs.length ≤ (xs.filter fun x => !(x == M)).length + 1
  | [], _ => by simp
  | x :: xs, nd => by
    obtain ⟨h1, h2⟩ := List.pairwise_cons.mp nd
    by_cases e : x = M
    · have : xs.filter (fun x => !(x == M)) = xs := List.filter_eq_self.mpr fun y hy => by
        have := h1 y hy
        simp
        omega
      rw [List.filter_cons_of_neg (by simp [e]), this, List.length_cons]
      exact Nat.le_refl _
    · rw [List.filter_cons_of_pos (by simp [e]), List.length_cons, List.length_cons]
      have := pg_without M xs h2
      omega
theorem pigeon : ∀ (M : Nat) (xs : List Nat), xs.Nodup → (∀ x ∈ xs, x < M) → xs.length ≤ M
  | 0, [], _, _ => Nat.le_refl _
  | 0, x :: xs, _, h => absurd (h x (List.mem_cons_self ..)) (by omega)
  | M + 1, xs, nd, h => by
    have i := pigeon M (xs.filter fun x => !(x == M)) (nd.filter _) fun x hx => by
      obtain ⟨h1, h2⟩ := List.mem_filter.mp hx
      have := h x h1
      simp at h2
      omega
    have := pg_without M xs nd
    omega
theorem map_nodup {α β : Type} {f : α → β} : ∀ {l : List α}, l.Nodup → (∀ a ∈ l, ∀ b ∈ l, f a = f b → a = b) → (l.map f).Nodup
  | [], _, _ => .nil
  | x :: l, nd, h => by
    obtain ⟨h1, h2⟩ := List.pairwise_cons.mp nd
    rw [List.map_cons]
    refine List.pairwise_cons.mpr ⟨fun y hy e => ?_, map_nodup h2 fun a ha b hb => h a (List.mem_cons_of_mem _ ha) b (List.mem_cons_of_mem _ hb)⟩
    obtain ⟨z, hz, rfl⟩ := List.mem_map.mp hy
    exact h1 z hz (h x (List.mem_cons_self ..) z (List.mem_cons_of_mem _ hz) e)
/-- 1 .. n -/
def upto (n : Nat) : List Nat := (List.range n).map (· + 1)
theorem mem_upto {n k : Nat} : k ∈ upto n ↔ 1 ≤ k ∧ k ≤ n := by
  unfold upto
  rw [List.mem_map]
  constructor
  · rintro ⟨a, ha, rfl⟩
    have := List.mem_range.mp ha
    omega
  · intro h
    exact ⟨k - 1, List.mem_range.mpr (by omega), by omega⟩
theorem nodup_upto (n : Nat) : (upto n).Nodup := map_nodup List.nodup_range fun a _ b _ h => by omega
theorem len_upto (n : Nat) : (upto n).length = n := by simp [upto]
/-- n different numbers of 1 .. n are all of them -/
theorem perm_upto {n : Nat} {l : List Nat} (nd : l.Nodup) (hl : l.length = n) (h : ∀ x ∈ l, 1 ≤ x ∧ x ≤ n) : l.Perm (upto n) := by
  rw [List.perm_ext_iff_of_nodup nd (nodup_upto n)]
  intro y
  rw [mem_upto]
  refine ⟨h y, fun hy => ?_⟩
  by_cases z : y ∈ l
  · exact z
  · have := pigeon (n + 1) (0 :: y :: l) (List.pairwise_cons.mpr ⟨fun x hx => ?_, List.pairwise_cons.mpr ⟨fun x hx e => z (e ▸ hx), nd⟩⟩) (fun x hx => ?_)
    · simp only [List.length_cons] at this
      omega
    · rcases List.mem_cons.mp hx with rfl | hx
      · omega
      · have := h x hx
        omega
    · rcases List.mem_cons.mp hx with rfl | hx
      · omega
      · rcases List.mem_cons.mp hx with rfl | hx
        · omega
        · have := h x hx
          omega
theorem prod_map_mod {a p : Nat} : ∀ l : List Nat, (l.map fun x => a * x % p).prod % p = a ^ l.length * l.prod % p
  | [] => by simp
  | x :: l => by
    have ih := prod_map_mod (a := a) (p := p) l
    rw [List.map_cons, List.prod_cons, List.prod_cons, List.length_cons, Nat.mul_mod, ih, Nat.mod_mod, ← Nat.mul_mod]
    congr 1
    rw [Nat.pow_succ]
    grind
theorem prod_cop {p : Nat} (hp : IsP p) : ∀ l : List Nat, (∀ x ∈ l, ¬ p ∣ x) → ¬ p ∣ l.prod
  | [], _, h => by
    have := Nat.le_of_dvd (by simp) h
    have := hp.1
    simp at *
    omega
  | x :: l, h, hd => by
    rw [List.prod_cons] at hd
    rcases hp.dvd_mul hd with q | q
    · exact h x (List.mem_cons_self ..) q
    · exact prod_cop hp l (fun y hy => h y (List.mem_cons_of_mem _ hy)) q
theorem dvd_of_mod_eq {a b p : Nat} (h : a % p = b % p) (hle : b ≤ a) : p ∣ a - b := by
  rw [Nat.dvd_iff_mod_eq_zero]
  exact Nat.sub_mod_eq_zero_of_mod_eq h
theorem cancel_mod {p a b c : Nat} (hp : IsP p) (hc : ¬ p ∣ c) (h : a * c % p = b * c % p) : a % p = b % p := by
  have key : ∀ a b : Nat, b ≤ a → a * c % p = b * c % p → a % p = b % p := by
    intro a b hle h
    have d : p ∣ (a - b) * c := by
      rw [Nat.sub_mul]
      exact dvd_of_mod_eq h (Nat.mul_le_mul_right c hle)
    rcases hp.dvd_mul d with q | q
    · have : a = b + (a - b) := by omega
      rw [this, Nat.add_mod, Nat.mod_eq_zero_of_dvd q]
      simp
    · exact absurd q hc
  rcases Nat.le_total b a with q | q
  · exact key a b q h
  · exact (key b a q h.symm).symm
theorem perm_mul {p a : Nat} (hp : IsP p) (ha : ¬ p ∣ a) : ((upto (p - 1)).map fun x => a * x % p).Perm (upto (p - 1)) := by
  have h2 := hp.1
  refine perm_upto (map_nodup (nodup_upto _) fun x hx y hy e => ?_) (by rw [List.length_map, len_upto]) fun x hx => ?_
  · have hx := mem_upto.mp hx
    have hy := mem_upto.mp hy
    have := cancel_mod hp ha (a := x) (b := y) (by rw [Nat.mul_comm x, Nat.mul_comm y]; exact e)
    rw [Nat.mod_eq_of_lt (by omega), Nat.mod_eq_of_lt (by omega)] at this
    exact this
  · obtain ⟨y, hy, rfl⟩ := List.mem_map.mp hx
    have hy := mem_upto.mp hy
    have lt := Nat.mod_lt (a * y) (y := p) (by omega)
    refine ⟨?_, by omega⟩
    rcases Nat.eq_zero_or_pos (a * y % p) with z | z
    · exfalso
      rcases hp.dvd_mul (Nat.dvd_of_mod_eq_zero z) with q | q
      · exact ha q
      · have := Nat.le_of_dvd (by omega) q
        omega
    · exact z
theorem fermat {p a : Nat} (hp : IsP p) (ha : ¬ p ∣ a) : a ^ (p - 1) % p = 1 := by
  have h2 := hp.1
  have e := prod_map_mod (a := a) (p := p) (upto (p - 1))
  rw [(perm_mul hp ha).prod_nat, len_upto] at e
  have nc : ¬ p ∣ (upto (p - 1)).prod := prod_cop hp _ fun x hx hd => by
    have := mem_upto.mp hx
    have := Nat.le_of_dvd (by omega) hd
    omega
  have := cancel_mod hp nc (a := 1) (b := a ^ (p - 1)) (by rw [Nat.one_mul]; exact e)
  rw [← this, Nat.mod_eq_of_lt (by omega)]
/-! monic polynomials: the lower coefficients -/
def mv : List Int → Int → Int
  | [], _ => 1
  | a :: c, x => a + x * mv c x
theorem mv_add (r : Int) : ∀ (t t' : List Int), t.length = t'.length + 1 → ∃ u : List Int, u.length = t.length ∧ ∀ x, mv u x = mv t x + r * mv t' x
  | [b], [], _ => ⟨[b + r], rfl, fun x => by simp [mv]; omega⟩
  | b :: c :: s, b' :: s', h => by
    obtain ⟨u, hu, e⟩ := mv_add r (c :: s) s' (by simpa using h)
    refine ⟨(b + r * b') :: u, by simp [hu], fun x => ?_⟩
    show b + r * b' + x * mv u x = b + x * mv (c :: s) x + r * (b' + x * mv s' x)
    rw [e]
    grind
  | [], _, h => by simp at h
  | [_], _ :: _, h => by simp at h
  | _ :: _ :: _, [], h => by simp at h
theorem mv_div (r : Int) : ∀ c : List Int, c ≠ [] → ∃ c' : List Int, c.length = c'.length + 1 ∧ ∀ x, mv c x - mv c r = (x - r) * mv c' x
  | [], h => absurd rfl h
  | [a], _ => ⟨[], rfl, fun x => by simp [mv]; omega⟩
  | a :: b :: t, _ => by
    obtain ⟨t', h1, h2⟩ := mv_div r (b :: t) (by simp)
    obtain ⟨u, h3, h4⟩ := mv_add r (b :: t) t' h1
    refine ⟨u, by simp [h3], fun x => ?_⟩
    have := h2 x
    show a + x * mv (b :: t) x - (a + r * mv (b :: t) r) = _
    rw [h4]
    generalize mv (b :: t) x = A at *
    generalize mv (b :: t) r = B at *
    generalize mv t' x = C at *
    have : A = B + (x - r) * C := by omega
    subst this
    grind
theorem IsP.dvd_mulI {p : Nat} (hp : IsP p) {a b : Int} (h : (p : Int) ∣ a * b) : (p : Int) ∣ a ∨ (p : Int) ∣ b := by
  rw [Int.ofNat_dvd_left, Int.natAbs_mul] at h
  rcases hp.dvd_mul h with q | q
  · exact .inl (Int.ofNat_dvd_left.mpr q)
  · exact .inr (Int.ofNat_dvd_left.mpr q)
/-- few roots -/
theorem few_roots {p : Nat} (hp : IsP p) : ∀ (n : Nat) (c : List Int) (rs : List Int), c.length = n → rs.Pairwise (fun x y => ¬ (p : Int) ∣ x - y) → (∀ r ∈ rs, (p : Int) ∣ mv c r) → rs.length ≤ n
  | 0, c, rs, hc, nd, h => by
    cases rs with
    | nil => exact Nat.le_refl _
    | cons r rs =>
      exfalso
      have e := h r (List.mem_cons_self ..)
      obtain rfl : c = [] := List.length_eq_zero_iff.mp hc
      have := Int.le_of_dvd (by decide : (0 : Int) < 1) e
      have := hp.1
      omega
  | n + 1, c, rs, hc, nd, h => by
    cases rs with
    | nil => simp
    | cons r rs =>
      obtain ⟨h1, h2⟩ := List.pairwise_cons.mp nd
      have er := h r (List.mem_cons_self ..)
      obtain ⟨c', e1, e2⟩ := mv_div r c (by intro z; rw [z] at hc; simp at hc)
      have ih := few_roots hp n c' rs (by omega) h2 fun x hx => by
        have ex := h x (List.mem_cons_of_mem _ hx)
        have d : (p : Int) ∣ (x - r) * mv c' x := by
          rw [← e2]
          exact Int.dvd_sub ex er
        rcases hp.dvd_mulI d with q | q
        · exact absurd (by rw [show r - x = -(x - r) by omega]; exact Int.dvd_neg.mpr q) (h1 x hx)
        · exact q
      simp only [List.length_cons]
      omega
theorem mv_zeros (x : Int) : ∀ k, mv (List.replicate k 0) x = x ^ k
  | 0 => by simp [mv]
  | k + 1 => by
    rw [List.replicate_succ]
    show 0 + x * mv (List.replicate k 0) x = _
    rw [mv_zeros x k, Int.pow_succ]
    grind
theorem mv_pow (x : Int) (k : Nat) (hk : 1 ≤ k) : mv (-1 :: List.replicate (k - 1) 0) x = x ^ k - 1 := by
  show -1 + x * mv _ x = _
  rw [mv_zeros]
  obtain ⟨j, rfl⟩ : ∃ j, k = j + 1 := ⟨k - 1, by omega⟩
  rw [Int.pow_succ]
  simp only [Nat.add_sub_cancel]
  grind
theorem pow_one_dvd {p : Nat} {a : Nat} {k : Nat} (h2 : 2 ≤ p) : (p : Int) ∣ (a : Int) ^ k - 1 ↔ a ^ k % p = 1 := by
  constructor
  · intro h
    rw [Int.dvd_iff_emod_eq_zero] at h
    have := (Int.emod_eq_emod_iff_emod_sub_eq_zero (m := (a : Int) ^ k) (n := (p : Int)) (k := 1)).mpr h
    have e : ((a ^ k % p : Nat) : Int) = ((1 % p : Nat) : Int) := by
      push_cast
      exact this
    rw [Nat.mod_eq_of_lt (show 1 < p by omega)] at e
    exact Int.ofNat.inj e
  · intro h
    rw [Int.dvd_iff_emod_eq_zero]
    refine Int.emod_eq_emod_iff_emod_sub_eq_zero.mp ?_
    have e : ((a ^ k % p : Nat) : Int) = ((1 % p : Nat) : Int) := by
      rw [h, Nat.mod_eq_of_lt (show 1 < p by omega)]
    push_cast at e
    exact e
/-- Euler's criterion -/
theorem euler {p a : Nat} (hp : IsP p) (h2 : p ≠ 2) (ha : ¬ p ∣ a) : a ^ ((p - 1) / 2) % p = 1 ↔ ∃ x, 1 ≤ x ∧ x ≤ p / 2 ∧ p ∣ (x * x) + (p - a % p) := by
  have hp2 := hp.1
  have odd : p % 2 = 1 := by
    rcases Nat.mod_two_eq_zero_or_one p with z | z
    · rcases hp.2 2 (Nat.dvd_of_mod_eq_zero z) with q | q <;> omega
    · exact z
  obtain ⟨k, hk⟩ : ∃ k, p = 2 * k + 1 := ⟨p / 2, by omega⟩
  have e1 : (p - 1) / 2 = k := by omega
  have e2 : p / 2 = k := by omega
  have am := Nat.mod_lt a (y := p) (by omega)
  -- p ∣ x x + (p - a % p) means a = x x
  have mean : ∀ x : Nat, p ∣ x * x + (p - a % p) ↔ (p : Int) ∣ (x : Int) * x - a := by
    intro x
    have hh := Nat.div_add_mod a p
    have c1 : (a : Int) = (p : Int) * ((a / p : Nat) : Int) + ((a % p : Nat) : Int) := by exact_mod_cast hh.symm
    have c2 : ((x * x + (p - a % p) : Nat) : Int) = (x : Int) * x - a + (p : Int) * (((a / p : Nat) : Int) + 1) := by
      rw [Int.natCast_add, Int.natCast_mul, Int.natCast_sub (Nat.le_of_lt am), c1]
      grind
    rw [← Int.natCast_dvd_natCast, c2]
    exact Int.dvd_add_left (Int.dvd_mul_right _ _)
  have root : ∀ x : Nat, 1 ≤ x → x < p → x ^ (2 * k) % p = 1 := fun x h1 hx => by
    have := fermat hp (a := x) (fun q => by have := Nat.le_of_dvd h1 q; omega)
    rwa [show p - 1 = 2 * k by omega] at this
  rw [e1, e2]
  constructor
  · intro h
    -- the squares of 1 .. k are k roots; a would be one more
    by_cases z : ∃ x, 1 ≤ x ∧ x ≤ k ∧ p ∣ (x * x) + (p - a % p)
    · exact z
    · exfalso
      have hk1 : 1 ≤ k := by omega
      have := few_roots hp k (-1 :: List.replicate (k - 1) 0) ((a : Int) :: (upto k).map fun x : Nat => (x : Int) * x) (by simp; omega) ?_ ?_
      · simp only [List.length_cons, List.length_map, len_upto] at this
        omega
      · refine List.pairwise_cons.mpr ⟨fun y hy hd => ?_, ?_⟩
        · obtain ⟨x, hx, rfl⟩ := List.mem_map.mp hy
          obtain ⟨h3, h4⟩ := mem_upto.mp hx
          exact z ⟨x, h3, h4, (mean x).mpr (by rw [show (x : Int) * x - a = -((a : Int) - x * x) by omega]; exact Int.dvd_neg.mpr hd)⟩
        · refine List.pairwise_map.mpr ?_
          have nd := nodup_upto k
          refine List.Pairwise.imp_of_mem ?_ nd
          intro x y hx hy ne hd
          obtain ⟨x1, x2⟩ := mem_upto.mp hx
          obtain ⟨y1, y2⟩ := mem_upto.mp hy
          have e : (x : Int) * x - y * y = (x - y) * (x + y) := by grind
          rw [e] at hd
          rcases hp.dvd_mulI hd with q | q
          · have h5 : ((x : Int) - y).natAbs < p := by omega
            have h6 := Int.eq_zero_of_dvd_of_natAbs_lt_natAbs q (by simpa using h5)
            omega
          · have := Int.le_of_dvd (by omega) q
            omega
      · intro r hr
        rw [mv_pow _ _ hk1]
        rcases List.mem_cons.mp hr with rfl | hr
        · exact (pow_one_dvd hp2).mpr h
        · obtain ⟨x, hx, rfl⟩ := List.mem_map.mp hr
          obtain ⟨x1, x2⟩ := mem_upto.mp hx
          have := (pow_one_dvd hp2).mpr (root x x1 (by omega))
          have e : ((x : Int) * x) ^ k = (x : Int) ^ (2 * k) := by
            rw [Int.pow_mul]
            congr 1
            rw [show (2 : Nat) = 1 + 1 by rfl, Int.pow_succ, Int.pow_succ, Int.pow_zero]
            grind
          rw [e]
          exact this
  · rintro ⟨x, x1, x2, hd⟩
    have hd := (mean x).mp hd
    have am : (a : Int) % p = ((x * x : Nat) : Int) % p := by
      have := Int.emod_eq_emod_iff_emod_sub_eq_zero.mpr (Int.dvd_iff_emod_eq_zero.mp hd)
      rw [← this]
      push_cast
      rfl
    have am : a % p = x * x % p := by exact_mod_cast am
    rw [Nat.pow_mod, am, ← Nat.pow_mod, show x * x = x ^ 2 by rw [Nat.pow_two], ← Nat.pow_mul]
    exact root x x1 (by omega)
end NT

set_option linter.all false
set_option maxRecDepth 100000
namespace NT
/-! the sign of a modulo an odd prime, Gauss's lemma, reciprocity -/
def leg (a : Int) (p : Nat) : Int := if a % (p : Int) = 0 then 0 else if (a % (p : Int)).toNat ^ ((p - 1) / 2) % p = 1 then 1 else -1
def par (n : Nat) : Int := if n % 2 = 0 then 1 else -1
theorem par_add (m n : Nat) : par (m + n) = par m * par n := by
  unfold par
  have : (m + n) % 2 = (m % 2 + n % 2) % 2 := by omega
  rcases Nat.mod_two_eq_zero_or_one m with h | h <;> rcases Nat.mod_two_eq_zero_or_one n with h' | h' <;> rw [this, h, h'] <;> decide
theorem par_sq (n : Nat) : par n * par n = 1 := by
  unfold par
  split <;> rfl
theorem par_congr {m n : Nat} (h : m % 2 = n % 2) : par m = par n := by unfold par; rw [h]
theorem par_mul_odd {m n : Nat} (h : m % 2 = 1) : par (m * n) = par n := par_congr (by rw [Nat.mul_mod, h]; simp)
theorem par_mul_even {m n : Nat} (h : m % 2 = 0) : par (m * n) = 1 := by
  unfold par
  rw [Nat.mul_mod, h]; simp
structure OddP (p : Nat) : Prop where
  pr : IsP p
  odd : p % 2 = 1
theorem OddP.two {p : Nat} (h : OddP p) : 3 ≤ p := by
  have := h.pr.1
  have := h.odd
  omega
theorem OddP.half {p : Nat} (h : OddP p) : p = 2 * ((p - 1) / 2) + 1 := by
  have := h.odd
  omega
/-- a power of a, through its remainder -/
theorem pow_rem {a : Int} {p k : Nat} (hp : 0 < p) : (p : Int) ∣ a ^ k - ((a % (p : Int)).toNat : Int) ^ k := by
  have e : ((a % (p : Int)).toNat : Int) = a % p := Int.toNat_of_nonneg (Int.emod_nonneg _ (by omega))
  rw [e]
  induction k with
  | zero => simp
  | succ k ih =>
    rw [Int.pow_succ, Int.pow_succ]
    have d : (p : Int) ∣ a - a % p := Int.dvd_self_sub_emod
    have e2 : a ^ k * a - (a % p) ^ k * (a % p) = (a ^ k - (a % p) ^ k) * a + (a % p) ^ k * (a - a % p) := by
      generalize a ^ k = A
      generalize a % (p : Int) = b
      generalize b ^ k = B
      grind
    rw [e2]
    exact Int.dvd_add (Int.dvd_mul_of_dvd_left ih) (Int.dvd_mul_of_dvd_right d)
theorem leg_small (a : Int) (p : Nat) : leg a p = 0 ∨ leg a p = 1 ∨ leg a p = -1 := by
  unfold leg
  split
  · exact .inl rfl
  · split
    · exact .inr (.inl rfl)
    · exact .inr (.inr rfl)
theorem leg_zero {a : Int} {p : Nat} : leg a p = 0 ↔ (p : Int) ∣ a := by
  rw [Int.dvd_iff_emod_eq_zero]
  unfold leg
  split
  · simp_all
  · split <;> simp_all
theorem leg_spec {a : Int} {p : Nat} (hp : OddP p) : (p : Int) ∣ a ^ ((p - 1) / 2) - leg a p := by
  have h3 := hp.two
  have hh := hp.half
  have pr := pow_rem (a := a) (k := (p - 1) / 2) (p := p) (by omega)
  unfold leg
  by_cases h0 : a % (p : Int) = 0
  · rw [if_pos h0]
    rw [h0] at pr
    have : ((0 : Int).toNat : Int) ^ ((p - 1) / 2) = 0 := by
      rw [show ((0 : Int).toNat : Int) = 0 by rfl]
      exact Int.zero_pow (by omega)
    rw [this] at pr
    exact pr
  · rw [if_neg h0]
    have pos : 0 ≤ a % (p : Int) := Int.emod_nonneg _ (by omega)
    have lt : a % (p : Int) < p := Int.emod_lt_of_pos _ (by omega)
    generalize a % (p : Int) = b at *
    obtain ⟨c, rfl⟩ : ∃ c : Nat, b = c := ⟨b.toNat, by omega⟩
    rw [Int.toNat_natCast] at *
    have nd : ¬ p ∣ c := fun q => by
      have := Nat.le_of_dvd (by omega) q
      omega
    by_cases h1 : c ^ ((p - 1) / 2) % p = 1
    · rw [if_pos h1]
      have := (pow_one_dvd (by omega)).mpr h1
      have := Int.dvd_add pr this
      rwa [show a ^ ((p - 1) / 2) - (c : Int) ^ ((p - 1) / 2) + ((c : Int) ^ ((p - 1) / 2) - 1) = a ^ ((p - 1) / 2) - 1 by omega] at this
    · rw [if_neg h1]
      have fm := fermat hp.pr nd
      have fm := (pow_one_dvd (p := p) (a := c) (k := p - 1) (by omega)).mpr fm
      have e2 : (c : Int) ^ (p - 1) - 1 = ((c : Int) ^ ((p - 1) / 2) - 1) * ((c : Int) ^ ((p - 1) / 2) + 1) := by
        have : (c : Int) ^ (p - 1) = (c : Int) ^ ((p - 1) / 2) * (c : Int) ^ ((p - 1) / 2) := by
          rw [← Int.pow_add]
          congr 1
          omega
        rw [this]
        generalize (c : Int) ^ ((p - 1) / 2) = x
        grind
      rw [e2] at fm
      rcases hp.pr.dvd_mulI fm with q | q
      · exact absurd ((pow_one_dvd (by omega)).mp q) h1
      · have := Int.dvd_add pr q
        rwa [show a ^ ((p - 1) / 2) - (c : Int) ^ ((p - 1) / 2) + ((c : Int) ^ ((p - 1) / 2) + 1) = a ^ ((p - 1) / 2) - -1 by omega] at this
theorem small_eq {x y : Int} {p : Nat} (hp : 3 ≤ p) (hx : x = 0 ∨ x = 1 ∨ x = -1) (hy : y = 0 ∨ y = 1 ∨ y = -1) (h : (p : Int) ∣ x - y) : x = y := by
  have := Int.eq_zero_of_dvd_of_natAbs_lt_natAbs h (by rcases hx with rfl | rfl | rfl <;> rcases hy with rfl | rfl | rfl <;> simp <;> omega)
  omega
theorem leg_of {a e : Int} {p : Nat} (hp : OddP p) (he : e = 0 ∨ e = 1 ∨ e = -1) (h : (p : Int) ∣ a ^ ((p - 1) / 2) - e) : leg a p = e := by
  refine small_eq hp.two (leg_small a p) he ?_
  have := Int.dvd_sub h (leg_spec (a := a) hp)
  rwa [show a ^ ((p - 1) / 2) - e - (a ^ ((p - 1) / 2) - leg a p) = leg a p - e by omega] at this
theorem mul_small {x y : Int} (hx : x = 0 ∨ x = 1 ∨ x = -1) (hy : y = 0 ∨ y = 1 ∨ y = -1) : x * y = 0 ∨ x * y = 1 ∨ x * y = -1 := by
  rcases hx with rfl | rfl | rfl <;> rcases hy with rfl | rfl | rfl <;> simp
theorem leg_mul {a b : Int} {p : Nat} (hp : OddP p) : leg (a * b) p = leg a p * leg b p := by
  refine leg_of hp (mul_small (leg_small _ _) (leg_small _ _)) ?_
  have h1 := leg_spec (a := a) hp
  have h2 := leg_spec (a := b) hp
  rw [Int.mul_pow]
  have e : a ^ ((p - 1) / 2) * b ^ ((p - 1) / 2) - leg a p * leg b p = (a ^ ((p - 1) / 2) - leg a p) * b ^ ((p - 1) / 2) + leg a p * (b ^ ((p - 1) / 2) - leg b p) := by
    generalize a ^ ((p - 1) / 2) = x
    generalize b ^ ((p - 1) / 2) = y
    grind
  rw [e]
  exact Int.dvd_add (Int.dvd_mul_of_dvd_left h1) (Int.dvd_mul_of_dvd_right h2)
theorem leg_mod {a b : Int} {p : Nat} (h : a % (p : Int) = b % (p : Int)) : leg a p = leg b p := by
  unfold leg
  rw [h]
theorem par_small (n : Nat) : par n = 0 ∨ par n = 1 ∨ par n = -1 := by
  unfold par
  split
  · exact .inr (.inl rfl)
  · exact .inr (.inr rfl)
theorem neg_pow_par (n : Nat) : (-1 : Int) ^ n = par n := by
  induction n with
  | zero => rfl
  | succ n ih =>
    rw [Int.pow_succ, ih, par_add]
    rfl
theorem leg_neg_one {p : Nat} (hp : OddP p) : leg (-1) p = par ((p - 1) / 2) := leg_of hp (par_small _) (by rw [neg_pow_par, Int.sub_self]; exact Int.dvd_zero _)
theorem leg_one {p : Nat} (hp : OddP p) : leg 1 p = 1 := leg_of hp (.inr (.inl rfl)) (by rw [Int.one_pow, Int.sub_self]; exact Int.dvd_zero _)
/-! ### Gauss -/
def gf (a p k : Nat) : Nat := if 2 * (a * k % p) < p then a * k % p else p - a * k % p
def gm (a p k : Nat) : Nat := if 2 * (a * k % p) < p then 0 else 1
def sumL (f : Nat → Nat) (l : List Nat) : Nat := (l.map f).sum
theorem sumL_nil (f : Nat → Nat) : sumL f [] = 0 := rfl
theorem sumL_cons (f : Nat → Nat) (x : Nat) (l : List Nat) : sumL f (x :: l) = f x + sumL f l := by simp [sumL]
theorem gauss_prod {a p : Nat} (hp : 0 < p) : ∀ l : List Nat, (p : Int) ∣ (a : Int) ^ l.length * ((l.prod : Nat) : Int) - par (sumL (gm a p) l) * (((l.map (gf a p)).prod : Nat) : Int)
  | [] => by simp [sumL, par]
  | k :: l => by
    have ih := gauss_prod (a := a) hp l
    rw [List.map_cons, List.prod_cons, List.prod_cons, List.length_cons, sumL_cons, par_add, Int.pow_succ]
    have one : (p : Int) ∣ (a : Int) * k - par (gm a p k) * (gf a p k : Nat) := by
      have dm := Nat.div_add_mod (a * k) p
      have e : (a : Int) * k = (p : Int) * ((a * k / p : Nat) : Int) + ((a * k % p : Nat) : Int) := by exact_mod_cast dm.symm
      unfold gm gf
      by_cases h : 2 * (a * k % p) < p
      · rw [if_pos h, if_pos h, e]
        refine ⟨((a * k / p : Nat) : Int), ?_⟩
        simp [par]
      · rw [if_neg h, if_neg h, e]
        refine ⟨((a * k / p : Nat) : Int) + 1, ?_⟩
        have : a * k % p ≤ p := Nat.le_of_lt (Nat.mod_lt _ hp)
        rw [Int.natCast_sub this]
        simp [par]
        grind
    push_cast
    have e : (a : Int) ^ l.length * a * (k * (l.prod : Nat)) - par (gm a p k) * par (sumL (gm a p) l) * ((gf a p k : Nat) * ((l.map (gf a p)).prod : Nat)) =
        (a * k - par (gm a p k) * (gf a p k : Nat)) * (a ^ l.length * (l.prod : Nat)) + par (gm a p k) * (gf a p k : Nat) * (a ^ l.length * (l.prod : Nat) - par (sumL (gm a p) l) * ((l.map (gf a p)).prod : Nat)) := by
      generalize ((l.prod : Nat) : Int) = x
      generalize (((l.map (gf a p)).prod : Nat) : Int) = y
      generalize par (gm a p k) = z
      generalize par (sumL (gm a p) l) = w
      generalize (a : Int) ^ l.length = u
      grind
    rw [e]
    exact Int.dvd_add (Int.dvd_mul_of_dvd_left one) (Int.dvd_mul_of_dvd_right ih)
theorem gf_perm {a p : Nat} (hp : OddP p) (ha : ¬ p ∣ a) : ((upto ((p - 1) / 2)).map (gf a p)).Perm (upto ((p - 1) / 2)) := by
  have h3 := hp.two
  have hh := hp.half
  have ne : ∀ k, 1 ≤ k → k ≤ (p - 1) / 2 → a * k % p ≠ 0 := fun k h1 h2 z => by
    rcases hp.pr.dvd_mul (Nat.dvd_of_mod_eq_zero z) with q | q
    · exact ha q
    · have := Nat.le_of_dvd (by omega) q
      omega
  refine perm_upto (map_nodup (nodup_upto _) fun x hx y hy e => ?_) (by rw [List.length_map, len_upto]) fun x hx => ?_
  · obtain ⟨x1, x2⟩ := mem_upto.mp hx
    obtain ⟨y1, y2⟩ := mem_upto.mp hy
    have lx := Nat.mod_lt (a * x) (y := p) (by omega)
    have ly := Nat.mod_lt (a * y) (y := p) (by omega)
    have same : a * x % p = a * y % p → x = y := fun e => by
      have := cancel_mod hp.pr ha (a := x) (b := y) (by rw [Nat.mul_comm x, Nat.mul_comm y]; exact e)
      rw [Nat.mod_eq_of_lt (by omega), Nat.mod_eq_of_lt (by omega)] at this
      exact this
    have oppo : a * x % p + a * y % p = p → x = y := fun e => by
      exfalso
      have d : p ∣ a * (x + y) := by
        rw [Nat.mul_add, Nat.dvd_iff_mod_eq_zero, Nat.add_mod, e, Nat.mod_self]
      rcases hp.pr.dvd_mul d with q | q
      · exact ha q
      · have := Nat.le_of_dvd (by omega) q
        omega
    have nx := ne x x1 x2
    have ny := ne y y1 y2
    unfold gf at e
    split at e <;> split at e
    · exact same e
    · exact oppo (by omega)
    · exact oppo (by omega)
    · exact same (by omega)
  · obtain ⟨y, hy, rfl⟩ := List.mem_map.mp hx
    obtain ⟨y1, y2⟩ := mem_upto.mp hy
    have ny := ne y y1 y2
    have ly := Nat.mod_lt (a * y) (y := p) (by omega)
    unfold gf
    split <;> omega
theorem gauss {a p : Nat} (hp : OddP p) (ha : ¬ p ∣ a) : leg a p = par (sumL (gm a p) (upto ((p - 1) / 2))) := by
  refine leg_of hp (par_small _) ?_
  have h3 := hp.two
  have h := gauss_prod (a := a) (p := p) (by omega) (upto ((p - 1) / 2))
  rw [(gf_perm hp ha).prod_nat, len_upto, ← Int.sub_mul] at h
  rcases hp.pr.dvd_mulI h with q | q
  · exact q
  · exfalso
    refine prod_cop hp.pr _ (fun x hx hd => ?_) (Int.natCast_dvd_natCast.mp q)
    have := mem_upto.mp hx
    have := Nat.le_of_dvd (by omega) hd
    omega
/-! ### Eisenstein -/
theorem eis_sum {a p : Nat} (hp : p % 2 = 1) : ∀ l : List Nat, (a * l.sum + sumL (gf a p) l) % 2 = (sumL (fun k => a * k / p) l + sumL (gm a p) l) % 2
  | [] => by simp [sumL]
  | k :: l => by
    have ih := eis_sum (a := a) hp l
    rw [sumL_cons, sumL_cons, sumL_cons, List.sum_cons, Nat.mul_add]
    have dm := Nat.div_add_mod (a * k) p
    have lt := Nat.mod_lt (a * k) (y := p) (by omega)
    generalize a * l.sum = A at *
    generalize sumL (gf a p) l = B at *
    generalize sumL (fun k => a * k / p) l = C at *
    generalize sumL (gm a p) l = E at *
    generalize a * k / p = q at *
    unfold gf gm
    generalize a * k % p = r at *
    generalize a * k = z at *
    obtain ⟨h, rfl⟩ : ∃ h, p = 2 * h + 1 := ⟨p / 2, by omega⟩
    have e : (2 * h + 1) * q = 2 * (h * q) + q := by grind
    rw [e] at dm
    generalize h * q = w at *
    split <;> omega
theorem sumL_map (f : Nat → Nat) (l : List Nat) : (l.map f).sum = sumL f l := rfl
theorem eis {a p : Nat} (hp : OddP p) (ha : ¬ p ∣ a) : ((a + 1) * (upto ((p - 1) / 2)).sum) % 2 = (sumL (fun k => a * k / p) (upto ((p - 1) / 2)) + sumL (gm a p) (upto ((p - 1) / 2))) % 2 := by
  rw [← eis_sum hp.odd, ← sumL_map (gf a p), (gf_perm hp ha).sum_nat]
  congr 1
  grind
theorem sum_upto : ∀ n, 2 * (upto n).sum = n * (n + 1)
  | 0 => rfl
  | n + 1 => by
    have ih := sum_upto n
    have e : upto (n + 1) = upto n ++ [n + 1] := by
      unfold upto
      rw [List.range_succ, List.map_append]
      rfl
    rw [e, List.sum_append, List.sum_cons, List.sum_nil]
    grind
/-- the sign of 2 -/
theorem leg_two {p : Nat} (hp : OddP p) : leg 2 p = if p % 8 = 1 ∨ p % 8 = 7 then 1 else -1 := by
  have h3 := hp.two
  have hh := hp.half
  have nd : ¬ p ∣ 2 := fun q => by
    have := Nat.le_of_dvd (by omega) q
    omega
  have g := gauss hp (a := 2) nd
  have e := eis hp (a := 2) nd
  have z : ∀ l : List Nat, (∀ k ∈ l, k ≤ (p - 1) / 2) → sumL (fun k => 2 * k / p) l = 0 := by
    intro l
    induction l with
    | nil => intro _; rfl
    | cons k l ih =>
      intro h
      rw [sumL_cons, ih fun k hk => h k (List.mem_cons_of_mem _ hk)]
      have := h k (List.mem_cons_self ..)
      rw [Nat.div_eq_of_lt (by omega)]
  rw [z _ fun k hk => (mem_upto.mp hk).2, Nat.zero_add] at e
  have s := sum_upto ((p - 1) / 2)
  generalize (upto ((p - 1) / 2)).sum = S at *
  rw [show ((2 : Nat) : Int) = 2 by rfl] at g
  rw [g]
  generalize sumL (gm 2 p) (upto ((p - 1) / 2)) = M at *
  have eM : M % 2 = S % 2 := by omega
  rw [par_congr eM]
  generalize (p - 1) / 2 = h at *
  have c : h % 4 = 0 ∨ h % 4 = 1 ∨ h % 4 = 2 ∨ h % 4 = 3 := by omega
  unfold par
  rcases c with c | c | c | c
  · obtain ⟨m, rfl⟩ : ∃ m, h = 4 * m := ⟨h / 4, by omega⟩
    have : S = 2 * (m * (4 * m + 1)) := by grind
    rw [if_pos (by omega), if_pos (by omega)]
  · obtain ⟨m, rfl⟩ : ∃ m, h = 4 * m + 1 := ⟨h / 4, by omega⟩
    have : S = 2 * (m * (4 * m + 3)) + 1 := by grind
    rw [if_neg (by omega), if_neg (by omega)]
  · obtain ⟨m, rfl⟩ : ∃ m, h = 4 * m + 2 := ⟨h / 4, by omega⟩
    have : S = 2 * ((2 * m + 1) * (2 * m + 1) + m) + 1 := by grind
    rw [if_neg (by omega), if_neg (by omega)]
  · obtain ⟨m, rfl⟩ : ∃ m, h = 4 * m + 3 := ⟨h / 4, by omega⟩
    have : S = 2 * ((4 * m + 3) * (m + 1)) := by grind
    rw [if_pos (by omega), if_pos (by omega)]
/-- for odd a -/
theorem leg_odd {a p : Nat} (hp : OddP p) (ha : ¬ p ∣ a) (ho : a % 2 = 1) : leg a p = par (sumL (fun k => a * k / p) (upto ((p - 1) / 2))) := by
  rw [gauss hp ha]
  have e := eis hp ha
  have : ((a + 1) * (upto ((p - 1) / 2)).sum) % 2 = 0 := by
    rw [Nat.mul_mod, show (a + 1) % 2 = 0 by omega]
    simp
  exact par_congr (by omega)
/-! ### the lattice -/
theorem count_upto (m : Nat) : ∀ n, ((upto n).filter fun j => decide (j ≤ m)).length = min m n
  | 0 => by simp [upto]
  | n + 1 => by
    have e : upto (n + 1) = upto n ++ [n + 1] := by
      unfold upto
      rw [List.range_succ, List.map_append]
      rfl
    rw [e, List.filter_append, List.length_append, count_upto m n]
    by_cases h : n + 1 ≤ m
    · simp [h]; omega
    · simp [h]; omega
theorem count_two (P : Nat → Bool) : ∀ l : List Nat, (l.filter P).length + (l.filter fun j => !P j).length = l.length
  | [] => rfl
  | x :: l => by
    have := count_two P l
    cases h : P x <;> simp [h] <;> omega
theorem count_cons (Q : Nat → Nat → Bool) (a : Nat) (A : List Nat) : ∀ B : List Nat, sumL (fun j => ((a :: A).filter fun k => Q k j).length) B = (B.filter fun j => Q a j).length + sumL (fun j => (A.filter fun k => Q k j).length) B
  | [] => rfl
  | b :: B => by
    have := count_cons Q a A B
    rw [sumL_cons, sumL_cons, this]
    cases h : Q a b <;> simp [h] <;> omega
theorem double (P : Nat → Nat → Bool) : ∀ (A B : List Nat), sumL (fun k => (B.filter fun j => P k j).length) A + sumL (fun j => (A.filter fun k => !P k j).length) B = A.length * B.length
  | [], B => by
    have : ∀ B : List Nat, sumL (fun j => (([] : List Nat).filter fun k => !P k j).length) B = 0 := by
      intro B
      induction B with
      | nil => rfl
      | cons b B ih => rw [sumL_cons, ih]; rfl
    rw [this]
    simp [sumL]
  | a :: A, B => by
    have ih := double P A B
    rw [sumL_cons, count_cons (fun k j => !P k j)]
    have := count_two (fun j => P a j) B
    rw [List.length_cons, Nat.add_mul]
    omega
theorem sumL_congr {f g : Nat → Nat} : ∀ {l : List Nat}, (∀ k ∈ l, f k = g k) → sumL f l = sumL g l
  | [], _ => rfl
  | k :: l, h => by
    rw [sumL_cons, sumL_cons, h k (List.mem_cons_self ..), sumL_congr fun j hj => h j (List.mem_cons_of_mem _ hj)]
theorem floor_count {a p k n : Nat} (hp : 0 < p) (hn : a * k / p ≤ n) (hd : ¬ p ∣ a * k) : a * k / p = ((upto n).filter fun j => decide (p * j < a * k)).length := by
  have e : ((upto n).filter fun j => decide (p * j < a * k)) = ((upto n).filter fun j => decide (j ≤ a * k / p)) := by
    refine List.filter_congr fun j _ => ?_
    rw [decide_eq_decide, Nat.le_div_iff_mul_le hp, Nat.mul_comm j]
    constructor
    · omega
    · intro h
      rcases Nat.lt_or_eq_of_le h with q | q
      · exact q
      · exact absurd ⟨j, q.symm⟩ hd
  rw [e, count_upto]
  omega
/-- reciprocity -/
theorem qr {p q : Nat} (hp : OddP p) (hq : OddP q) (ne : p ≠ q) : leg q p * leg p q = par (((p - 1) / 2) * ((q - 1) / 2)) := by
  have p3 := hp.two
  have q3 := hq.two
  have ph := hp.half
  have qh := hq.half
  have n1 : ¬ p ∣ q := fun z => ne (hp.pr.eq_of_dvd hq.pr z)
  have n2 : ¬ q ∣ p := fun z => ne (hq.pr.eq_of_dvd hp.pr z).symm
  rw [leg_odd hp n1 hq.odd, leg_odd hq n2 hp.odd, ← par_add]
  congr 1
  have e1 : sumL (fun k => q * k / p) (upto ((p - 1) / 2)) = sumL (fun k => ((upto ((q - 1) / 2)).filter fun j => decide (p * j < q * k)).length) (upto ((p - 1) / 2)) := by
    refine sumL_congr fun k hk => ?_
    obtain ⟨k1, k2⟩ := mem_upto.mp hk
    refine floor_count (by omega) ?_ fun z => ?_
    · rw [← Nat.lt_succ_iff, Nat.div_lt_iff_lt_mul (by omega)]
      have : q * k ≤ q * ((p - 1) / 2) := Nat.mul_le_mul_left q k2
      generalize (p - 1) / 2 = hp' at *
      generalize (q - 1) / 2 = hq' at *
      subst ph qh
      have : (2 * hq' + 1) * hp' = 2 * (hp' * hq') + hp' := by grind
      have : (hq' + 1) * (2 * hp' + 1) = 2 * (hp' * hq') + hq' + 2 * hp' + 1 := by grind
      show (2 * hq' + 1) * k < (hq' + 1) * (2 * hp' + 1)
      omega
    · rcases hp.pr.dvd_mul z with w | w
      · exact n1 w
      · have := Nat.le_of_dvd (by omega) w
        omega
  have e2 : sumL (fun k => p * k / q) (upto ((q - 1) / 2)) = sumL (fun j => ((upto ((p - 1) / 2)).filter fun k => !decide (p * j < q * k)).length) (upto ((q - 1) / 2)) := by
    refine sumL_congr fun k hk => ?_
    obtain ⟨k1, k2⟩ := mem_upto.mp hk
    have nd : ¬ q ∣ p * k := fun z => by
      rcases hq.pr.dvd_mul z with w | w
      · exact n2 w
      · have := Nat.le_of_dvd (by omega) w
        omega
    rw [floor_count (n := (p - 1) / 2) (by omega) ?_ nd]
    · congr 1
      refine List.filter_congr fun j _ => ?_
      rw [← decide_not, decide_eq_decide]
      constructor
      · omega
      · intro h
        rcases Nat.lt_or_eq_of_le (Nat.le_of_not_lt h) with w | w
        · exact w
        · exact absurd ⟨j, w.symm⟩ nd
    · rw [← Nat.lt_succ_iff, Nat.div_lt_iff_lt_mul (by omega)]
      have : p * k ≤ p * ((q - 1) / 2) := Nat.mul_le_mul_left p k2
      generalize (p - 1) / 2 = hp' at *
      generalize (q - 1) / 2 = hq' at *
      subst ph qh
      have : (2 * hp' + 1) * hq' = 2 * (hp' * hq') + hq' := by grind
      have : (hp' + 1) * (2 * hq' + 1) = 2 * (hp' * hq') + hp' + 2 * hq' + 1 := by grind
      show (2 * hp' + 1) * k < (hp' + 1) * (2 * hq' + 1)
      omega
  rw [e1, e2, double (fun k j => decide (p * j < q * k)), len_upto, len_upto]
end NT

set_option linter.all false
set_option maxRecDepth 100000
namespace NT
/-! the sign of a discriminant comes again -/
def chj (d : Int) (p : Nat) : Int := if p = 2 then (if d % 2 = 0 then 0 else if d % 8 = 1 ∨ d % 8 = 7 then 1 else -1) else leg d p
theorem odd_of {p : Nat} (hp : IsP p) (h : p ≠ 2) : OddP p := ⟨hp, by
  rcases Nat.mod_two_eq_zero_or_one p with z | z
  · rcases hp.2 2 (Nat.dvd_of_mod_eq_zero z) with q | q <;> omega
  · exact z⟩
theorem chj_mul {a b : Int} {p : Nat} (hp : IsP p) : chj (a * b) p = chj a p * chj b p := by
  unfold chj
  by_cases h : p = 2
  · rw [if_pos h, if_pos h, if_pos h]
    have e2 : a * b % 2 = (a % 2) * (b % 2) % 2 := Int.mul_emod ..
    have e8 : a * b % 8 = (a % 8) * (b % 8) % 8 := Int.mul_emod ..
    have ca : a % 8 = 0 ∨ a % 8 = 1 ∨ a % 8 = 2 ∨ a % 8 = 3 ∨ a % 8 = 4 ∨ a % 8 = 5 ∨ a % 8 = 6 ∨ a % 8 = 7 := by omega
    have cb : b % 8 = 0 ∨ b % 8 = 1 ∨ b % 8 = 2 ∨ b % 8 = 3 ∨ b % 8 = 4 ∨ b % 8 = 5 ∨ b % 8 = 6 ∨ b % 8 = 7 := by omega
    have a2 : a % 2 = a % 8 % 2 := by omega
    have b2 : b % 2 = b % 8 % 2 := by omega
    rw [e2, e8, a2, b2]
    rcases ca with z | z | z | z | z | z | z | z <;> rcases cb with y | y | y | y | y | y | y | y <;> rw [z, y] <;> decide
  · rw [if_neg h, if_neg h, if_neg h]
    exact leg_mul (odd_of hp h)
def KR (d : Int) (n : Nat) : Int := Kr (chj d) (2 * n) n 2
theorem Kr_total {x F : Nat → Int} (h1 : F 1 = 1) (hm : ∀ m n, 1 ≤ m → 1 ≤ n → F (m * n) = F m * F n) (hp : ∀ p, IsP p → x p = F p) :
    ∀ f n p, 1 ≤ n → 2 ≤ p → (∀ d, 2 ≤ d → d < p → ¬ d ∣ n) → 2 * n ≤ f + p → Kr x f n p = F n
  | 0, n, p, hn, h2, no, hf => by
    have : n = 1 := by
      rcases Nat.lt_or_ge n 2 with z | z
      · omega
      · exact absurd (Nat.dvd_refl n) (no n z (by omega))
    subst this
    exact h1.symm
  | f + 1, n, p, hn, h2, no, hf => by
    unfold Kr
    by_cases z : n ≤ 1
    · rw [if_pos z]
      obtain rfl : n = 1 := by omega
      exact h1.symm
    · rw [if_neg z]
      have hle : p ≤ n := by
        rcases Nat.lt_or_ge n p with q | q
        · exact absurd (Nat.dvd_refl n) (no n (by omega) q)
        · exact q
      by_cases y : n % p = 0
      · rw [if_pos y]
        have hd := Nat.dvd_of_mod_eq_zero y
        have ip := least_prime h2 hd no
        have hq : n / p ∣ n := Nat.div_dvd_of_dvd hd
        have e : p * (n / p) = n := Nat.mul_div_cancel' hd
        have q1 : 1 ≤ n / p := Nat.div_pos hle (by omega)
        have q2 : n / p ≤ n / 2 := Nat.div_le_div_left h2 (by omega)
        rw [Kr_total h1 hm hp f (n / p) p q1 h2 (fun d a b c => no d a b (Nat.dvd_trans c hq)) (by omega), hp p ip, ← hm p _ (by omega) q1, e]
      · rw [if_neg y]
        refine Kr_total h1 hm hp f n (p + 1) hn (by omega) (fun d a b c => ?_) (by omega)
        by_cases e : d = p
        · subst e
          exact y (Nat.mod_eq_zero_of_dvd c)
        · exact no d a (by omega) c
theorem KR_of {d : Int} {F : Nat → Int} (h1 : F 1 = 1) (hm : ∀ m n, 1 ≤ m → 1 ≤ n → F (m * n) = F m * F n) (hp : ∀ p, IsP p → chj d p = F p) {n : Nat} (hn : 1 ≤ n) : KR d n = F n :=
  Kr_total h1 hm hp _ n 2 hn (by omega) (fun d a b => by omega) (by omega)
theorem KR_mul (a b : Int) (n : Nat) : KR (a * b) n = KR a n * KR b n := Kr_mul _ n 2 (by omega) (fun d a b => by omega) fun q hq _ => chj_mul hq
def Per (d : Int) (M : Nat) : Prop := ∀ n m, 1 ≤ n → 1 ≤ m → n % M = m % M → KR d n = KR d m
theorem Per.mul {a b : Int} {M N : Nat} (h : Per a M) (h' : Per b N) : Per (a * b) (M * N) := fun n m hn hm e => by
  rw [KR_mul, KR_mul]
  have e1 : n % M = m % M := by
    have := congrArg (· % M) e
    simpa [Nat.mod_mul_right_mod] using this
  have e2 : n % N = m % N := by
    have := congrArg (· % N) e
    simpa [Nat.mod_mul_left_mod] using this
  rw [h n m hn hm e1, h' n m hn hm e2]
theorem KR_one {n : Nat} (hn : 1 ≤ n) : KR 1 n = 1 := KR_of (F := fun _ => 1) rfl (fun _ _ _ _ => rfl) (fun p hp => by
  unfold chj
  by_cases h : p = 2
  · rw [if_pos h] <;> rfl
  · rw [if_neg h]
    exact leg_one (odd_of hp h)) hn
theorem Per.one : Per 1 1 := fun n m hn hm _ => by rw [KR_one hn, KR_one hm]
def f4 (n : Nat) : Int := if n % 4 = 1 then 1 else if n % 4 = 3 then -1 else 0
theorem f4_mul (m n : Nat) : f4 (m * n) = f4 m * f4 n := by
  have e : m * n % 4 = (m % 4) * (n % 4) % 4 := Nat.mul_mod ..
  unfold f4
  rw [e]
  have ca : m % 4 = 0 ∨ m % 4 = 1 ∨ m % 4 = 2 ∨ m % 4 = 3 := by omega
  have cb : n % 4 = 0 ∨ n % 4 = 1 ∨ n % 4 = 2 ∨ n % 4 = 3 := by omega
  rcases ca with z | z | z | z <;> rcases cb with y | y | y | y <;> rw [z, y] <;> decide
def f8 (n : Nat) : Int := if n % 8 = 1 ∨ n % 8 = 7 then 1 else if n % 2 = 1 then -1 else 0
theorem f8_mul (m n : Nat) : f8 (m * n) = f8 m * f8 n := by
  have e : m * n % 8 = (m % 8) * (n % 8) % 8 := Nat.mul_mod ..
  have e2 : m * n % 2 = (m % 8) * (n % 8) % 8 % 2 := by omega
  have m2 : m % 2 = m % 8 % 2 := by omega
  have n2 : n % 2 = n % 8 % 2 := by omega
  unfold f8
  rw [e2, e, m2, n2]
  have ca : m % 8 = 0 ∨ m % 8 = 1 ∨ m % 8 = 2 ∨ m % 8 = 3 ∨ m % 8 = 4 ∨ m % 8 = 5 ∨ m % 8 = 6 ∨ m % 8 = 7 := by omega
  have cb : n % 8 = 0 ∨ n % 8 = 1 ∨ n % 8 = 2 ∨ n % 8 = 3 ∨ n % 8 = 4 ∨ n % 8 = 5 ∨ n % 8 = 6 ∨ n % 8 = 7 := by omega
  rcases ca with z | z | z | z | z | z | z | z <;> rcases cb with y | y | y | y | y | y | y | y <;> rw [z, y] <;> decide
theorem leg_m1 {p : Nat} (hp : OddP p) : leg (-1) p = f4 p := by
  rw [leg_neg_one hp]
  have h3 := hp.two
  have ho := hp.odd
  unfold par f4
  have c : p % 4 = 1 ∨ p % 4 = 3 := by omega
  rcases c with c | c
  · rw [if_pos (by omega), if_pos c]
  · rw [if_neg (by omega), if_neg (by omega), if_pos c]
theorem leg_2 {p : Nat} (hp : OddP p) : leg 2 p = f8 p := by
  rw [leg_two hp]
  have ho := hp.odd
  unfold f8
  rw [if_pos ho]
theorem leg_sq {a : Int} {p : Nat} (hp : OddP p) (ha : ¬ (p : Int) ∣ a) : leg a p * leg a p = 1 := by
  rcases leg_small a p with h | h | h
  · exact absurd (leg_zero.mp h) ha
  · rw [h] <;> rfl
  · rw [h] <;> rfl
theorem nd2 {p : Nat} (hp : OddP p) : ¬ (p : Int) ∣ 2 := fun h => by
  have := Int.le_of_dvd (by omega) h
  have := hp.two
  omega
theorem KR_m4 {n : Nat} (hn : 1 ≤ n) : KR (-4) n = f4 n := KR_of (by rfl) (fun m n _ _ => f4_mul m n) (fun p hp => by
  unfold chj
  by_cases h : p = 2
  · subst h
    rfl
  · rw [if_neg h]
    have o := odd_of hp h
    rw [show (-4 : Int) = -1 * (2 * 2) by rfl, leg_mul o, leg_mul o, leg_sq o (nd2 o), Int.mul_one]
    exact leg_m1 o) hn
theorem KR_8 {n : Nat} (hn : 1 ≤ n) : KR 8 n = f8 n := KR_of (by rfl) (fun m n _ _ => f8_mul m n) (fun p hp => by
  unfold chj
  by_cases h : p = 2
  · subst h
    rfl
  · rw [if_neg h]
    have o := odd_of hp h
    rw [show (8 : Int) = 2 * (2 * 2) by rfl, leg_mul o, leg_mul o, leg_sq o (nd2 o), Int.mul_one]
    exact leg_2 o) hn
theorem KR_m8 {n : Nat} (hn : 1 ≤ n) : KR (-8) n = f4 n * f8 n := KR_of (F := fun n => f4 n * f8 n) (by rfl) (fun m n _ _ => by
  show f4 (m * n) * f8 (m * n) = _
  rw [f4_mul, f8_mul]
  generalize f4 m = a
  generalize f4 n = b
  generalize f8 m = c
  generalize f8 n = d
  grind) (fun p hp => by
  unfold chj
  by_cases h : p = 2
  · subst h
    rfl
  · rw [if_neg h]
    have o := odd_of hp h
    rw [show (-8 : Int) = -1 * (2 * (2 * 2)) by rfl, leg_mul o, leg_mul o, leg_mul o, leg_sq o (nd2 o), Int.mul_one]
    show _ = f4 p * f8 p
    rw [leg_m1 o, leg_2 o]) hn
theorem Per.m4 : Per (-4) 4 := fun n m hn hm e => by
  rw [KR_m4 hn, KR_m4 hm]
  unfold f4
  rw [e]
theorem f8_per {n m : Nat} (e : n % 8 = m % 8) : f8 n = f8 m := by
  unfold f8
  have : n % 2 = m % 2 := by omega
  rw [e, this]
theorem Per.p8 : Per 8 8 := fun n m hn hm e => by rw [KR_8 hn, KR_8 hm, f8_per e]
theorem Per.m8 : Per (-8) 8 := fun n m hn hm e => by
  rw [KR_m8 hn, KR_m8 hm, f8_per e]
  have : n % 4 = m % 4 := by omega
  unfold f4
  rw [this]
/-- p or -p, whichever leaves 1 at 4 -/
def star (q : Nat) : Int := if q % 4 = 1 then (q : Int) else -(q : Int)
theorem star_par {q : Nat} (hq : OddP q) : star q = par ((q - 1) / 2) * q := by
  have ho := hq.odd
  have h3 := hq.two
  unfold star par
  have c : q % 4 = 1 ∨ q % 4 = 3 := by omega
  rcases c with c | c
  · rw [if_pos c, if_pos (by omega), Int.one_mul]
  · rw [if_neg (by omega), if_neg (by omega)]
    omega
theorem chj_star {p q : Nat} (hp : IsP p) (hq : OddP q) : chj (star q) p = leg p q := by
  have ho := hq.odd
  have h3 := hq.two
  unfold chj
  by_cases h : p = 2
  · subst h
    rw [if_pos rfl, show ((2 : Nat) : Int) = 2 by rfl, leg_two hq]
    unfold star
    by_cases c : q % 4 = 1
    · rw [if_pos c, if_neg (by omega)]
      by_cases c8 : q % 8 = 1
      · rw [if_pos (by omega), if_pos (by omega)]
      · rw [if_neg (by omega), if_neg (by omega)]
    · rw [if_neg c, if_neg (by omega)]
      by_cases c8 : q % 8 = 7
      · rw [if_pos (by omega), if_pos (by omega)]
      · rw [if_neg (by omega), if_neg (by omega)]
  · rw [if_neg h]
    have o := odd_of hp h
    by_cases e : p = q
    · subst e
      rw [(leg_zero (a := (p : Int)) (p := p)).mpr (Int.dvd_refl _), leg_zero]
      unfold star
      split
      · exact Int.dvd_refl _
      · exact Int.dvd_neg.mpr (Int.dvd_refl _)
    · have r := qr o hq e
      rw [star_par hq, leg_mul o]
      have n1 : ¬ (p : Int) ∣ q := fun z => e (hp.eq_of_dvd hq.pr (Int.natCast_dvd_natCast.mp z))
      have s := leg_sq o n1
      have key : leg (par ((q - 1) / 2)) p = par ((p - 1) / 2 * ((q - 1) / 2)) := by
        rcases Nat.mod_two_eq_zero_or_one ((q - 1) / 2) with z | z
        · rw [Nat.mul_comm, par_mul_even z]
          unfold par
          rw [if_pos z]
          exact leg_one o
        · rw [Nat.mul_comm, par_mul_odd z]
          have : par ((q - 1) / 2) = -1 := by
            unfold par
            rw [if_neg (by omega)]
          rw [this]
          exact leg_neg_one o
      rw [key, ← r]
      generalize leg (q : Int) p = x at *
      generalize leg (p : Int) q = y at *
      have : x * y * x = y * (x * x) := by grind
      rw [this, s, Int.mul_one]
theorem KR_star {q n : Nat} (hq : OddP q) (hn : 1 ≤ n) : KR (star q) n = leg n q := KR_of (F := fun n => leg n q) (leg_one hq) (fun m n _ _ => by
  show leg ((m * n : Nat) : Int) q = _
  rw [Int.natCast_mul]
  exact leg_mul hq) (fun p hp => chj_star hp hq) hn
theorem Per.star {q : Nat} (hq : OddP q) : Per (star q) q := fun n m hn hm e => by
  rw [KR_star hq hn, KR_star hq hm]
  exact leg_mod (by exact_mod_cast e)
theorem odd_star : ∀ m : Nat, m % 2 = 1 → ∃ s : Int, (s = m ∨ s = -m) ∧ s % 4 = 1 ∧ Per s m := by
  intro m
  induction m using Nat.strongRecOn with
  | ind m ih =>
    intro ho
    by_cases h1 : m = 1
    · subst h1
      exact ⟨1, .inl rfl, rfl, Per.one⟩
    · obtain ⟨p, hp, k, rfl⟩ := exists_prime m (by omega)
      have h2 := hp.1
      have po : p % 2 = 1 := by
        rcases Nat.mod_two_eq_zero_or_one p with z | z
        · rw [Nat.mul_mod, z] at ho
          simp at ho
        · exact z
      have ko : k % 2 = 1 := by
        rcases Nat.mod_two_eq_zero_or_one k with z | z
        · rw [Nat.mul_mod, z] at ho
          simp at ho
        · exact z
      have lt : k < p * k := by
        have : 2 * k ≤ p * k := Nat.mul_le_mul_right k h2
        omega
      obtain ⟨s, hs, s4, ps⟩ := ih k lt ko
      have o : OddP p := ⟨hp, po⟩
      refine ⟨NT.star p * s, ?_, ?_, (Per.star o).mul ps⟩
      · unfold NT.star
        push_cast
        split <;> rcases hs with rfl | rfl <;> grind
      · have e4 : NT.star p % 4 = 1 := by
          unfold NT.star
          split <;> omega
        rw [Int.mul_emod, e4, s4] <;> rfl
/-- fundamental discriminants and all others of their remainders -/
theorem KR_per {d : Int} (h : d % 4 = 1 ∨ (d % 4 = 0 ∧ (d / 4 % 4 = 2 ∨ d / 4 % 4 = 3))) : Per d d.natAbs := by
  rcases h with h | ⟨h0, h | h⟩
  · obtain ⟨s, hs, s4, ps⟩ := odd_star d.natAbs (by omega)
    have : s = d := by omega
    rwa [this] at ps
  · obtain ⟨k, rfl⟩ : ∃ k, d = 8 * k := ⟨d / 8, by omega⟩
    obtain ⟨s, hs, s4, ps⟩ := odd_star k.natAbs (by omega)
    have e8 : (8 * k).natAbs = 8 * k.natAbs := by omega
    rw [e8]
    rcases (by omega : s = k ∨ s = -k) with z | z
    · rw [← z] at ps ⊢
      exact Per.p8.mul ps
    · have : 8 * k = -8 * s := by omega
      rw [this]
      exact Per.m8.mul ps
  · obtain ⟨k, rfl⟩ : ∃ k, d = 4 * k := ⟨d / 4, by omega⟩
    obtain ⟨s, hs, s4, ps⟩ := odd_star k.natAbs (by omega)
    have e4 : (4 * k).natAbs = 4 * k.natAbs := by omega
    rw [e4]
    have : 4 * k = -4 * s := by omega
    rw [this]
    exact Per.m4.mul ps
end NT

set_option linter.all false
set_option maxRecDepth 100000
namespace NT
/-! the sign as a product over any list of primes -/
def mulL : List Int → Int
  | [] => 1
  | x :: l => x * mulL l
theorem mulL_append : ∀ a b : List Int, mulL (a ++ b) = mulL a * mulL b
  | [], b => by simp [mulL]
  | x :: a, b => by
    show x * mulL (a ++ b) = x * mulL a * mulL b
    rw [mulL_append a b, Int.mul_assoc]
theorem mulL_erase (x : Nat → Int) {q : Nat} : ∀ {ps : List Nat}, q ∈ ps → mulL (ps.map x) = x q * mulL ((ps.erase q).map x) ∧ ps.prod = q * (ps.erase q).prod
  | [], h => by cases h
  | p :: ps, h => by
    by_cases e : p = q
    · subst e
      rw [List.erase_cons_head]
      exact ⟨rfl, List.prod_cons⟩
    · have hm : q ∈ ps := by
        rcases List.mem_cons.mp h with z | z
        · exact absurd z.symm e
        · exact z
      obtain ⟨h1, h2⟩ := mulL_erase x hm
      rw [List.erase_cons_tail (by simpa using e)]
      constructor
      · show x p * mulL (ps.map x) = x q * (x p * mulL ((ps.erase q).map x))
        rw [h1]
        grind
      · rw [List.prod_cons, List.prod_cons, h2]
        grind
theorem prime_mem {p : Nat} (hp : IsP p) : ∀ {ps : List Nat}, (∀ q ∈ ps, IsP q) → p ∣ ps.prod → p ∈ ps
  | [], _, h => by
    have := Nat.le_of_dvd (by simp) h
    have := hp.1
    simp at *
    omega
  | q :: ps, hq, h => by
    rw [List.prod_cons] at h
    rcases hp.dvd_mul h with z | z
    · rw [hp.eq_of_dvd (hq q (List.mem_cons_self ..)) z]
      exact List.mem_cons_self ..
    · exact List.mem_cons_of_mem _ (prime_mem hp (fun r hr => hq r (List.mem_cons_of_mem _ hr)) z)
theorem prod_pos {ps : List Nat} (h : ∀ q ∈ ps, IsP q) : 1 ≤ ps.prod := by
  induction ps with
  | nil => simp
  | cons q ps ih =>
    rw [List.prod_cons]
    exact Nat.mul_pos (h q (List.mem_cons_self ..)).pos (ih fun r hr => h r (List.mem_cons_of_mem _ hr))
theorem Kr_primes {x : Nat → Int} : ∀ f n p (ps : List Nat), (∀ q ∈ ps, IsP q) → ps.prod = n → 2 ≤ p → (∀ d, 2 ≤ d → d < p → ¬ d ∣ n) → 2 * n ≤ f + p → Kr x f n p = mulL (ps.map x)
  | 0, n, p, ps, hps, hn, h2, no, hf => by
    have := prod_pos hps
    have n1 : n = 1 := by
      rcases Nat.lt_or_ge n 2 with z | z
      · omega
      · exact absurd (Nat.dvd_refl n) (no n z (by omega))
    have e : ps = [] := by
      cases ps with
      | nil => rfl
      | cons q ps =>
        rw [List.prod_cons] at hn
        have := (hps q (List.mem_cons_self ..)).1
        have := prod_pos fun r hr => hps r (List.mem_cons_of_mem _ hr)
        have := Nat.mul_le_mul (show 2 ≤ q by omega) (show 1 ≤ ps.prod by omega)
        omega
    subst e
    rfl
  | f + 1, n, p, ps, hps, hn, h2, no, hf => by
    have pos := prod_pos hps
    unfold Kr
    by_cases z : n ≤ 1
    · rw [if_pos z]
      have e : ps = [] := by
        cases ps with
        | nil => rfl
        | cons q ps =>
          rw [List.prod_cons] at hn
          have := (hps q (List.mem_cons_self ..)).1
          have := prod_pos fun r hr => hps r (List.mem_cons_of_mem _ hr)
          have := Nat.mul_le_mul (show 2 ≤ q by omega) (show 1 ≤ ps.prod by omega)
          omega
      subst e
      rfl
    · rw [if_neg z]
      have hle : p ≤ n := by
        rcases Nat.lt_or_ge n p with q | q
        · exact absurd (Nat.dvd_refl n) (no n (by omega) q)
        · exact q
      by_cases y : n % p = 0
      · rw [if_pos y]
        have hd := Nat.dvd_of_mod_eq_zero y
        have ip := least_prime h2 hd no
        have hq : n / p ∣ n := Nat.div_dvd_of_dvd hd
        have q2 : n / p ≤ n / 2 := Nat.div_le_div_left h2 (by omega)
        obtain ⟨e1, e2⟩ := mulL_erase x (prime_mem ip hps (by rw [hn]; exact hd))
        rw [Kr_primes f (n / p) p (ps.erase p) (fun q hq => hps q (List.mem_of_mem_erase hq)) (by rw [← hn, e2, Nat.mul_div_cancel_left _ (by omega)]) h2 (fun d a b c => no d a b (Nat.dvd_trans c hq)) (by omega), e1]
      · rw [if_neg y]
        refine Kr_primes f n (p + 1) ps hps hn (by omega) (fun d a b c => ?_) (by omega)
        by_cases e : d = p
        · subst e
          exact y (Nat.mod_eq_zero_of_dvd c)
        · exact no d a (by omega) c
theorem KR_primes (d : Int) {ps : List Nat} (h : ∀ q ∈ ps, IsP q) : KR d ps.prod = mulL (ps.map (chj d)) := Kr_primes _ _ 2 ps h rfl (by omega) (fun d a b => by omega) (by omega)
theorem has_primes : ∀ n : Nat, 1 ≤ n → ∃ ps : List Nat, (∀ q ∈ ps, IsP q) ∧ ps.prod = n := by
  intro n
  induction n using Nat.strongRecOn with
  | ind n ih =>
    intro hn
    by_cases h1 : n = 1
    · exact ⟨[], (fun _ h => by cases h), by rw [h1]; rfl⟩
    · obtain ⟨p, hp, k, rfl⟩ := exists_prime n (by omega)
      have h2 := hp.1
      have k1 : 1 ≤ k := by
        rcases Nat.eq_zero_or_pos k with z | z
        · subst z; simp at hn
        · exact z
      have := Nat.mul_le_mul_right k h2
      obtain ⟨ps, h3, h4⟩ := ih k (by omega) k1
      exact ⟨p :: ps, fun q hq => by
        rcases List.mem_cons.mp hq with rfl | hq
        · exact hp
        · exact h3 q hq, by rw [List.prod_cons, h4]⟩
/-- multiplied in the number -/
theorem KR_mulN (d : Int) {m n : Nat} (hm : 1 ≤ m) (hn : 1 ≤ n) : KR d (m * n) = KR d m * KR d n := by
  obtain ⟨ps, h1, rfl⟩ := has_primes m hm
  obtain ⟨qs, h2, rfl⟩ := has_primes n hn
  rw [← List.prod_append, KR_primes d (fun q hq => (List.mem_append.mp hq).elim (h1 q) (h2 q)), KR_primes d h1, KR_primes d h2, List.map_append, mulL_append]
theorem KR_prime (d : Int) {p : Nat} (hp : IsP p) : KR d p = chj d p := by
  have := KR_primes d (ps := [p]) (by simpa using hp)
  simpa [mulL] using this
theorem KR_1 (d : Int) : KR d 1 = 1 := KR_primes d (ps := []) (fun _ h => by cases h)
theorem KR_pow (d : Int) {p : Nat} (hp : IsP p) : ∀ c, KR d (p ^ c) = chj d p ^ c
  | 0 => by rw [Nat.pow_zero, Int.pow_zero]; exact KR_1 d
  | c + 1 => by
    rw [Nat.pow_succ, KR_mulN d (Nat.pow_pos hp.pos) hp.pos, KR_pow d hp c, KR_prime d hp, Int.pow_succ]
theorem KR_good (d : Int) {fs : List (Nat × Nat)} (h : ∀ f ∈ fs, IsP f.1) : KR d (prodL fs) = mulL (fs.map fun f => chj d f.1 ^ f.2) := by
  induction fs with
  | nil => exact KR_1 d
  | cons f fs ih =>
    have hp : ∀ gs : List (Nat × Nat), (∀ g ∈ gs, IsP g.1) → 1 ≤ prodL gs := by
      intro gs
      induction gs with
      | nil => intro _; exact Nat.le_refl _
      | cons g gs ih =>
        intro h
        show 1 ≤ g.1 ^ g.2 * prodL gs
        exact Nat.mul_pos (Nat.pow_pos (h g (List.mem_cons_self ..)).pos) (ih fun z hz => h z (List.mem_cons_of_mem _ hz))
    have h' : ∀ z ∈ fs, IsP z.1 := fun z hz => h z (List.mem_cons_of_mem _ hz)
    show KR d (f.1 ^ f.2 * prodL fs) = _ * mulL _
    rw [KR_mulN d (Nat.pow_pos (h f (List.mem_cons_self ..)).pos) (hp fs h'), KR_pow d (h f (List.mem_cons_self ..)), ih h']
theorem chj_cases (d : Int) (p : Nat) : chj d p = 0 ∨ chj d p = 1 ∨ chj d p = -1 := by
  unfold chj
  split
  · split
    · exact .inl rfl
    · split
      · exact .inr (.inl rfl)
      · exact .inr (.inr rfl)
  · exact leg_small d p
theorem KR_cases (d : Int) {n : Nat} (hn : 1 ≤ n) : KR d n = 0 ∨ KR d n = 1 ∨ KR d n = -1 := by
  obtain ⟨ps, h1, rfl⟩ := has_primes n hn
  rw [KR_primes d h1]
  induction ps with
  | nil => exact .inr (.inl rfl)
  | cons p ps ih => exact mul_small (chj_cases d p) (ih (fun q hq => h1 q (List.mem_cons_of_mem _ hq)) (prod_pos fun q hq => h1 q (List.mem_cons_of_mem _ hq)))
end NT

set_option Elab.async false
set_option linter.all false
set_option maxRecDepth 100000
set_option maxHeartbeats 1000000
namespace SX
open PySem PySem.Spec PyProof.Rows L2 NT
/-! ### comprehensions, generally -/
theorem lc_inv {α : Type} {G : Hq} {s : Src} {g : GF} {t : TF} {e : EF} {σ0 : Eq'} {p : Nat} {Q : Hq → Prop} (l : List α) (g1 : α → D) (J : Nat → List D → Hq → Prop)
    (src : ∀ k ys G', J k ys G' → s k G' = gives (l.map g1) k)
    (turn : ∀ k a ys G', l[k]? = some a → J k ys G' → wE (g (g1 a) σ0 G') fun σ1 G1 => wE (t σ1 G1) fun x G2 => if x = true then wE (e σ1 G2) fun y G3 => G3[p]? = some (.lst ys) ∧ ys.length < 16777216 ∧ J (k + 1) (ys ++ [y]) (G3.set p (.lst (ys ++ [y]))) else J (k + 1) ys G2)
    (start : J 0 [] G) (out : ∀ ys G', J l.length ys G' → Q G') : wC (lcL s (lcTurn g t e σ0 p) 0 G) Q := by
  refine wC_imp (lcL_run (l.map g1) (fun k G' => ∃ ys, J k ys G') (fun k G' ⟨ys, h⟩ => src k ys G' h) (fun k d G' hd ⟨ys, h⟩ => ?_) (l.map g1).length 0 G (by omega) ⟨[], start⟩) fun G' ⟨ys, h⟩ => by
    rw [List.length_map] at h
    exact out ys G' h
  rw [List.getElem?_map] at hd
  have hex : ∃ a, l[k]? = some a ∧ g1 a = d := Option.map_eq_some_iff.mp hd
  cases hex
  rename_i a hae
  rw [← hae.2, wC_turn]
  refine wE_imp (turn k a ys G' hae.1 h) fun σ1 G1 q => wE_imp q fun x G2 q => ?_
  by_cases hx : x = true
  · rw [if_pos hx] at q ⊢
    refine wE_imp q fun y G3 ⟨h1, h2, h3⟩ => ?_
    rw [wC_app h1 h2]
    exact ⟨_, h3⟩
  · rw [if_neg hx] at q ⊢
    exact ⟨ys, q⟩
/-- elements that may lay cells, of plain values -/
theorem lc_fr {α : Type} {G : Hq} {s : Src} {g : GF} {t : TF} {e : EF} {σ0 : Eq'} {Q : Hq → Prop} (l : List α) (g1 h : α → D) (p : α → Bool) (hlen : l.length ≤ 16777216)
    (src : ∀ k G', Fr [] G G' → s k G' = gives (l.map g1) k)
    (turn : ∀ a ∈ l, ∀ G', Fr [] G G' → wE (g (g1 a) σ0 G') fun σ1 G1 => wE (t σ1 G1) fun x G2 => x = p a ∧ Fr [] G' G2 ∧ (p a = true → wE (e σ1 G2) fun y G3 => y = h a ∧ Fr [] G' G3))
    (out : ∀ G', Fr [] G G' → G'[G.length]? = some (.lst ((l.filter p).map h)) → Q G') : wC (lcL s (lcTurn g t e σ0 G.length) 0 (G ++ [.lst []])) Q := by
  refine lc_inv l g1 (fun k ys G' => k ≤ l.length ∧ ys = ((l.take k).filter p).map h ∧ Fr [] G G' ∧ G'[G.length]? = some (.lst ys)) (fun k ys G' ⟨_, _, f, _⟩ => src k G' f) (fun k a ys G' ha ⟨hk, hy, f, hat⟩ => ?_) ⟨Nat.zero_le _, rfl, Fr.new, at_last⟩ fun ys G' ⟨_, hy, f, hat⟩ => by
    rw [List.take_length] at hy
    rw [hy] at hat
    exact out G' f hat
  have hk1 : k < l.length := (List.getElem?_eq_some_iff.mp ha).1
  have tk : l.take (k + 1) = l.take k ++ [a] := by
    rw [List.take_succ, ha] <;> rfl
  refine wE_imp (turn a (List.mem_of_getElem? ha) G' f) fun σ1 G1 q => wE_imp q fun x G2 ⟨ex, f2, q⟩ => ?_
  by_cases hp : p a = true
  · rw [if_pos (by rw [ex]; exact hp)]
    refine wE_imp (q hp) fun y G3 ⟨ey, f3⟩ => ?_
    subst ey
    have hat3 := f3.get hat (by simp)
    refine ⟨hat3, ?_, by omega, ?_, (f.trans f3).setNew (Nat.le_refl _), set_self hat3⟩
    · rw [hy, List.length_map]
      have h1 := List.length_filter_le p (l.take k)
      have h2 : (l.take k).length ≤ k := by
        rw [List.length_take]
        exact Nat.min_le_left _ _
      omega
    · rw [hy, tk, List.filter_append, List.map_append]
      simp [hp]
  · rw [if_neg (by rw [ex]; exact hp)]
    refine ⟨by omega, ?_, f.trans f2, f2.get hat (by simp)⟩
    rw [hy, tk, List.filter_append, List.map_append]
    simp [hp]
theorem filter_yes {α : Type} (l : List α) : l.filter (fun _ => true) = l := List.filter_eq_self.mpr fun _ _ => rfl
/-- the same without a test -/
theorem lc_frM {α : Type} {G : Hq} {s : Src} {g : GF} {e : EF} {σ0 : Eq'} {Q : Hq → Prop} (l : List α) (g1 h : α → D) (hlen : l.length ≤ 16777216)
    (src : ∀ k G', Fr [] G G' → s k G' = gives (l.map g1) k)
    (turn : ∀ a ∈ l, ∀ G', Fr [] G G' → wE (g (g1 a) σ0 G') fun σ1 G1 => wE (e σ1 G1) fun y G3 => y = h a ∧ Fr [] G' G3)
    (still : ∀ a ∈ l, ∀ G', Fr [] G G' → wE (g (g1 a) σ0 G') fun σ1 G1 => Fr [] G' G1)
    (out : ∀ G', Fr [] G G' → G'[G.length]? = some (.lst (l.map h)) → Q G') : wC (lcL s (lcTurn g yesT e σ0 G.length) 0 (G ++ [.lst []])) Q := by
  refine lc_fr l g1 h (fun _ => true) hlen src (fun a ha G' f => ?_) (fun G' f hat => out G' f (by rw [filter_yes] at hat; exact hat))
  have q := turn a ha G' f
  have r := still a ha G' f
  cases eg : g (g1 a) σ0 G' with
  | ok σ1 G1 =>
    rw [eg, wE_ok] at q r
    rw [wE_ok, wE_yes]
    exact ⟨rfl, r, fun _ => q⟩
  | ex _ _ _ => rw [eg] at q; exact q.elim
  | bad => rw [eg] at q; exact q.elim
/-! ### powers -/
theorem raised_sign {a : Int} {e : Nat} {G : Hq} (ha : a = 0 ∨ a = 1 ∨ a = -1) : raisedF [.int a, .int e] G = .ok (.int (a ^ e)) G := by
  refine wE_eq ?_
  unfold raisedF
  rw [wE_body]
  show wS (raisedB [some (.int a), some (.int e), none] G) _ _ _ _
  unfold raisedB
  simp only [wS_seq, wS_set, wE_c, List.set_cons_succ, List.set_cons_zero]
  refine wS_while (fun n σ G' => ∃ (f b : Int) (k : Nat), σ = [some (.int b), some (.int k), some (.int f)] ∧ G' = G ∧ (f = 0 ∨ f = 1 ∨ f = -1) ∧ (b = 0 ∨ b = 1 ∨ b = -1) ∧ f * b ^ k = a ^ e ∧ n = k) (fun n σ G' h => ?_) e _ G ⟨1, a, e, rfl, rfl, .inr (.inl rfl), ha, by rw [Int.one_mul], rfl⟩
  obtain ⟨f, b, k, rfl, rfl, hf, hb, hp, rfl⟩ := h
  have sm : ∀ x : Int, (x = 0 ∨ x = 1 ∨ x = -1) → x.natAbs < 2 ^ 400 := fun x h => by
    have : (1 : Nat) < 2 ^ 400 := Nat.one_lt_two_pow (by omega)
    omega
  simp only [wE_val, wE_bin, wE_varS, wE_var0, wE_c, cmpD_int, wE_ok, wE_toB, decide_eq_true_eq]
  by_cases hk : (0 : Int) < (n : Int)
  · rw [if_pos hk]
    have e2 : b ^ n = b ^ (n % 2) * (b * b) ^ (n / 2) := by
      have : b * b = b ^ 2 := by rw [Int.pow_succ, Int.pow_succ, Int.pow_zero, Int.one_mul]
      rw [this, ← Int.pow_mul, ← Int.pow_add]
      congr 1
      omega
    have ed : (n : Int) / 2 = ((n / 2 : Nat) : Int) := by omega
    have tail : ∀ (f' : Int), (f' = 0 ∨ f' = 1 ∨ f' = -1) → f' * (b * b) ^ (n / 2) = a ^ e → wS (seqC (augC 1 fdivD (cC (.int 2)))
            (ifS (valT (binC (cmpD fun i j => decide (j < i)) (varC 1) (cC (.int 0)))) (augC 0 imulD (varC 0)) passC) [some (.int b), some (.int n), some (.int f')] G')
            (fun σ' G'' => ∃ m, m < n ∧ ∃ (f b : Int) (k : Nat), σ' = [some (.int b), some (.int k), some (.int f)] ∧ G'' = G' ∧ (f = 0 ∨ f = 1 ∨ f = -1) ∧ (b = 0 ∨ b = 1 ∨ b = -1) ∧ f * b ^ k = a ^ e ∧ m = k) (fun v G'' => v = .int (a ^ e) ∧ G'' = G') (fun _ G'' => False) (fun σ' G'' => ∃ m, m < n ∧ ∃ (f b : Int) (k : Nat), σ' = [some (.int b), some (.int k), some (.int f)] ∧ G'' = G' ∧ (f = 0 ∨ f = 1 ∨ f = -1) ∧ (b = 0 ∨ b = 1 ∨ b = -1) ∧ f * b ^ k = a ^ e ∧ m = k) := by
      intro f' hf' hp'
      simp only [wS_seq, wS_augV, wE_varS, wE_var0, wE_c, fdivD_int (j := 2) (by omega) (by omega), wE_ok, List.set_cons_succ, List.set_cons_zero, wS_if, wE_val, wE_bin, cmpD_int, wE_toB, decide_eq_true_eq]
      rw [ed]
      by_cases hk2 : (0 : Int) < ((n / 2 : Nat) : Int)
      · rw [if_pos hk2, imulD_int (sm _ hb) (sm _ hb), wE_ok]
        exact ⟨n / 2, by omega, f', b * b, n / 2, by simp, rfl, hf', mul_small hb hb, hp', rfl⟩
      · rw [if_neg hk2, wS_pass]
        refine ⟨n / 2, by omega, f', b, n / 2, rfl, rfl, hf', hb, ?_, rfl⟩
        have z : n / 2 = 0 := by omega
        rw [z] at hp' ⊢
        simpa using hp'
    simp only [wS_seq (a := ifS _ _ _), wS_if, wE_val, wE_bin, wE_varS, wE_var0, wE_c, modD_int (j := 2) (by omega), wE_ok, eqD_int, wE_toB, Bool.false_eq_true, if_false, decide_eq_true_eq]
    by_cases ho : (n : Int) % 2 = 1
    · rw [if_pos ho, wS_augV]
      simp only [wE_varS, wE_var0, imulD_int (i := f) (j := b) (sm _ hf) (sm _ hb), wE_ok, List.set_cons_succ, List.set_cons_zero]
      have t := tail (f * b) (mul_small hf hb) (by
        rw [e2] at hp
        have z : n % 2 = 1 := by omega
        rw [z, Int.pow_succ, Int.pow_zero, Int.one_mul, ← Int.mul_assoc] at hp
        exact hp)
      refine wS_imp t (fun _ _ q => by simpa using q) (fun _ _ q => q) (fun _ _ q => q.elim) fun _ _ q => by simpa using q
    · rw [if_neg ho, wS_pass]
      have t := tail f hf (by
        rw [e2] at hp
        have z : n % 2 = 0 := by omega
        rw [z, Int.pow_zero, Int.one_mul] at hp
        exact hp)
      refine wS_imp t (fun _ _ q => q) (fun _ _ q => q) (fun _ _ q => q.elim) fun _ _ q => q
  · rw [if_neg hk]
    have z : n = 0 := by omega
    subst z
    rw [Int.pow_zero, Int.mul_one] at hp
    simp only [wS_ret, wE_varS, wE_var0]
    rw [hp]
    first | exact ⟨rfl, rfl⟩ | exact ⟨rfl, trivial⟩ | exact ⟨trivial, rfl⟩ | exact ⟨trivial, trivial⟩ | trivial | rfl | (simp; done)
/-! ### powers modulo -/
noncomputable def rmodB : SF :=
  (seqC (setC 3 (binC modD (cC (.int 1)) (varC 2)))
    (seqC (augC 0 modD (varC 2))
    (seqC (whileC (valT (binC (cmpD fun i j => decide (j < i)) (varC 1) (cC (.int 0)))) (seqC (ifS (valT (binC (eqD false) (binC modD (varC 1) (cC (.int 2))) (cC (.int 1)))) (setC 3 (binC modD (binC mulD (varC 3) (varC 0)) (varC 2))) passC)
    (seqC (augC 1 fdivD (cC (.int 2)))
    (setC 0 (binC modD (binC mulD (varC 0) (varC 0)) (varC 2))))))
    (retC (varC 3)))))
noncomputable def rmodF : FF := bodyC 4 rmodB
theorem rmod_ok {a : Int} {e m : Nat} {G : Hq} (hm : 1 ≤ m) (hb : m < 2 ^ 400) : rmodF [.int a, .int e, .int m] G = .ok (.int (((a % (m : Int)).toNat ^ e % m : Nat) : Int)) G := by
  refine wE_eq ?_
  unfold rmodF
  rw [wE_body]
  show wS (rmodB [some (.int a), some (.int e), some (.int m), none] G) _ _ _ _
  unfold rmodB
  have hr0 : 0 ≤ a % (m : Int) := Int.emod_nonneg _ (by omega)
  have hr1 : a % (m : Int) < m := Int.emod_lt_of_pos _ (by omega)
  have e1 : (1 : Int) % (m : Int) = ((1 % m : Nat) : Int) := by simp
  simp only [wS_seq, wS_set, wS_expr, wS_ret, wS_retN, wS_asg, wS_if, wS_pass, wS_break, wS_cont, wS_par, wS_par3, wS_augV, wS_for, wE_call, wE_fn, wE_consA, wE_nilA, wE_bin, wE_un, wE_tup, wE_lst, wE_c, wE_var0, wE_varS, wE_val, wE_truth, wE_toB, wE_andT, wE_orT, wE_notT, wE_ifC, wE_notC, wE_andK, wE_orK, wE_src, wE_iter, wE_meth, wE_gN, wE_gTp3, wE_gTp2, wE_gTp4, wE_gCs, wE_gNl, wE_gSub, wE_isK, isK_some, wE_isN, wE_chK, wE_ch3K, wE_lc, wE_yes, wE_ok, tfK_bl, List.set_cons_succ, List.set_cons_zero, List.append_nil, List.cons_append, List.nil_append, List.map_cons, List.map_nil, List.length_cons, List.length_nil, List.replicate, wipeD, addD_int, subD_int, iaddD_int, negD_int, cmpD_int, eqD_int, intD_int, int_bl, absD_int, truth_bl, truth_int, truth_non, truth_tup, isNon_non, isNon_int, isNon_tup, isNon_bl, isNon_str, isNon_ref, isB_bl, max_int, min_int, ixD_tup, atI_0, atI_1, atI_2, atI_3, oneD_some, len_tup, eqD_str, tyD_int, tyD_bl, tyD_non, tyD_str, tyD_tup, is_ii, is_ib, is_it, is_il, is_bi, is_bb, is_bt, is_bl, is_ni, is_nb, is_nt, is_nl, is_si, is_sb, is_st, is_sl, is_ti, is_tb, is_tt, is_tl, is_li, is_lb, is_lt, is_ll, if_true, if_false, Bool.not_true, Bool.not_false, Bool.false_eq_true, Bool.true_eq_false, reduceIte, reduceCtorEq, decide_eq_true_eq, modD_int (show (0 : Int) < (m : Int) by omega), e1]
  generalize a % (m : Int) = r at *
  obtain ⟨c, rfl⟩ : ∃ c : Nat, r = c := ⟨r.toNat, by omega⟩
  rw [Int.toNat_natCast]
  refine wS_while (fun n σ G' => ∃ f b k : Nat, σ = [some (.int b), some (.int k), some (.int m), some (.int f)] ∧ G' = G ∧ f < m ∧ b < m ∧ f * b ^ k % m = c ^ e % m ∧ n = k) (fun n σ G' h => ?_) e _ G ⟨1 % m, c, e, rfl, rfl, Nat.mod_lt _ (by omega), by omega, by rw [Nat.mod_mul_mod, Nat.one_mul], rfl⟩
  obtain ⟨f, b, k, rfl, rfl, hf, hb1, hp, rfl⟩ := h
  simp only [wS_seq, wS_set, wS_expr, wS_ret, wS_retN, wS_asg, wS_if, wS_pass, wS_break, wS_cont, wS_par, wS_par3, wS_augV, wS_for, wE_call, wE_fn, wE_consA, wE_nilA, wE_bin, wE_un, wE_tup, wE_lst, wE_c, wE_var0, wE_varS, wE_val, wE_truth, wE_toB, wE_andT, wE_orT, wE_notT, wE_ifC, wE_notC, wE_andK, wE_orK, wE_src, wE_iter, wE_meth, wE_gN, wE_gTp3, wE_gTp2, wE_gTp4, wE_gCs, wE_gNl, wE_gSub, wE_isK, isK_some, wE_isN, wE_chK, wE_ch3K, wE_lc, wE_yes, wE_ok, tfK_bl, List.set_cons_succ, List.set_cons_zero, List.append_nil, List.cons_append, List.nil_append, List.map_cons, List.map_nil, List.length_cons, List.length_nil, List.replicate, wipeD, addD_int, subD_int, iaddD_int, negD_int, cmpD_int, eqD_int, intD_int, int_bl, absD_int, truth_bl, truth_int, truth_non, truth_tup, isNon_non, isNon_int, isNon_tup, isNon_bl, isNon_str, isNon_ref, isB_bl, max_int, min_int, ixD_tup, atI_0, atI_1, atI_2, atI_3, oneD_some, len_tup, eqD_str, tyD_int, tyD_bl, tyD_non, tyD_str, tyD_tup, is_ii, is_ib, is_it, is_il, is_bi, is_bb, is_bt, is_bl, is_ni, is_nb, is_nt, is_nl, is_si, is_sb, is_st, is_sl, is_ti, is_tb, is_tt, is_tl, is_li, is_lb, is_lt, is_ll, if_true, if_false, Bool.not_true, Bool.not_false, Bool.false_eq_true, Bool.true_eq_false, reduceIte, reduceCtorEq, decide_eq_true_eq]
  by_cases hk : (0 : Int) < (n : Int)
  · rw [if_pos hk]
    have e2 : b ^ n = b ^ (n % 2) * (b * b) ^ (n / 2) := by
      have : b * b = b ^ 2 := by rw [Nat.pow_two]
      rw [this, ← Nat.pow_mul, ← Nat.pow_add]
      congr 1
      omega
    have ed : (n : Int) / 2 = ((n / 2 : Nat) : Int) := by omega
    have sm : ∀ x : Nat, x < m → Bd 400 (x : Int) := fun x hx => by
      show (x : Int).natAbs < _
      rw [Int.natAbs_natCast]
      omega
    have m2 : ∀ i : Int, modD (.int i) (.int 2) G' = .ok (.int (i % 2)) G' := fun i => modD_int (by omega)
    have mm : ∀ i : Int, modD (.int i) (.int m) G' = .ok (.int (i % m)) G' := fun i => modD_int (by omega)
    have d2 : ∀ i : Int, fdivD (.int i) (.int 2) G' = .ok (.int (i / 2)) G' := fun i => fdivD_int (by omega) (by decide)
    have mf := mulD_sb (G := G') (sm f hf) (sm b hb1)
    have mb := mulD_sb (G := G') (sm b hb1) (sm b hb1)
    have c1 : (f : Int) * b % m = ((f * b % m : Nat) : Int) := by push_cast; rfl
    have c2 : (b : Int) * b % m = ((b * b % m : Nat) : Int) := by push_cast; rfl
    have fin : ∀ f' : Nat, f' < m → f' * (b * b) ^ (n / 2) % m = c ^ e % m → ∃ z, z < n ∧ ∃ f1 b1 k1 : Nat, [some (D.int ((b * b % m : Nat) : Int)), some (.int ((n / 2 : Nat) : Int)), some (.int m), some (.int f')] = [some (.int b1), some (.int k1), some (.int m), some (.int f1)] ∧ True ∧ f1 < m ∧ b1 < m ∧ f1 * b1 ^ k1 % m = c ^ e % m ∧ z = k1 := fun f' h1 h2 =>
      ⟨n / 2, by omega, f', b * b % m, n / 2, rfl, trivial, h1, Nat.mod_lt _ (by omega), by rw [Nat.mul_mod, ← Nat.pow_mod, ← Nat.mul_mod]; exact h2, rfl⟩
    by_cases ho : (n : Int) % 2 = 1
    · simp only [wS_seq, wS_set, wS_expr, wS_ret, wS_retN, wS_asg, wS_if, wS_pass, wS_break, wS_cont, wS_par, wS_par3, wS_augV, wS_for, wE_call, wE_fn, wE_consA, wE_nilA, wE_bin, wE_un, wE_tup, wE_lst, wE_c, wE_var0, wE_varS, wE_val, wE_truth, wE_toB, wE_andT, wE_orT, wE_notT, wE_ifC, wE_notC, wE_andK, wE_orK, wE_src, wE_iter, wE_meth, wE_gN, wE_gTp3, wE_gTp2, wE_gTp4, wE_gCs, wE_gNl, wE_gSub, wE_isK, isK_some, wE_isN, wE_chK, wE_ch3K, wE_lc, wE_yes, wE_ok, tfK_bl, List.set_cons_succ, List.set_cons_zero, List.append_nil, List.cons_append, List.nil_append, List.map_cons, List.map_nil, List.length_cons, List.length_nil, List.replicate, wipeD, addD_int, subD_int, iaddD_int, negD_int, cmpD_int, eqD_int, intD_int, int_bl, absD_int, truth_bl, truth_int, truth_non, truth_tup, isNon_non, isNon_int, isNon_tup, isNon_bl, isNon_str, isNon_ref, isB_bl, max_int, min_int, ixD_tup, atI_0, atI_1, atI_2, atI_3, oneD_some, len_tup, eqD_str, tyD_int, tyD_bl, tyD_non, tyD_str, tyD_tup, is_ii, is_ib, is_it, is_il, is_bi, is_bb, is_bt, is_bl, is_ni, is_nb, is_nt, is_nl, is_si, is_sb, is_st, is_sl, is_ti, is_tb, is_tt, is_tl, is_li, is_lb, is_lt, is_ll, if_true, if_false, Bool.not_true, Bool.not_false, Bool.false_eq_true, Bool.true_eq_false, reduceIte, reduceCtorEq, decide_eq_true_eq, m2, ho, mf, mm, d2, mb, ed, c1, c2]
      refine fin (f * b % m) (Nat.mod_lt _ (by omega)) ?_
      rw [e2, show n % 2 = 1 by omega, Nat.pow_one, ← Nat.mul_assoc] at hp
      rw [Nat.mod_mul_mod]
      exact hp
    · simp only [wS_seq, wS_set, wS_expr, wS_ret, wS_retN, wS_asg, wS_if, wS_pass, wS_break, wS_cont, wS_par, wS_par3, wS_augV, wS_for, wE_call, wE_fn, wE_consA, wE_nilA, wE_bin, wE_un, wE_tup, wE_lst, wE_c, wE_var0, wE_varS, wE_val, wE_truth, wE_toB, wE_andT, wE_orT, wE_notT, wE_ifC, wE_notC, wE_andK, wE_orK, wE_src, wE_iter, wE_meth, wE_gN, wE_gTp3, wE_gTp2, wE_gTp4, wE_gCs, wE_gNl, wE_gSub, wE_isK, isK_some, wE_isN, wE_chK, wE_ch3K, wE_lc, wE_yes, wE_ok, tfK_bl, List.set_cons_succ, List.set_cons_zero, List.append_nil, List.cons_append, List.nil_append, List.map_cons, List.map_nil, List.length_cons, List.length_nil, List.replicate, wipeD, addD_int, subD_int, iaddD_int, negD_int, cmpD_int, eqD_int, intD_int, int_bl, absD_int, truth_bl, truth_int, truth_non, truth_tup, isNon_non, isNon_int, isNon_tup, isNon_bl, isNon_str, isNon_ref, isB_bl, max_int, min_int, ixD_tup, atI_0, atI_1, atI_2, atI_3, oneD_some, len_tup, eqD_str, tyD_int, tyD_bl, tyD_non, tyD_str, tyD_tup, is_ii, is_ib, is_it, is_il, is_bi, is_bb, is_bt, is_bl, is_ni, is_nb, is_nt, is_nl, is_si, is_sb, is_st, is_sl, is_ti, is_tb, is_tt, is_tl, is_li, is_lb, is_lt, is_ll, if_true, if_false, Bool.not_true, Bool.not_false, Bool.false_eq_true, Bool.true_eq_false, reduceIte, reduceCtorEq, decide_eq_true_eq, m2, ho, mf, mm, d2, mb, ed, c1, c2]
      refine fin f hf ?_
      rw [e2, show n % 2 = 0 by omega, Nat.pow_zero, Nat.one_mul] at hp
      exact hp
  · rw [if_neg hk]
    have z : n = 0 := by omega
    subst z
    rw [Nat.pow_zero, Nat.mul_one, Nat.mod_eq_of_lt hf] at hp
    rw [hp]
    first | exact ⟨rfl, rfl⟩ | exact ⟨rfl, trivial⟩ | exact ⟨trivial, rfl⟩ | exact ⟨trivial, trivial⟩ | trivial | rfl | (simp; done)
/-! ### the sign at a prime, the sign -/
noncomputable def satpB : SF :=
  (seqC (ifS (valT (binC (eqD false) (binC modD (varC 0) (varC 1)) (cC (.int 0)))) (retC (cC (.int 0))) passC)
    (seqC (ifS (valT (binC (eqD false) (varC 1) (cC (.int 2)))) (retC (ifC (valT (binC (eqD false) (binC modD (varC 0) (cC (.int 8))) (cC (.int 1)))) (cC (.int 1)) (unC negD (cC (.int 1))))) passC)
    (retC (ifC (valT (binC (eqD false) (fnC rmodF [] (consA (varC 0) (consA (binC fdivD (binC subD (varC 1) (cC (.int 1))) (cC (.int 2))) (consA (varC 1) nilA)))) (cC (.int 1)))) (cC (.int 1)) (unC negD (cC (.int 1)))))))
noncomputable def satpF : FF := bodyC 2 satpB
theorem satp_ok {d : Int} {p : Nat} {G : Hq} (hp : IsP p) (hb : p < 2 ^ 400) (hd : d % 4 = 0 ∨ d % 4 = 1) : satpF [.int d, .int p] G = .ok (.int (chj d p)) G := by
  refine wE_eq ?_
  unfold satpF
  rw [wE_body]
  show wS (satpB [some (.int d), some (.int p)] G) _ _ _ _
  unfold satpB
  have h2 := hp.1
  have mp : modD (.int d) (.int p) G = .ok (.int (d % p)) G := modD_int (by omega)
  have m8 : modD (.int d) (.int 8) G = .ok (.int (d % 8)) G := modD_int (by omega)
  by_cases h0 : d % (p : Int) = 0
  · simp only [wS_seq, wS_set, wS_expr, wS_ret, wS_retN, wS_asg, wS_if, wS_pass, wS_break, wS_cont, wS_par, wS_par3, wS_augV, wS_for, wE_call, wE_fn, wE_consA, wE_nilA, wE_bin, wE_un, wE_tup, wE_lst, wE_c, wE_var0, wE_varS, wE_val, wE_truth, wE_toB, wE_andT, wE_orT, wE_notT, wE_ifC, wE_notC, wE_andK, wE_orK, wE_src, wE_iter, wE_meth, wE_gN, wE_gTp3, wE_gTp2, wE_gTp4, wE_gCs, wE_gNl, wE_gSub, wE_isK, isK_some, wE_isN, wE_chK, wE_ch3K, wE_lc, wE_yes, wE_ok, tfK_bl, List.set_cons_succ, List.set_cons_zero, List.append_nil, List.cons_append, List.nil_append, List.map_cons, List.map_nil, List.length_cons, List.length_nil, List.replicate, wipeD, addD_int, subD_int, iaddD_int, negD_int, cmpD_int, eqD_int, intD_int, int_bl, absD_int, truth_bl, truth_int, truth_non, truth_tup, isNon_non, isNon_int, isNon_tup, isNon_bl, isNon_str, isNon_ref, isB_bl, max_int, min_int, ixD_tup, atI_0, atI_1, atI_2, atI_3, oneD_some, len_tup, eqD_str, tyD_int, tyD_bl, tyD_non, tyD_str, tyD_tup, is_ii, is_ib, is_it, is_il, is_bi, is_bb, is_bt, is_bl, is_ni, is_nb, is_nt, is_nl, is_si, is_sb, is_st, is_sl, is_ti, is_tb, is_tt, is_tl, is_li, is_lb, is_lt, is_ll, if_true, if_false, Bool.not_true, Bool.not_false, Bool.false_eq_true, Bool.true_eq_false, reduceIte, reduceCtorEq, decide_eq_true_eq, mp, h0]
    have : chj d p = 0 := by
      unfold chj
      by_cases e : p = 2
      · subst e
        rw [if_pos rfl, if_pos (by simpa using h0)]
      · rw [if_neg e]
        exact leg_zero.mpr (Int.dvd_of_emod_eq_zero h0)
    rw [this]
    first | exact ⟨rfl, rfl⟩ | exact ⟨rfl, trivial⟩ | exact ⟨trivial, rfl⟩ | exact ⟨trivial, trivial⟩ | trivial | rfl | (simp; done)
  · by_cases e : p = 2
    · subst e
      have h1 : d % 2 ≠ 0 := h0
      have c : chj d 2 = if d % 8 = 1 then 1 else -1 := by
        unfold chj
        rw [if_pos rfl, if_neg h1]
        by_cases z : d % 8 = 1
        · rw [if_pos (.inl z), if_pos z]
        · rw [if_neg (by omega), if_neg z]
      rw [c]
      have mp2 : modD (.int d) (.int 2) G = .ok (.int (d % 2)) G := modD_int (by omega)
      rw [show ((2 : Nat) : Int) = 2 by rfl]
      by_cases z : d % 8 = 1
      · simp only [wS_seq, wS_set, wS_expr, wS_ret, wS_retN, wS_asg, wS_if, wS_pass, wS_break, wS_cont, wS_par, wS_par3, wS_augV, wS_for, wE_call, wE_fn, wE_consA, wE_nilA, wE_bin, wE_un, wE_tup, wE_lst, wE_c, wE_var0, wE_varS, wE_val, wE_truth, wE_toB, wE_andT, wE_orT, wE_notT, wE_ifC, wE_notC, wE_andK, wE_orK, wE_src, wE_iter, wE_meth, wE_gN, wE_gTp3, wE_gTp2, wE_gTp4, wE_gCs, wE_gNl, wE_gSub, wE_isK, isK_some, wE_isN, wE_chK, wE_ch3K, wE_lc, wE_yes, wE_ok, tfK_bl, List.set_cons_succ, List.set_cons_zero, List.append_nil, List.cons_append, List.nil_append, List.map_cons, List.map_nil, List.length_cons, List.length_nil, List.replicate, wipeD, addD_int, subD_int, iaddD_int, negD_int, cmpD_int, eqD_int, intD_int, int_bl, absD_int, truth_bl, truth_int, truth_non, truth_tup, isNon_non, isNon_int, isNon_tup, isNon_bl, isNon_str, isNon_ref, isB_bl, max_int, min_int, ixD_tup, atI_0, atI_1, atI_2, atI_3, oneD_some, len_tup, eqD_str, tyD_int, tyD_bl, tyD_non, tyD_str, tyD_tup, is_ii, is_ib, is_it, is_il, is_bi, is_bb, is_bt, is_bl, is_ni, is_nb, is_nt, is_nl, is_si, is_sb, is_st, is_sl, is_ti, is_tb, is_tt, is_tl, is_li, is_lb, is_lt, is_ll, if_true, if_false, Bool.not_true, Bool.not_false, Bool.false_eq_true, Bool.true_eq_false, reduceIte, reduceCtorEq, decide_eq_true_eq, mp2, h1, m8, z]
        first | exact ⟨rfl, rfl⟩ | exact ⟨rfl, trivial⟩ | exact ⟨trivial, rfl⟩ | exact ⟨trivial, trivial⟩ | trivial | rfl | (simp; done)
      · simp only [wS_seq, wS_set, wS_expr, wS_ret, wS_retN, wS_asg, wS_if, wS_pass, wS_break, wS_cont, wS_par, wS_par3, wS_augV, wS_for, wE_call, wE_fn, wE_consA, wE_nilA, wE_bin, wE_un, wE_tup, wE_lst, wE_c, wE_var0, wE_varS, wE_val, wE_truth, wE_toB, wE_andT, wE_orT, wE_notT, wE_ifC, wE_notC, wE_andK, wE_orK, wE_src, wE_iter, wE_meth, wE_gN, wE_gTp3, wE_gTp2, wE_gTp4, wE_gCs, wE_gNl, wE_gSub, wE_isK, isK_some, wE_isN, wE_chK, wE_ch3K, wE_lc, wE_yes, wE_ok, tfK_bl, List.set_cons_succ, List.set_cons_zero, List.append_nil, List.cons_append, List.nil_append, List.map_cons, List.map_nil, List.length_cons, List.length_nil, List.replicate, wipeD, addD_int, subD_int, iaddD_int, negD_int, cmpD_int, eqD_int, intD_int, int_bl, absD_int, truth_bl, truth_int, truth_non, truth_tup, isNon_non, isNon_int, isNon_tup, isNon_bl, isNon_str, isNon_ref, isB_bl, max_int, min_int, ixD_tup, atI_0, atI_1, atI_2, atI_3, oneD_some, len_tup, eqD_str, tyD_int, tyD_bl, tyD_non, tyD_str, tyD_tup, is_ii, is_ib, is_it, is_il, is_bi, is_bb, is_bt, is_bl, is_ni, is_nb, is_nt, is_nl, is_si, is_sb, is_st, is_sl, is_ti, is_tb, is_tt, is_tl, is_li, is_lb, is_lt, is_ll, if_true, if_false, Bool.not_true, Bool.not_false, Bool.false_eq_true, Bool.true_eq_false, reduceIte, reduceCtorEq, decide_eq_true_eq, mp2, h1, m8, z]
        first | exact ⟨rfl, rfl⟩ | exact ⟨rfl, trivial⟩ | exact ⟨trivial, rfl⟩ | exact ⟨trivial, trivial⟩ | trivial | rfl | (simp; done)
    · have e' : ¬ (p : Int) = 2 := by omega
      have c : chj d p = if (d % (p : Int)).toNat ^ ((p - 1) / 2) % p = 1 then 1 else -1 := by
        unfold chj
        rw [if_neg e]
        unfold leg
        rw [if_neg h0]
      have hdv : fdivD (.int ((p : Int) - 1)) (.int 2) G = .ok (.int (((p - 1) / 2 : Nat) : Int)) G := by
        rw [fdivD_int (by omega) (by decide)]
        congr 2
        omega
      rw [c]
      have rr := rmod_ok (a := d) (e := (p - 1) / 2) (G := G) (show 1 ≤ p by omega) hb
      by_cases z : (d % (p : Int)).toNat ^ ((p - 1) / 2) % p = 1
      · have z' : (((d % (p : Int)).toNat ^ ((p - 1) / 2) % p : Nat) : Int) = 1 := by rw [z]; rfl
        simp only [wS_seq, wS_set, wS_expr, wS_ret, wS_retN, wS_asg, wS_if, wS_pass, wS_break, wS_cont, wS_par, wS_par3, wS_augV, wS_for, wE_call, wE_fn, wE_consA, wE_nilA, wE_bin, wE_un, wE_tup, wE_lst, wE_c, wE_var0, wE_varS, wE_val, wE_truth, wE_toB, wE_andT, wE_orT, wE_notT, wE_ifC, wE_notC, wE_andK, wE_orK, wE_src, wE_iter, wE_meth, wE_gN, wE_gTp3, wE_gTp2, wE_gTp4, wE_gCs, wE_gNl, wE_gSub, wE_isK, isK_some, wE_isN, wE_chK, wE_ch3K, wE_lc, wE_yes, wE_ok, tfK_bl, List.set_cons_succ, List.set_cons_zero, List.append_nil, List.cons_append, List.nil_append, List.map_cons, List.map_nil, List.length_cons, List.length_nil, List.replicate, wipeD, addD_int, subD_int, iaddD_int, negD_int, cmpD_int, eqD_int, intD_int, int_bl, absD_int, truth_bl, truth_int, truth_non, truth_tup, isNon_non, isNon_int, isNon_tup, isNon_bl, isNon_str, isNon_ref, isB_bl, max_int, min_int, ixD_tup, atI_0, atI_1, atI_2, atI_3, oneD_some, len_tup, eqD_str, tyD_int, tyD_bl, tyD_non, tyD_str, tyD_tup, is_ii, is_ib, is_it, is_il, is_bi, is_bb, is_bt, is_bl, is_ni, is_nb, is_nt, is_nl, is_si, is_sb, is_st, is_sl, is_ti, is_tb, is_tt, is_tl, is_li, is_lb, is_lt, is_ll, if_true, if_false, Bool.not_true, Bool.not_false, Bool.false_eq_true, Bool.true_eq_false, reduceIte, reduceCtorEq, decide_eq_true_eq, mp, h0, e', hdv, rr, z', z]
        first | exact ⟨rfl, rfl⟩ | exact ⟨rfl, trivial⟩ | exact ⟨trivial, rfl⟩ | exact ⟨trivial, trivial⟩ | trivial | rfl | (simp; done)
      · have z' : ¬ (((d % (p : Int)).toNat ^ ((p - 1) / 2) % p : Nat) : Int) = 1 := by omega
        simp only [wS_seq, wS_set, wS_expr, wS_ret, wS_retN, wS_asg, wS_if, wS_pass, wS_break, wS_cont, wS_par, wS_par3, wS_augV, wS_for, wE_call, wE_fn, wE_consA, wE_nilA, wE_bin, wE_un, wE_tup, wE_lst, wE_c, wE_var0, wE_varS, wE_val, wE_truth, wE_toB, wE_andT, wE_orT, wE_notT, wE_ifC, wE_notC, wE_andK, wE_orK, wE_src, wE_iter, wE_meth, wE_gN, wE_gTp3, wE_gTp2, wE_gTp4, wE_gCs, wE_gNl, wE_gSub, wE_isK, isK_some, wE_isN, wE_chK, wE_ch3K, wE_lc, wE_yes, wE_ok, tfK_bl, List.set_cons_succ, List.set_cons_zero, List.append_nil, List.cons_append, List.nil_append, List.map_cons, List.map_nil, List.length_cons, List.length_nil, List.replicate, wipeD, addD_int, subD_int, iaddD_int, negD_int, cmpD_int, eqD_int, intD_int, int_bl, absD_int, truth_bl, truth_int, truth_non, truth_tup, isNon_non, isNon_int, isNon_tup, isNon_bl, isNon_str, isNon_ref, isB_bl, max_int, min_int, ixD_tup, atI_0, atI_1, atI_2, atI_3, oneD_some, len_tup, eqD_str, tyD_int, tyD_bl, tyD_non, tyD_str, tyD_tup, is_ii, is_ib, is_it, is_il, is_bi, is_bb, is_bt, is_bl, is_ni, is_nb, is_nt, is_nl, is_si, is_sb, is_st, is_sl, is_ti, is_tb, is_tt, is_tl, is_li, is_lb, is_lt, is_ll, if_true, if_false, Bool.not_true, Bool.not_false, Bool.false_eq_true, Bool.true_eq_false, reduceIte, reduceCtorEq, decide_eq_true_eq, mp, h0, e', hdv, rr, z', z]
        first | exact ⟨rfl, rfl⟩ | exact ⟨rfl, trivial⟩ | exact ⟨trivial, rfl⟩ | exact ⟨trivial, trivial⟩ | trivial | rfl | (simp; done)
noncomputable def signB : SF :=
  (seqC (setC 2 (cC (.int 1)))
    (seqC (ifS (valT (binC (eqD true) (varC 0) (cC (.int 1)))) (forC (iterC (fnC primesF [] (consA (varC 1) nilA))) (gTp 2 (gCs (gN 3) (gCs (gN 4) gNl))) (augC 2 imulD (fnC raisedF [] (consA (fnC satpF [] (consA (varC 0) (consA (varC 3) nilA))) (consA (varC 4) nilA))))) passC)
    (retC (varC 2))))
noncomputable def signF : FF := bodyC 5 signB
theorem sign_ok {d : Int} {n : Nat} {G : Hq} (h1 : 1 ≤ n) (hb : n < 2 ^ 200) (hd : d % 4 = 0 ∨ d % 4 = 1) : ∃ G', signF [.int d, .int n] G = .ok (.int (KR d n)) G' ∧ Fr [] G G' := by
  have goal : wE (signF [.int d, .int n] G) fun v G' => v = .int (KR d n) ∧ Fr [] G G' := by
    unfold signF
    rw [wE_body]
    show wS (signB [some (.int d), some (.int n), none, none, none] G) _ _ _ _
    unfold signB
    rw [wS_seq]
    simp only [wS_seq, wS_set, wS_expr, wS_ret, wS_retN, wS_asg, wS_if, wS_pass, wS_break, wS_cont, wS_par, wS_par3, wS_augV, wS_for, wE_call, wE_fn, wE_consA, wE_nilA, wE_bin, wE_un, wE_tup, wE_lst, wE_c, wE_var0, wE_varS, wE_val, wE_truth, wE_toB, wE_andT, wE_orT, wE_notT, wE_ifC, wE_notC, wE_andK, wE_orK, wE_src, wE_iter, wE_meth, wE_gN, wE_gTp3, wE_gTp2, wE_gTp4, wE_gCs, wE_gNl, wE_gSub, wE_isK, isK_some, wE_isN, wE_chK, wE_ch3K, wE_lc, wE_yes, wE_ok, tfK_bl, List.set_cons_succ, List.set_cons_zero, List.append_nil, List.cons_append, List.nil_append, List.map_cons, List.map_nil, List.length_cons, List.length_nil, List.replicate, wipeD, addD_int, subD_int, iaddD_int, negD_int, cmpD_int, eqD_int, intD_int, int_bl, absD_int, truth_bl, truth_int, truth_non, truth_tup, isNon_non, isNon_int, isNon_tup, isNon_bl, isNon_str, isNon_ref, isB_bl, max_int, min_int, ixD_tup, atI_0, atI_1, atI_2, atI_3, oneD_some, len_tup, eqD_str, tyD_int, tyD_bl, tyD_non, tyD_str, tyD_tup, is_ii, is_ib, is_it, is_il, is_bi, is_bb, is_bt, is_bl, is_ni, is_nb, is_nt, is_nl, is_si, is_sb, is_st, is_sl, is_ti, is_tb, is_tt, is_tl, is_li, is_lb, is_lt, is_ll, if_true, if_false, Bool.not_true, Bool.not_false, Bool.false_eq_true, Bool.true_eq_false, reduceIte, reduceCtorEq, decide_eq_true_eq]
    by_cases e : d = 1
    · subst e
      simp only [wS_seq, wS_set, wS_expr, wS_ret, wS_retN, wS_asg, wS_if, wS_pass, wS_break, wS_cont, wS_par, wS_par3, wS_augV, wS_for, wE_call, wE_fn, wE_consA, wE_nilA, wE_bin, wE_un, wE_tup, wE_lst, wE_c, wE_var0, wE_varS, wE_val, wE_truth, wE_toB, wE_andT, wE_orT, wE_notT, wE_ifC, wE_notC, wE_andK, wE_orK, wE_src, wE_iter, wE_meth, wE_gN, wE_gTp3, wE_gTp2, wE_gTp4, wE_gCs, wE_gNl, wE_gSub, wE_isK, isK_some, wE_isN, wE_chK, wE_ch3K, wE_lc, wE_yes, wE_ok, tfK_bl, List.set_cons_succ, List.set_cons_zero, List.append_nil, List.cons_append, List.nil_append, List.map_cons, List.map_nil, List.length_cons, List.length_nil, List.replicate, wipeD, addD_int, subD_int, iaddD_int, negD_int, cmpD_int, eqD_int, intD_int, int_bl, absD_int, truth_bl, truth_int, truth_non, truth_tup, isNon_non, isNon_int, isNon_tup, isNon_bl, isNon_str, isNon_ref, isB_bl, max_int, min_int, ixD_tup, atI_0, atI_1, atI_2, atI_3, oneD_some, len_tup, eqD_str, tyD_int, tyD_bl, tyD_non, tyD_str, tyD_tup, is_ii, is_ib, is_it, is_il, is_bi, is_bb, is_bt, is_bl, is_ni, is_nb, is_nt, is_nl, is_si, is_sb, is_st, is_sl, is_ti, is_tb, is_tt, is_tl, is_li, is_lb, is_lt, is_ll, if_true, if_false, Bool.not_true, Bool.not_false, Bool.false_eq_true, Bool.true_eq_false, reduceIte, reduceCtorEq, decide_eq_true_eq]
      exact ⟨by rw [KR_one h1], Fr.refl⟩
    · obtain ⟨fs, ep, hg, hpr, _⟩ := primes_ok (G := G) h1 hb
      have hat : (G ++ [SX.C.lst (fs.map pcD)])[G.length]? = some (.lst (fs.map pcD)) := at_last
      simp only [wS_seq, wS_set, wS_expr, wS_ret, wS_retN, wS_asg, wS_if, wS_pass, wS_break, wS_cont, wS_par, wS_par3, wS_augV, wS_for, wE_call, wE_fn, wE_consA, wE_nilA, wE_bin, wE_un, wE_tup, wE_lst, wE_c, wE_var0, wE_varS, wE_val, wE_truth, wE_toB, wE_andT, wE_orT, wE_notT, wE_ifC, wE_notC, wE_andK, wE_orK, wE_src, wE_iter, wE_meth, wE_gN, wE_gTp3, wE_gTp2, wE_gTp4, wE_gCs, wE_gNl, wE_gSub, wE_isK, isK_some, wE_isN, wE_chK, wE_ch3K, wE_lc, wE_yes, wE_ok, tfK_bl, List.set_cons_succ, List.set_cons_zero, List.append_nil, List.cons_append, List.nil_append, List.map_cons, List.map_nil, List.length_cons, List.length_nil, List.replicate, wipeD, addD_int, subD_int, iaddD_int, negD_int, cmpD_int, eqD_int, intD_int, int_bl, absD_int, truth_bl, truth_int, truth_non, truth_tup, isNon_non, isNon_int, isNon_tup, isNon_bl, isNon_str, isNon_ref, isB_bl, max_int, min_int, ixD_tup, atI_0, atI_1, atI_2, atI_3, oneD_some, len_tup, eqD_str, tyD_int, tyD_bl, tyD_non, tyD_str, tyD_tup, is_ii, is_ib, is_it, is_il, is_bi, is_bb, is_bt, is_bl, is_ni, is_nb, is_nt, is_nl, is_si, is_sb, is_st, is_sl, is_ti, is_tb, is_tt, is_tl, is_li, is_lb, is_lt, is_ll, if_true, if_false, Bool.not_true, Bool.not_false, Bool.false_eq_true, Bool.true_eq_false, reduceIte, reduceCtorEq, decide_eq_true_eq, e, ep, iterD_ref (lstOf_lst hat)]
      refine wS_forLs (fs.map pcD) (fun k σ G' => ∃ x3 x4, σ = [some (.int d), some (.int n), some (.int (mulL ((fs.take k).map fun f => chj d f.1 ^ f.2))), x3, x4] ∧ G' = G ++ [SX.C.lst (fs.map pcD)])
        ⟨none, none, rfl, rfl⟩ (fun k σ G' ⟨_, _, _, hG⟩ => by rw [hG]; exact lstOf_lst hat) (fun k x σ G' hx hI => ?_) (fun σ G' hI => ?_)
      · obtain ⟨x3, x4, rfl, rfl⟩ := hI
        rw [List.getElem?_map] at hx
        obtain ⟨f, hf, rfl⟩ := Option.map_eq_some_iff.mp hx
        obtain ⟨p, c⟩ := f
        have hm := List.mem_of_getElem? hf
        have hp := (hg.pr _ hm).1
        have hle : p < 2 ^ 400 := by
          have h3 := (good_bits hg hm).2.1
          rw [hpr] at h3
          have : (2 : Nat) ^ 200 ≤ 2 ^ 400 := Nat.pow_le_pow_right (by omega) (by omega)
          omega
        have tk : fs.take (k + 1) = fs.take k ++ [(p, c)] := by
          rw [List.take_succ, hf] <;> rfl
        have sm : ∀ l : List (Nat × Nat), mulL (l.map fun f => chj d f.1 ^ f.2) = 0 ∨ mulL (l.map fun f => chj d f.1 ^ f.2) = 1 ∨ mulL (l.map fun f => chj d f.1 ^ f.2) = -1 := by
          intro l
          induction l with
          | nil => exact .inr (.inl rfl)
          | cons f l ih =>
            refine mul_small ?_ ih
            have : ∀ (x : Int) (c : Nat), (x = 0 ∨ x = 1 ∨ x = -1) → (x ^ c = 0 ∨ x ^ c = 1 ∨ x ^ c = -1) := by
              intro x c hx
              induction c with
              | zero => exact .inr (.inl (Int.pow_zero x))
              | succ c ih => rw [Int.pow_succ]; exact mul_small ih hx
            exact this _ _ (chj_cases d f.1)
        have b1 : Bd 400 (mulL ((fs.take k).map fun f => chj d f.1 ^ f.2)) := by
          have : (1 : Nat) < 2 ^ 400 := Nat.one_lt_two_pow (by omega)
          have := sm (fs.take k)
          unfold Bd
          omega
        have b2 : Bd 400 (chj d p ^ c) := by
          have : (1 : Nat) < 2 ^ 400 := Nat.one_lt_two_pow (by omega)
          have := sm [(p, c)]
          simp only [List.map_cons, List.map_nil, mulL, Int.mul_one] at this
          unfold Bd
          omega
        show wE (gTp 2 (gCs (gN 3) (gCs (gN 4) gNl)) (.tup [.int p, .int c]) _ _) _
        simp only [wS_seq, wS_set, wS_expr, wS_ret, wS_retN, wS_asg, wS_if, wS_pass, wS_break, wS_cont, wS_par, wS_par3, wS_augV, wS_for, wE_call, wE_fn, wE_consA, wE_nilA, wE_bin, wE_un, wE_tup, wE_lst, wE_c, wE_var0, wE_varS, wE_val, wE_truth, wE_toB, wE_andT, wE_orT, wE_notT, wE_ifC, wE_notC, wE_andK, wE_orK, wE_src, wE_iter, wE_meth, wE_gN, wE_gTp3, wE_gTp2, wE_gTp4, wE_gCs, wE_gNl, wE_gSub, wE_isK, isK_some, wE_isN, wE_chK, wE_ch3K, wE_lc, wE_yes, wE_ok, tfK_bl, List.set_cons_succ, List.set_cons_zero, List.append_nil, List.cons_append, List.nil_append, List.map_cons, List.map_nil, List.length_cons, List.length_nil, List.replicate, wipeD, addD_int, subD_int, iaddD_int, negD_int, cmpD_int, eqD_int, intD_int, int_bl, absD_int, truth_bl, truth_int, truth_non, truth_tup, isNon_non, isNon_int, isNon_tup, isNon_bl, isNon_str, isNon_ref, isB_bl, max_int, min_int, ixD_tup, atI_0, atI_1, atI_2, atI_3, oneD_some, len_tup, eqD_str, tyD_int, tyD_bl, tyD_non, tyD_str, tyD_tup, is_ii, is_ib, is_it, is_il, is_bi, is_bb, is_bt, is_bl, is_ni, is_nb, is_nt, is_nl, is_si, is_sb, is_st, is_sl, is_ti, is_tb, is_tt, is_tl, is_li, is_lb, is_lt, is_ll, if_true, if_false, Bool.not_true, Bool.not_false, Bool.false_eq_true, Bool.true_eq_false, reduceIte, reduceCtorEq, decide_eq_true_eq, satp_ok hp hle hd, raised_sign (chj_cases d p), imulD_sb b1 b2]
        refine ⟨some (.int p), some (.int c), ?_, trivial⟩
        rw [tk, List.map_append, mulL_append]
        simp [mulL]
      · obtain ⟨x3, x4, rfl, rfl⟩ := hI
        rw [List.length_map, List.take_length, ← KR_good d fun f hf => (hg.pr f hf).1, hpr]
        simp only [wS_seq, wS_set, wS_expr, wS_ret, wS_retN, wS_asg, wS_if, wS_pass, wS_break, wS_cont, wS_par, wS_par3, wS_augV, wS_for, wE_call, wE_fn, wE_consA, wE_nilA, wE_bin, wE_un, wE_tup, wE_lst, wE_c, wE_var0, wE_varS, wE_val, wE_truth, wE_toB, wE_andT, wE_orT, wE_notT, wE_ifC, wE_notC, wE_andK, wE_orK, wE_src, wE_iter, wE_meth, wE_gN, wE_gTp3, wE_gTp2, wE_gTp4, wE_gCs, wE_gNl, wE_gSub, wE_isK, isK_some, wE_isN, wE_chK, wE_ch3K, wE_lc, wE_yes, wE_ok, tfK_bl, List.set_cons_succ, List.set_cons_zero, List.append_nil, List.cons_append, List.nil_append, List.map_cons, List.map_nil, List.length_cons, List.length_nil, List.replicate, wipeD, addD_int, subD_int, iaddD_int, negD_int, cmpD_int, eqD_int, intD_int, int_bl, absD_int, truth_bl, truth_int, truth_non, truth_tup, isNon_non, isNon_int, isNon_tup, isNon_bl, isNon_str, isNon_ref, isB_bl, max_int, min_int, ixD_tup, atI_0, atI_1, atI_2, atI_3, oneD_some, len_tup, eqD_str, tyD_int, tyD_bl, tyD_non, tyD_str, tyD_tup, is_ii, is_ib, is_it, is_il, is_bi, is_bb, is_bt, is_bl, is_ni, is_nb, is_nt, is_nl, is_si, is_sb, is_st, is_sl, is_ti, is_tb, is_tt, is_tl, is_li, is_lb, is_lt, is_ll, if_true, if_false, Bool.not_true, Bool.not_false, Bool.false_eq_true, Bool.true_eq_false, reduceIte, reduceCtorEq, decide_eq_true_eq]
        exact ⟨trivial, Fr.new⟩
  obtain ⟨v, G', e, rfl, h⟩ := wE_get goal
  exact ⟨G', e, h⟩
end SX

set_option Elab.async false
set_option linter.all false
set_option maxRecDepth 100000
set_option maxHeartbeats 1000000
namespace SX
open PySem PySem.Spec PyProof.Rows L2 NT
/-! ### values that show: how a value reads, k its depth, s its length at most -/
structure Shw (G : Hq) (x : D) (a : PyData) (k s : Nat) : Prop where
  py : ∀ n, k ≤ n → toPy G n x = some a
  fine : fineP a = true
  dep : a.depth ≤ k
  sz : szP a ≤ s
  lay : a.canLay0 = true
structure ShwL (G : Hq) (xs : List D) (as : List PyData) (k s : Nat) : Prop where
  py : ∀ n, k ≤ n → toPyL (toPy G n) xs = some as
  fine : finePs as = true
  dep : PyData.depthAll as ≤ k
  sz : szPs as ≤ s
  lay : PyData.canLayAll0 as = true
section
variable {G : Hq} {x y : D} {a b : PyData} {xs : List D} {as : List PyData} {k l s t : Nat}
theorem Shw.int {i : Int} {b : Nat} (h : Bd b i) (hb : 0 < b ∧ b ≤ 1920) : Shw G (.int i) (.int i) 0 (b + 1) :=
  ⟨fun _ _ => toPy_int, fine_int h hb.2, by simp [PyData.depth], sz_int h hb.1, by simp [PyData.canLay0]⟩
theorem Shw.bl {b : Bool} : Shw G (.bl b) (.bool b) 0 5 := ⟨fun _ _ => toPy_bl, by simp [fineP], by simp [PyData.depth], by simp [szP], by simp [PyData.canLay0]⟩
theorem Shw.non : Shw G .non .none 0 4 := ⟨fun _ _ => toPy_non, by simp [fineP], by simp [PyData.depth], by simp [szP], by simp [PyData.canLay0]⟩
theorem Shw.str {x : Str} (h : (x.cps.toList.all fun c => decide (c < 1114112)) = true) (hs : x.cps.size ≤ 1000) : Shw G (.str x) (.str x) 0 10002 :=
  ⟨fun _ _ => toPy_str, by
    simp only [fineP]
    refine List.all_eq_true.mpr fun c hc => ?_
    have := of_decide_eq_true (List.all_eq_true.mp h c hc)
    exact decide_eq_true (by omega), by simp [PyData.depth], by simp only [szP]; omega, by
    simp only [PyData.canLay0]
    show x.cps.all (· < 0x110000) = true
    rw [← Array.all_toList]
    exact h⟩
theorem ShwL.nil : ShwL G [] [] 0 0 := ⟨fun _ _ => rfl, by simp [finePs], by simp [PyData.depthAll], by simp [szPs], by simp [PyData.canLayAll0]⟩
theorem ShwL.cons (h : Shw G x a k s) (r : ShwL G xs as l t) : ShwL G (x :: xs) (a :: as) (max k l) (s + 2 + t) :=
  ⟨fun n hn => toPyL_cons (h.py n (by omega)) (r.py n (by omega)), by simp only [finePs, h.fine, r.fine, Bool.and_self], by
    have := h.dep
    have := r.dep
    simp only [PyData.depthAll]
    omega, by
    have := h.sz
    have := r.sz
    simp only [szPs]
    omega, by simp only [PyData.canLayAll0, h.lay, r.lay, Bool.and_self]⟩
theorem Shw.tup (h : ShwL G xs as k s) : Shw G (.tup xs) (.tuple as) (k + 1) (s + 3) :=
  ⟨fun n hn => by
    obtain ⟨m, rfl⟩ : ∃ m, n = m + 1 := ⟨n - 1, by omega⟩
    exact toPy_tup (h.py m (by omega)), by simp only [fineP, h.fine], by
    have := h.dep
    simp only [PyData.depth]
    omega, by
    have := h.sz
    simp only [szP]
    omega, by simp only [PyData.canLay0, h.lay]⟩
theorem Shw.lst {p : Nat} (hp : G[p]? = some (.lst xs)) (h : ShwL G xs as k s) : Shw G (.ref p) (.list as) (k + 1) (s + 3) :=
  ⟨fun n hn => by
    obtain ⟨m, rfl⟩ : ∃ m, n = m + 1 := ⟨n - 1, by omega⟩
    exact toPy_lst hp (h.py m (by omega)), by simp only [fineP, h.fine], by
    have := h.dep
    simp only [PyData.depth]
    omega, by
    have := h.sz
    simp only [szP]
    omega, by simp only [PyData.canLay0, h.lay]⟩
theorem Shw.mono (h : Shw G x a k s) (hk : k ≤ l) (hs : s ≤ t) : Shw G x a l t := ⟨fun n hn => h.py n (by omega), h.fine, Nat.le_trans h.dep hk, Nat.le_trans h.sz hs, h.lay⟩
/-- a list of one make -/
theorem ShwL.map {α : Type} {g : α → D} {f : α → PyData} : ∀ {l : List α}, (∀ a ∈ l, Shw G (g a) (f a) k s) → ShwL G (l.map g) (l.map f) k ((s + 2) * l.length)
  | [], _ => ⟨fun _ _ => rfl, by simp [finePs], by simp [PyData.depthAll], by simp [szPs], by simp [PyData.canLayAll0]⟩
  | a :: l, h => by
    have h1 := h a (List.mem_cons_self ..)
    have h2 := ShwL.map (l := l) fun b hb => h b (List.mem_cons_of_mem _ hb)
    have := ShwL.cons h1 h2
    rw [Nat.max_self] at this
    refine ⟨this.py, this.fine, this.dep, Nat.le_trans this.sz ?_, this.lay⟩
    rw [List.length_cons, Nat.mul_add]
    omega
theorem Shw.ints {p : Nat} {l : List Int} {b : Nat} (hp : G[p]? = some (.lst (l.map D.int))) (h : ∀ i ∈ l, Bd b i) (hb : 0 < b ∧ b ≤ 1920) : Shw G (.ref p) (.list (l.map PyData.int)) 1 ((b + 3) * l.length + 3) :=
  Shw.lst hp (ShwL.map fun i hi => Shw.int (h i hi) hb)
theorem repr_shw (h : Shw G x a k s) (hk : k ≤ 24) (hs : s ≤ 16777216) : reprD [x] G = .ok (.str a.shown) G :=
  reprD_of (h.py 24 hk) h.fine (Nat.le_trans h.dep (by omega)) (Nat.le_trans h.sz hs)
theorem is_shw (h : Shw G x a k s) (h' : Shw G y a l t) (hk : k ≤ 24 ∧ l ≤ 24) (hs : s ≤ 16777216) : isF [x, y] G = .ok (.bl true) G :=
  is_same (h.py 24 hk.1) (h'.py 24 hk.2) h.fine (Nat.le_trans h.dep (by omega)) (Nat.le_trans h.sz hs)
theorem Shw.shaped (h : Shw G x a k s) (hk : k ≤ 24) : SeqAt.shaped a = true := by
  unfold SeqAt.shaped
  rw [h.lay, Bool.true_and]
  have := h.dep
  exact decide_eq_true (by omega)
/-- equal values are equal -/
theorem eq_shw {neg : Bool} (h : Shw G x a k s) (h' : Shw G y a l t) (hk : k ≤ 24 ∧ l ≤ 24) : eqD neg x y G = .ok (.bl (!neg)) G := by
  have main : eqD0 neg x y G = .ok (.bl (!neg)) G := by
    unfold eqD0
    rw [h.py 24 hk.1, h'.py 24 hk.2]
    show (if _ then _ else _) = _
    rw [if_pos ⟨h.shaped hk.1, h.shaped hk.1⟩, SeqAt.eqv_refl a h.lay]
    cases neg <;> rfl
  unfold eqD
  split
  · rename_i c d
    have e1 := h.py 24 hk.1
    have e2 := h'.py 24 hk.2
    rw [toPy_str] at e1 e2
    cases e1
    cases e2
    cases neg <;> simp
  · exact main
/-- values that may differ -/
theorem eq_shw2 {neg : Bool} (h : Shw G x a k s) (h' : Shw G y b l t) (hk : k ≤ 24 ∧ l ≤ 24) (ns : (∀ c, a ≠ .str c) ∨ ∀ c, b ≠ .str c) : eqD neg x y G = .ok (.bl (if neg then !PyData.eqv a b else PyData.eqv a b)) G := by
  have main : eqD0 neg x y G = .ok (.bl (if neg then !PyData.eqv a b else PyData.eqv a b)) G := by
    unfold eqD0
    rw [h.py 24 hk.1, h'.py 24 hk.2]
    show (if _ then _ else _) = _
    rw [if_pos ⟨h.shaped hk.1, h'.shaped hk.2⟩]
  unfold eqD
  split
  · have e1 := h.py 24 hk.1
    have e2 := h'.py 24 hk.2
    rw [toPy_str] at e1 e2
    cases e1
    cases e2
    rcases ns with q | q
    · exact absurd rfl (q _)
    · exact absurd rfl (q _)
  · exact main
noncomputable def sameB : SF := (retC (andC (binC (eqD false) (varC 0) (varC 1)) (binC (eqD false) (callC reprD (consA (varC 0) nilA)) (callC reprD (consA (varC 1) nilA)))))
noncomputable def sameF : FF := bodyC 2 sameB
theorem same_shw (h : Shw G x a k s) (h' : Shw G y a l t) (hk : k ≤ 24 ∧ l ≤ 24) (hs : s ≤ 16777216 ∧ t ≤ 16777216) : sameF [x, y] G = .ok (.bl true) G := by
  refine wE_eq ?_
  unfold sameF
  rw [wE_body]
  show wS (sameB [some x, some y] G) _ _ _ _
  unfold sameB
  simp only [wS_seq, wS_set, wS_expr, wS_ret, wS_retN, wS_asg, wS_if, wS_pass, wS_break, wS_cont, wS_par, wS_par3, wS_augV, wS_for, wE_call, wE_fn, wE_consA, wE_nilA, wE_bin, wE_un, wE_tup, wE_lst, wE_c, wE_var0, wE_varS, wE_val, wE_truth, wE_toB, wE_andT, wE_orT, wE_notT, wE_ifC, wE_notC, wE_andK, wE_orK, wE_src, wE_iter, wE_meth, wE_gN, wE_gTp3, wE_gTp2, wE_gTp4, wE_gCs, wE_gNl, wE_gSub, wE_isK, isK_some, wE_isN, wE_chK, wE_ch3K, wE_lc, wE_yes, wE_ok, tfK_bl, List.set_cons_succ, List.set_cons_zero, List.append_nil, List.cons_append, List.nil_append, List.map_cons, List.map_nil, List.length_cons, List.length_nil, List.replicate, wipeD, addD_int, subD_int, iaddD_int, negD_int, cmpD_int, eqD_int, intD_int, int_bl, absD_int, truth_bl, truth_int, truth_non, truth_tup, isNon_non, isNon_int, isNon_tup, isNon_bl, isNon_str, isNon_ref, isB_bl, max_int, min_int, ixD_tup, atI_0, atI_1, atI_2, atI_3, oneD_some, len_tup, eqD_str, tyD_int, tyD_bl, tyD_non, tyD_str, tyD_tup, is_ii, is_ib, is_it, is_il, is_bi, is_bb, is_bt, is_bl, is_ni, is_nb, is_nt, is_nl, is_si, is_sb, is_st, is_sl, is_ti, is_tb, is_tt, is_tl, is_li, is_lb, is_lt, is_ll, if_true, if_false, Bool.not_true, Bool.not_false, Bool.false_eq_true, Bool.true_eq_false, reduceIte, reduceCtorEq, decide_eq_true_eq, eq_shw h h' hk, repr_shw h hk.1 hs.1, repr_shw h' hk.2 hs.2, decide_true]
  first | exact ⟨rfl, rfl⟩ | exact ⟨rfl, trivial⟩ | exact ⟨trivial, rfl⟩ | exact ⟨trivial, trivial⟩ | trivial | rfl | (simp; done)
theorem isF_int {i : Int} {b : Nat} (h : Bd b i) (hb : 0 < b ∧ b ≤ 1920) : isF [.int i, .int i] G = .ok (.bl true) G := is_shw (Shw.int h hb) (Shw.int h hb) ⟨by omega, by omega⟩ (by omega)
theorem isF_bl {b : Bool} : isF [.bl b, .bl b] G = .ok (.bl true) G := is_shw Shw.bl Shw.bl ⟨by omega, by omega⟩ (by omega)
theorem pow10 {k : Nat} (h : k ≤ 60) : powD (.int 10) (.int k) G = .ok (.int (10 ^ k)) G := by
  show (if _ then _ else _) = _
  rw [if_pos ⟨by omega, by omega, by decide⟩]
  simp
theorem idx_of {p : Nat} {xs : List D} {i : Int} {d : D} (h : G[p]? = some (.lst xs)) (h0 : 0 ≤ i) (hd : xs[i.toNat]? = some d) : ixD (.ref p) (.int i) G = .ok d G := by
  rw [ixD_lst h, atI_of h0 hd, oneD_some]
theorem idx_nat {p : Nat} {xs : List D} {i : Nat} {d : D} (h : G[p]? = some (.lst xs)) (hd : xs[i]? = some d) : ixD (.ref p) (.int (i : Int)) G = .ok d G := idx_of h (by omega) (by rw [Int.toNat_natCast]; exact hd)
end
/-! ### the law's sign is the program's -/
theorem chi_chj {d : Int} {p : Nat} (hp : IsP p) : chi d p = chj d p := by
  have h2 := hp.1
  unfold chi chj
  by_cases e : p = 2
  · subst e
    rw [if_pos rfl, if_pos rfl]
    have c : d % 8 = 0 ∨ d % 8 = 1 ∨ d % 8 = 2 ∨ d % 8 = 3 ∨ d % 8 = 4 ∨ d % 8 = 5 ∨ d % 8 = 6 ∨ d % 8 = 7 := by omega
    have e2 : d % ((2 : Nat) : Int) = d % 8 % 2 := by
      rw [show ((2 : Nat) : Int) = 2 by rfl]
      omega
    have e3 : d % 2 = d % 8 % 2 := by omega
    rw [e2, e3]
    rcases c with z | z | z | z | z | z | z | z <;> rw [z] <;> decide
  · rw [if_neg e, if_neg e]
    have o := odd_of hp e
    by_cases h0 : d % (p : Int) = 0
    · rw [if_pos h0, leg_zero.mpr (Int.dvd_of_emod_eq_zero h0)]
    · rw [if_neg h0]
      unfold leg
      rw [if_neg h0]
      have r0 : 0 ≤ d % (p : Int) := Int.emod_nonneg _ (by omega)
      have r1 : d % (p : Int) < p := Int.emod_lt_of_pos _ (by omega)
      have hdv : (p : Int) ∣ d - d % p := Int.dvd_self_sub_emod
      have eu := euler hp (a := (d % (p : Int)).toNat) e (fun z => by
        have := Nat.le_of_dvd (by omega) z
        omega)
      have key : anySq d p = true ↔ (d % (p : Int)).toNat ^ ((p - 1) / 2) % p = 1 := by
        rw [eu]
        unfold anySq
        rw [List.any_eq_true]
        have mean : ∀ x : Nat, p ∣ x * x + (p - (d % (p : Int)).toNat % p) ↔ ((x : Int) * x - d) % (p : Int) = 0 := fun x => by
          rw [Nat.mod_eq_of_lt (by omega), ← Int.natCast_dvd_natCast, ← Int.dvd_iff_emod_eq_zero]
          have e1 : ((x * x + (p - (d % (p : Int)).toNat) : Nat) : Int) = (x : Int) * x - d + ((d - d % p) + p) := by
            rw [Int.natCast_add, Int.natCast_sub (by omega), Int.toNat_of_nonneg r0]
            push_cast
            omega
          rw [e1]
          exact Int.dvd_add_left (Int.dvd_add hdv (Int.dvd_refl _))
        constructor
        · rintro ⟨x, hx, h⟩
          obtain ⟨k, hk, rfl⟩ := List.mem_map.mp hx
          have hk := List.mem_range.mp hk
          refine ⟨k + 1, by omega, by omega, (mean (k + 1)).mpr (of_decide_eq_true h)⟩
        · rintro ⟨x, h1, h2, h3⟩
          exact ⟨x, List.mem_map.mpr ⟨x - 1, List.mem_range.mpr (by omega), by omega⟩, decide_eq_true ((mean x).mp h3)⟩
      by_cases z : anySq d p = true
      · rw [if_pos z, if_pos (key.mp z)]
      · rw [if_neg z, if_neg fun w => z (key.mpr w)]
theorem Kr_chi (d : Int) {n : Nat} (hn : 1 ≤ n) : Kr (chi d) (2 * n) n 2 = KR d n := by
  obtain ⟨ps, h1, rfl⟩ := has_primes n hn
  rw [KR_primes d h1, Kr_primes _ _ 2 ps h1 rfl (by omega) (fun d a b => by omega) (by omega)]
  congr 1
  exact List.map_congr_left fun p hp => chi_chj (h1 p hp)
theorem lsignK_ok {d : Int} {n : Nat} {G : Hq} (h1 : 1 ≤ n) (hn : n < 2 ^ 20) (hd : d.natAbs < 2 ^ 60) : ∃ G', lsignF [.int d, .int n] G = .ok (.int (KR d n)) G' ∧ Fr [] G G' := by
  obtain ⟨G', e, f⟩ := lsign_ok (d := d) (G := G) h1 hn hd
  refine ⟨G', ?_, f⟩
  rw [e]
  congr 2
  by_cases z : d = 1
  · rw [if_pos z, z, KR_one h1]
  · rw [if_neg z, Kr_chi d h1]
/-! ### discriminants -/
theorem isDB_cases {d : Int} (h : isDB d = true) : d ≠ 0 ∧ (d = 1 ∨ (d % 4 = 0 ∧ (d / 4 % 4 = 2 ∨ d / 4 % 4 = 3) ∧ Sqf (d / 4).natAbs) ∨ (d % 4 = 1 ∧ Sqf d.natAbs)) := by
  unfold isDB at h
  by_cases h0 : d = 0
  · rw [if_pos h0] at h
    cases h
  rw [if_neg h0] at h
  refine ⟨h0, ?_⟩
  by_cases h1 : d = 1
  · exact .inl h1
  rw [if_neg h1] at h
  by_cases h4 : d % 4 = 0
  · rw [if_pos h4] at h
    by_cases h23 : d / 4 % 4 = 2 ∨ d / 4 % 4 = 3
    · rw [if_pos h23] at h
      exact .inr (.inl ⟨h4, h23, (sqfB_iff (by omega)).mp h⟩)
    · rw [if_neg h23] at h
      cases h
  · rw [if_neg h4] at h
    by_cases h5 : d % 4 = 1
    · rw [if_pos h5] at h
      exact .inr (.inr ⟨h5, (sqfB_iff (by omega)).mp h⟩)
    · rw [if_neg h5] at h
      cases h
theorem isDB_rem {d : Int} (h : isDB d = true) : d % 4 = 1 ∨ (d % 4 = 0 ∧ (d / 4 % 4 = 2 ∨ d / 4 % 4 = 3)) := by
  obtain ⟨_, h1 | ⟨h4, h23, _⟩ | ⟨h5, _⟩⟩ := isDB_cases h
  · subst h1
    exact .inl rfl
  · exact .inr ⟨h4, h23⟩
  · exact .inl h5
noncomputable def issqfB : SF :=
  (retC (callC allD (consA (lcC (iterC (fnC primesF [] (consA (callC absD (consA (varC 0) nilA)) nilA))) (gTp 2 (gCs (gN 1) (gCs (gN 2) gNl))) yesT (binC (eqD false) (varC 2) (cC (.int 1))) [1, 2]) nilA)))
noncomputable def issqfF : FF := bodyC 3 issqfB
theorem issqf_ok {v : Int} {G : Hq} (h0 : v ≠ 0) (hb : v.natAbs < 2 ^ 200) : ∃ G', issqfF [.int v] G = .ok (.bl (sqfB v.natAbs)) G' ∧ Fr [] G G' := by
  have goal : wE (issqfF [.int v] G) fun r G' => r = .bl (sqfB v.natAbs) ∧ Fr [] G G' := by
    unfold issqfF
    rw [wE_body]
    show wS (issqfB [some (.int v), none, none] G) _ _ _ _
    unfold issqfB
    obtain ⟨fs, ep, hg, hpr, hl⟩ := primes_ok (n := v.natAbs) (G := G) (by omega) hb
    have hat : (G ++ [SX.C.lst (fs.map pcD)])[G.length]? = some (.lst (fs.map pcD)) := at_last
    have hl2 : fs.length ≤ 16777216 := by
      have : ∀ gs : List (Nat × Nat), Good gs → 2 ^ gs.length ≤ prodL gs := by
        intro gs hg
        induction gs with
        | nil => exact Nat.le_refl _
        | cons f gs ih =>
          have i := ih hg.tail
          have q := hg.pr f (List.mem_cons_self ..)
          have h2 : 2 ≤ f.1 ^ f.2 := by
            have := q.1.1
            have := Nat.pow_le_pow_right q.1.pos q.2
            rw [Nat.pow_one] at this
            omega
          rw [prodL_cons, List.length_cons, Nat.pow_succ, Nat.mul_comm]
          exact Nat.mul_le_mul h2 i
      have h3 := this fs hg
      rw [hpr] at h3
      rcases Nat.lt_or_ge fs.length 200 with z | z
      · omega
      · have : (2 : Nat) ^ 200 ≤ 2 ^ fs.length := Nat.pow_le_pow_right (by omega) z
        omega
    simp only [wS_seq, wS_set, wS_expr, wS_ret, wS_retN, wS_asg, wS_if, wS_pass, wS_break, wS_cont, wS_par, wS_par3, wS_augV, wS_for, wE_call, wE_fn, wE_consA, wE_nilA, wE_bin, wE_un, wE_tup, wE_lst, wE_c, wE_var0, wE_varS, wE_val, wE_truth, wE_toB, wE_andT, wE_orT, wE_notT, wE_ifC, wE_notC, wE_andK, wE_orK, wE_src, wE_iter, wE_meth, wE_gN, wE_gTp3, wE_gTp2, wE_gTp4, wE_gCs, wE_gNl, wE_gSub, wE_isK, isK_some, wE_isN, wE_chK, wE_ch3K, wE_lc, wE_yes, wE_ok, tfK_bl, List.set_cons_succ, List.set_cons_zero, List.append_nil, List.cons_append, List.nil_append, List.map_cons, List.map_nil, List.length_cons, List.length_nil, List.replicate, wipeD, addD_int, subD_int, iaddD_int, negD_int, cmpD_int, eqD_int, intD_int, int_bl, absD_int, truth_bl, truth_int, truth_non, truth_tup, isNon_non, isNon_int, isNon_tup, isNon_bl, isNon_str, isNon_ref, isB_bl, max_int, min_int, ixD_tup, atI_0, atI_1, atI_2, atI_3, oneD_some, len_tup, eqD_str, tyD_int, tyD_bl, tyD_non, tyD_str, tyD_tup, is_ii, is_ib, is_it, is_il, is_bi, is_bb, is_bt, is_bl, is_ni, is_nb, is_nt, is_nl, is_si, is_sb, is_st, is_sl, is_ti, is_tb, is_tt, is_tl, is_li, is_lb, is_lt, is_ll, if_true, if_false, Bool.not_true, Bool.not_false, Bool.false_eq_true, Bool.true_eq_false, reduceIte, reduceCtorEq, decide_eq_true_eq, abs_nat, ep, iterD_ref (lstOf_lst hat)]
    refine lc_frM fs pcD (fun f => .bl (decide ((f.2 : Int) = 1))) hl2 (fun k G' f => src_itL (lstOf_lst (f.get hat (by simp)))) (fun f hf G' fr => ?_) (fun f hf G' fr => ?_) (fun G' fr hat' => ?_)
    · show wE (gTp 2 (gCs (gN 1) (gCs (gN 2) gNl)) (.tup [.int f.1, .int f.2]) _ _) _
      simp only [wS_seq, wS_set, wS_expr, wS_ret, wS_retN, wS_asg, wS_if, wS_pass, wS_break, wS_cont, wS_par, wS_par3, wS_augV, wS_for, wE_call, wE_fn, wE_consA, wE_nilA, wE_bin, wE_un, wE_tup, wE_lst, wE_c, wE_var0, wE_varS, wE_val, wE_truth, wE_toB, wE_andT, wE_orT, wE_notT, wE_ifC, wE_notC, wE_andK, wE_orK, wE_src, wE_iter, wE_meth, wE_gN, wE_gTp3, wE_gTp2, wE_gTp4, wE_gCs, wE_gNl, wE_gSub, wE_isK, isK_some, wE_isN, wE_chK, wE_ch3K, wE_lc, wE_yes, wE_ok, tfK_bl, List.set_cons_succ, List.set_cons_zero, List.append_nil, List.cons_append, List.nil_append, List.map_cons, List.map_nil, List.length_cons, List.length_nil, List.replicate, wipeD, addD_int, subD_int, iaddD_int, negD_int, cmpD_int, eqD_int, intD_int, int_bl, absD_int, truth_bl, truth_int, truth_non, truth_tup, isNon_non, isNon_int, isNon_tup, isNon_bl, isNon_str, isNon_ref, isB_bl, max_int, min_int, ixD_tup, atI_0, atI_1, atI_2, atI_3, oneD_some, len_tup, eqD_str, tyD_int, tyD_bl, tyD_non, tyD_str, tyD_tup, is_ii, is_ib, is_it, is_il, is_bi, is_bb, is_bt, is_bl, is_ni, is_nb, is_nt, is_nl, is_si, is_sb, is_st, is_sl, is_ti, is_tb, is_tt, is_tl, is_li, is_lb, is_lt, is_ll, if_true, if_false, Bool.not_true, Bool.not_false, Bool.false_eq_true, Bool.true_eq_false, reduceIte, reduceCtorEq, decide_eq_true_eq]
      exact ⟨trivial, Fr.refl⟩
    · show wE (gTp 2 (gCs (gN 1) (gCs (gN 2) gNl)) (.tup [.int f.1, .int f.2]) _ _) _
      simp only [wS_seq, wS_set, wS_expr, wS_ret, wS_retN, wS_asg, wS_if, wS_pass, wS_break, wS_cont, wS_par, wS_par3, wS_augV, wS_for, wE_call, wE_fn, wE_consA, wE_nilA, wE_bin, wE_un, wE_tup, wE_lst, wE_c, wE_var0, wE_varS, wE_val, wE_truth, wE_toB, wE_andT, wE_orT, wE_notT, wE_ifC, wE_notC, wE_andK, wE_orK, wE_src, wE_iter, wE_meth, wE_gN, wE_gTp3, wE_gTp2, wE_gTp4, wE_gCs, wE_gNl, wE_gSub, wE_isK, isK_some, wE_isN, wE_chK, wE_ch3K, wE_lc, wE_yes, wE_ok, tfK_bl, List.set_cons_succ, List.set_cons_zero, List.append_nil, List.cons_append, List.nil_append, List.map_cons, List.map_nil, List.length_cons, List.length_nil, List.replicate, wipeD, addD_int, subD_int, iaddD_int, negD_int, cmpD_int, eqD_int, intD_int, int_bl, absD_int, truth_bl, truth_int, truth_non, truth_tup, isNon_non, isNon_int, isNon_tup, isNon_bl, isNon_str, isNon_ref, isB_bl, max_int, min_int, ixD_tup, atI_0, atI_1, atI_2, atI_3, oneD_some, len_tup, eqD_str, tyD_int, tyD_bl, tyD_non, tyD_str, tyD_tup, is_ii, is_ib, is_it, is_il, is_bi, is_bb, is_bt, is_bl, is_ni, is_nb, is_nt, is_nl, is_si, is_sb, is_st, is_sl, is_ti, is_tb, is_tt, is_tl, is_li, is_lb, is_lt, is_ll, if_true, if_false, Bool.not_true, Bool.not_false, Bool.false_eq_true, Bool.true_eq_false, reduceIte, reduceCtorEq, decide_eq_true_eq]
      exact Fr.refl
    · have e1 : fs.map (fun f => D.bl (decide ((f.2 : Int) = 1))) = (fs.map fun f => decide ((f.2 : Int) = 1)).map D.bl := by rw [List.map_map]; rfl
      rw [e1] at hat'
      rw [allD_bls hat', wE_ok]
      refine ⟨?_, Fr.new.trans fr⟩
      congr 1
      rw [Bool.eq_iff_iff, sqfB_iff (by omega), ← hpr, List.all_map]
      rw [List.all_eq_true]
      constructor
      · intro h
        exact sqf_ones hg fun f hf => by
          have := h f hf
          simp at this
          omega
      · intro h f hf
        have := sqf_exps hg h f hf
        simp [this]
  obtain ⟨r, G', e, rfl, h⟩ := wE_get goal
  exact ⟨G', e, h⟩
end SX

set_option Elab.async false
set_option linter.all false
set_option maxRecDepth 100000
set_option maxHeartbeats 1000000
namespace SX
open PySem PySem.Spec PyProof.Rows L2 NT
/-! ### is_count, is_discriminant -/
noncomputable def countB : SF :=
  (seqC (ifS (orT (notT (truthT (isiC "int" (varC 0)))) (orT (truthT (isiC "bool" (varC 0))) (valT (binC (cmpD fun i j => decide (i < j)) (varC 0) (varC 1))))) (retC (cC (.bl false))) passC)
    (retC (orC (isNonC false (varC 2)) (binC (cmpD fun i j => decide (i ≤ j)) (varC 0) (varC 2)))))
noncomputable def countF : FF := bodyC 3 countB
/-- no integer, or a truth value -/
def NoInt (G : Hq) (v : D) : Prop := ∃ t, tyD G v = some t ∧ (isTy t "int" = some false ∨ (isTy t "int" = some true ∧ isTy t "bool" = some true))
section
variable {G : Hq}
theorem count_int {i l h : Int} : countF [.int i, .int l, .int h] G = .ok (.bl (decide (l ≤ i ∧ i ≤ h))) G := by
  refine wE_eq ?_
  unfold countF
  rw [wE_body]
  show wS (countB [some (.int i), some (.int l), some (.int h)] G) _ _ _ _
  unfold countB
  simp only [wS_seq, wS_set, wS_expr, wS_ret, wS_retN, wS_asg, wS_if, wS_pass, wS_break, wS_cont, wS_par, wS_par3, wS_augV, wS_for, wE_call, wE_fn, wE_consA, wE_nilA, wE_bin, wE_un, wE_tup, wE_lst, wE_c, wE_var0, wE_varS, wE_val, wE_truth, wE_toB, wE_andT, wE_orT, wE_notT, wE_ifC, wE_notC, wE_andK, wE_orK, wE_src, wE_iter, wE_meth, wE_gN, wE_gTp3, wE_gTp2, wE_gTp4, wE_gCs, wE_gNl, wE_gSub, wE_isK, isK_some, wE_isN, wE_chK, wE_ch3K, wE_lc, wE_yes, wE_ok, tfK_bl, List.set_cons_succ, List.set_cons_zero, List.append_nil, List.cons_append, List.nil_append, List.map_cons, List.map_nil, List.length_cons, List.length_nil, List.replicate, wipeD, addD_int, subD_int, iaddD_int, negD_int, cmpD_int, eqD_int, intD_int, int_bl, absD_int, truth_bl, truth_int, truth_non, truth_tup, isNon_non, isNon_int, isNon_tup, isNon_bl, isNon_str, isNon_ref, isB_bl, max_int, min_int, ixD_tup, atI_0, atI_1, atI_2, atI_3, oneD_some, len_tup, eqD_str, tyD_int, tyD_bl, tyD_non, tyD_str, tyD_tup, is_ii, is_ib, is_it, is_il, is_bi, is_bb, is_bt, is_bl, is_ni, is_nb, is_nt, is_nl, is_si, is_sb, is_st, is_sl, is_ti, is_tb, is_tt, is_tl, is_li, is_lb, is_lt, is_ll, if_true, if_false, Bool.not_true, Bool.not_false, Bool.false_eq_true, Bool.true_eq_false, reduceIte, reduceCtorEq, decide_eq_true_eq]
  by_cases h1 : i < l
  · rw [if_pos h1]
    simp; omega
  · rw [if_neg h1]
    simp; omega
theorem count_int2 {i l : Int} : countF [.int i, .int l, .non] G = .ok (.bl (decide (l ≤ i))) G := by
  refine wE_eq ?_
  unfold countF
  rw [wE_body]
  show wS (countB [some (.int i), some (.int l), some .non] G) _ _ _ _
  unfold countB
  simp only [wS_seq, wS_set, wS_expr, wS_ret, wS_retN, wS_asg, wS_if, wS_pass, wS_break, wS_cont, wS_par, wS_par3, wS_augV, wS_for, wE_call, wE_fn, wE_consA, wE_nilA, wE_bin, wE_un, wE_tup, wE_lst, wE_c, wE_var0, wE_varS, wE_val, wE_truth, wE_toB, wE_andT, wE_orT, wE_notT, wE_ifC, wE_notC, wE_andK, wE_orK, wE_src, wE_iter, wE_meth, wE_gN, wE_gTp3, wE_gTp2, wE_gTp4, wE_gCs, wE_gNl, wE_gSub, wE_isK, isK_some, wE_isN, wE_chK, wE_ch3K, wE_lc, wE_yes, wE_ok, tfK_bl, List.set_cons_succ, List.set_cons_zero, List.append_nil, List.cons_append, List.nil_append, List.map_cons, List.map_nil, List.length_cons, List.length_nil, List.replicate, wipeD, addD_int, subD_int, iaddD_int, negD_int, cmpD_int, eqD_int, intD_int, int_bl, absD_int, truth_bl, truth_int, truth_non, truth_tup, isNon_non, isNon_int, isNon_tup, isNon_bl, isNon_str, isNon_ref, isB_bl, max_int, min_int, ixD_tup, atI_0, atI_1, atI_2, atI_3, oneD_some, len_tup, eqD_str, tyD_int, tyD_bl, tyD_non, tyD_str, tyD_tup, is_ii, is_ib, is_it, is_il, is_bi, is_bb, is_bt, is_bl, is_ni, is_nb, is_nt, is_nl, is_si, is_sb, is_st, is_sl, is_ti, is_tb, is_tt, is_tl, is_li, is_lb, is_lt, is_ll, if_true, if_false, Bool.not_true, Bool.not_false, Bool.false_eq_true, Bool.true_eq_false, reduceIte, reduceCtorEq, decide_eq_true_eq]
  by_cases h1 : i < l
  · rw [if_pos h1]
    simp; omega
  · rw [if_neg h1]
    simp; omega
theorem count_no {v l h : D} (hv : NoInt G v) : countF [v, l, h] G = .ok (.bl false) G := by
  refine wE_eq ?_
  unfold countF
  rw [wE_body]
  show wS (countB [some v, some l, some h] G) _ _ _ _
  unfold countB
  obtain ⟨t, h1, h2 | ⟨h2, h3⟩⟩ := hv
  · simp only [wS_seq, wS_set, wS_expr, wS_ret, wS_retN, wS_asg, wS_if, wS_pass, wS_break, wS_cont, wS_par, wS_par3, wS_augV, wS_for, wE_call, wE_fn, wE_consA, wE_nilA, wE_bin, wE_un, wE_tup, wE_lst, wE_c, wE_var0, wE_varS, wE_val, wE_truth, wE_toB, wE_andT, wE_orT, wE_notT, wE_ifC, wE_notC, wE_andK, wE_orK, wE_src, wE_iter, wE_meth, wE_gN, wE_gTp3, wE_gTp2, wE_gTp4, wE_gCs, wE_gNl, wE_gSub, wE_isK, isK_some, wE_isN, wE_chK, wE_ch3K, wE_lc, wE_yes, wE_ok, tfK_bl, List.set_cons_succ, List.set_cons_zero, List.append_nil, List.cons_append, List.nil_append, List.map_cons, List.map_nil, List.length_cons, List.length_nil, List.replicate, wipeD, addD_int, subD_int, iaddD_int, negD_int, cmpD_int, eqD_int, intD_int, int_bl, absD_int, truth_bl, truth_int, truth_non, truth_tup, isNon_non, isNon_int, isNon_tup, isNon_bl, isNon_str, isNon_ref, isB_bl, max_int, min_int, ixD_tup, atI_0, atI_1, atI_2, atI_3, oneD_some, len_tup, eqD_str, tyD_int, tyD_bl, tyD_non, tyD_str, tyD_tup, is_ii, is_ib, is_it, is_il, is_bi, is_bb, is_bt, is_bl, is_ni, is_nb, is_nt, is_nl, is_si, is_sb, is_st, is_sl, is_ti, is_tb, is_tt, is_tl, is_li, is_lb, is_lt, is_ll, if_true, if_false, Bool.not_true, Bool.not_false, Bool.false_eq_true, Bool.true_eq_false, reduceIte, reduceCtorEq, decide_eq_true_eq, h1, Option.bind_some, h2]
    first | exact ⟨rfl, rfl⟩ | exact ⟨rfl, trivial⟩ | exact ⟨trivial, rfl⟩ | exact ⟨trivial, trivial⟩ | trivial | rfl | (simp; done)
  · simp only [wS_seq, wS_set, wS_expr, wS_ret, wS_retN, wS_asg, wS_if, wS_pass, wS_break, wS_cont, wS_par, wS_par3, wS_augV, wS_for, wE_call, wE_fn, wE_consA, wE_nilA, wE_bin, wE_un, wE_tup, wE_lst, wE_c, wE_var0, wE_varS, wE_val, wE_truth, wE_toB, wE_andT, wE_orT, wE_notT, wE_ifC, wE_notC, wE_andK, wE_orK, wE_src, wE_iter, wE_meth, wE_gN, wE_gTp3, wE_gTp2, wE_gTp4, wE_gCs, wE_gNl, wE_gSub, wE_isK, isK_some, wE_isN, wE_chK, wE_ch3K, wE_lc, wE_yes, wE_ok, tfK_bl, List.set_cons_succ, List.set_cons_zero, List.append_nil, List.cons_append, List.nil_append, List.map_cons, List.map_nil, List.length_cons, List.length_nil, List.replicate, wipeD, addD_int, subD_int, iaddD_int, negD_int, cmpD_int, eqD_int, intD_int, int_bl, absD_int, truth_bl, truth_int, truth_non, truth_tup, isNon_non, isNon_int, isNon_tup, isNon_bl, isNon_str, isNon_ref, isB_bl, max_int, min_int, ixD_tup, atI_0, atI_1, atI_2, atI_3, oneD_some, len_tup, eqD_str, tyD_int, tyD_bl, tyD_non, tyD_str, tyD_tup, is_ii, is_ib, is_it, is_il, is_bi, is_bb, is_bt, is_bl, is_ni, is_nb, is_nt, is_nl, is_si, is_sb, is_st, is_sl, is_ti, is_tb, is_tt, is_tl, is_li, is_lb, is_lt, is_ll, if_true, if_false, Bool.not_true, Bool.not_false, Bool.false_eq_true, Bool.true_eq_false, reduceIte, reduceCtorEq, decide_eq_true_eq, h1, Option.bind_some, h2, h3]
    first | exact ⟨rfl, rfl⟩ | exact ⟨rfl, trivial⟩ | exact ⟨trivial, rfl⟩ | exact ⟨trivial, trivial⟩ | trivial | rfl | (simp; done)
theorem noInt_bl {b : Bool} : NoInt G (.bl b) := ⟨"bool", rfl, .inr ⟨by decide +kernel, by decide +kernel⟩⟩
theorem noInt_non : NoInt G .non := ⟨"NoneType", rfl, .inl (by decide +kernel)⟩
theorem noInt_str {x : Str} : NoInt G (.str x) := ⟨"str", rfl, .inl (by decide +kernel)⟩
theorem noInt_tup {xs : List D} : NoInt G (.tup xs) := ⟨"tuple", rfl, .inl (by decide +kernel)⟩
theorem noInt_lst {p : Nat} {xs : List D} (h : G[p]? = some (.lst xs)) : NoInt G (.ref p) := ⟨"list", tyD_lst h, .inl (by decide +kernel)⟩
end
noncomputable def isdB : SF :=
  (seqC (ifS (orT (notT (truthT (fnC countF [] (consA (varC 0) (consA (unC negD (cC (.int 1000000000000))) (consA (cC (.int 1000000000000)) nilA)))))) (valT (binC (eqD false) (varC 0) (cC (.int 0))))) (retC (cC (.bl false))) passC)
    (seqC (ifS (valT (binC (eqD false) (binC modD (varC 0) (cC (.int 4))) (cC (.int 1)))) (retC (fnC issqfF [] (consA (varC 0) nilA))) passC)
    (retC (andC (binC (eqD false) (binC modD (varC 0) (cC (.int 4))) (cC (.int 0))) (andC (binC (inD false) (binC modD (binC fdivD (varC 0) (cC (.int 4))) (cC (.int 4))) (tupC (consA (cC (.int 2)) (consA (cC (.int 3)) nilA)))) (fnC issqfF [] (consA (binC fdivD (varC 0) (cC (.int 4))) nilA)))))))
noncomputable def isdF : FF := bodyC 1 isdB
section
variable {G : Hq}
theorem isd_no {v : D} (hv : NoInt G v) : isdF [v] G = .ok (.bl false) G := by
  refine wE_eq ?_
  unfold isdF
  rw [wE_body]
  show wS (isdB [some v] G) _ _ _ _
  unfold isdB
  simp only [wS_seq, wS_set, wS_expr, wS_ret, wS_retN, wS_asg, wS_if, wS_pass, wS_break, wS_cont, wS_par, wS_par3, wS_augV, wS_for, wE_call, wE_fn, wE_consA, wE_nilA, wE_bin, wE_un, wE_tup, wE_lst, wE_c, wE_var0, wE_varS, wE_val, wE_truth, wE_toB, wE_andT, wE_orT, wE_notT, wE_ifC, wE_notC, wE_andK, wE_orK, wE_src, wE_iter, wE_meth, wE_gN, wE_gTp3, wE_gTp2, wE_gTp4, wE_gCs, wE_gNl, wE_gSub, wE_isK, isK_some, wE_isN, wE_chK, wE_ch3K, wE_lc, wE_yes, wE_ok, tfK_bl, List.set_cons_succ, List.set_cons_zero, List.append_nil, List.cons_append, List.nil_append, List.map_cons, List.map_nil, List.length_cons, List.length_nil, List.replicate, wipeD, addD_int, subD_int, iaddD_int, negD_int, cmpD_int, eqD_int, intD_int, int_bl, absD_int, truth_bl, truth_int, truth_non, truth_tup, isNon_non, isNon_int, isNon_tup, isNon_bl, isNon_str, isNon_ref, isB_bl, max_int, min_int, ixD_tup, atI_0, atI_1, atI_2, atI_3, oneD_some, len_tup, eqD_str, tyD_int, tyD_bl, tyD_non, tyD_str, tyD_tup, is_ii, is_ib, is_it, is_il, is_bi, is_bb, is_bt, is_bl, is_ni, is_nb, is_nt, is_nl, is_si, is_sb, is_st, is_sl, is_ti, is_tb, is_tt, is_tl, is_li, is_lb, is_lt, is_ll, if_true, if_false, Bool.not_true, Bool.not_false, Bool.false_eq_true, Bool.true_eq_false, reduceIte, reduceCtorEq, decide_eq_true_eq, count_no hv]
  first | exact ⟨rfl, rfl⟩ | exact ⟨rfl, trivial⟩ | exact ⟨trivial, rfl⟩ | exact ⟨trivial, trivial⟩ | trivial | rfl | (simp; done)
theorem isd_far {i : Int} (h : i < -1000000000000 ∨ 1000000000000 < i) : isdF [.int i] G = .ok (.bl false) G := by
  refine wE_eq ?_
  unfold isdF
  rw [wE_body]
  show wS (isdB [some (.int i)] G) _ _ _ _
  unfold isdB
  have e : decide (-1000000000000 ≤ i ∧ i ≤ 1000000000000) = false := decide_eq_false (by omega)
  simp only [wS_seq, wS_set, wS_expr, wS_ret, wS_retN, wS_asg, wS_if, wS_pass, wS_break, wS_cont, wS_par, wS_par3, wS_augV, wS_for, wE_call, wE_fn, wE_consA, wE_nilA, wE_bin, wE_un, wE_tup, wE_lst, wE_c, wE_var0, wE_varS, wE_val, wE_truth, wE_toB, wE_andT, wE_orT, wE_notT, wE_ifC, wE_notC, wE_andK, wE_orK, wE_src, wE_iter, wE_meth, wE_gN, wE_gTp3, wE_gTp2, wE_gTp4, wE_gCs, wE_gNl, wE_gSub, wE_isK, isK_some, wE_isN, wE_chK, wE_ch3K, wE_lc, wE_yes, wE_ok, tfK_bl, List.set_cons_succ, List.set_cons_zero, List.append_nil, List.cons_append, List.nil_append, List.map_cons, List.map_nil, List.length_cons, List.length_nil, List.replicate, wipeD, addD_int, subD_int, iaddD_int, negD_int, cmpD_int, eqD_int, intD_int, int_bl, absD_int, truth_bl, truth_int, truth_non, truth_tup, isNon_non, isNon_int, isNon_tup, isNon_bl, isNon_str, isNon_ref, isB_bl, max_int, min_int, ixD_tup, atI_0, atI_1, atI_2, atI_3, oneD_some, len_tup, eqD_str, tyD_int, tyD_bl, tyD_non, tyD_str, tyD_tup, is_ii, is_ib, is_it, is_il, is_bi, is_bb, is_bt, is_bl, is_ni, is_nb, is_nt, is_nl, is_si, is_sb, is_st, is_sl, is_ti, is_tb, is_tt, is_tl, is_li, is_lb, is_lt, is_ll, if_true, if_false, Bool.not_true, Bool.not_false, Bool.false_eq_true, Bool.true_eq_false, reduceIte, reduceCtorEq, decide_eq_true_eq, count_int, e]
  first | exact ⟨rfl, rfl⟩ | exact ⟨rfl, trivial⟩ | exact ⟨trivial, rfl⟩ | exact ⟨trivial, trivial⟩ | trivial | rfl | (simp; done)
theorem isd_ok {i : Int} (h : -1000000000000 ≤ i ∧ i ≤ 1000000000000) : ∃ G', isdF [.int i] G = .ok (.bl (isDB i)) G' ∧ Fr [] G G' := by
  have goal : wE (isdF [.int i] G) fun r G' => r = .bl (isDB i) ∧ Fr [] G G' := by
    unfold isdF
    rw [wE_body]
    show wS (isdB [some (.int i)] G) _ _ _ _
    unfold isdB
    have e : decide (-1000000000000 ≤ i ∧ i ≤ 1000000000000) = true := decide_eq_true h
    by_cases h0 : i = 0
    · subst h0
      simp only [wS_seq, wS_set, wS_expr, wS_ret, wS_retN, wS_asg, wS_if, wS_pass, wS_break, wS_cont, wS_par, wS_par3, wS_augV, wS_for, wE_call, wE_fn, wE_consA, wE_nilA, wE_bin, wE_un, wE_tup, wE_lst, wE_c, wE_var0, wE_varS, wE_val, wE_truth, wE_toB, wE_andT, wE_orT, wE_notT, wE_ifC, wE_notC, wE_andK, wE_orK, wE_src, wE_iter, wE_meth, wE_gN, wE_gTp3, wE_gTp2, wE_gTp4, wE_gCs, wE_gNl, wE_gSub, wE_isK, isK_some, wE_isN, wE_chK, wE_ch3K, wE_lc, wE_yes, wE_ok, tfK_bl, List.set_cons_succ, List.set_cons_zero, List.append_nil, List.cons_append, List.nil_append, List.map_cons, List.map_nil, List.length_cons, List.length_nil, List.replicate, wipeD, addD_int, subD_int, iaddD_int, negD_int, cmpD_int, eqD_int, intD_int, int_bl, absD_int, truth_bl, truth_int, truth_non, truth_tup, isNon_non, isNon_int, isNon_tup, isNon_bl, isNon_str, isNon_ref, isB_bl, max_int, min_int, ixD_tup, atI_0, atI_1, atI_2, atI_3, oneD_some, len_tup, eqD_str, tyD_int, tyD_bl, tyD_non, tyD_str, tyD_tup, is_ii, is_ib, is_it, is_il, is_bi, is_bb, is_bt, is_bl, is_ni, is_nb, is_nt, is_nl, is_si, is_sb, is_st, is_sl, is_ti, is_tb, is_tt, is_tl, is_li, is_lb, is_lt, is_ll, if_true, if_false, Bool.not_true, Bool.not_false, Bool.false_eq_true, Bool.true_eq_false, reduceIte, reduceCtorEq, decide_eq_true_eq, count_int, e]
      exact ⟨rfl, Fr.refl⟩
    have m4 : ∀ (j : Int) (G : Hq), modD (.int j) (.int 4) G = .ok (.int (j % 4)) G := fun j G => modD_int (by omega)
    have d4 : ∀ G : Hq, fdivD (.int i) (.int 4) G = .ok (.int (i / 4)) G := fun G => fdivD_int (by omega) (by decide)
    by_cases h1 : i % 4 = 1
    · obtain ⟨G', e2, f⟩ := issqf_ok (v := i) (G := G) h0 (by omega)
      have e3 : isDB i = sqfB i.natAbs := by
        unfold isDB
        rw [if_neg h0]
        by_cases z : i = 1
        · rw [if_pos z, z]
          rfl
        · rw [if_neg z, if_neg (by omega), if_pos h1]
      simp only [wS_seq, wS_set, wS_expr, wS_ret, wS_retN, wS_asg, wS_if, wS_pass, wS_break, wS_cont, wS_par, wS_par3, wS_augV, wS_for, wE_call, wE_fn, wE_consA, wE_nilA, wE_bin, wE_un, wE_tup, wE_lst, wE_c, wE_var0, wE_varS, wE_val, wE_truth, wE_toB, wE_andT, wE_orT, wE_notT, wE_ifC, wE_notC, wE_andK, wE_orK, wE_src, wE_iter, wE_meth, wE_gN, wE_gTp3, wE_gTp2, wE_gTp4, wE_gCs, wE_gNl, wE_gSub, wE_isK, isK_some, wE_isN, wE_chK, wE_ch3K, wE_lc, wE_yes, wE_ok, tfK_bl, List.set_cons_succ, List.set_cons_zero, List.append_nil, List.cons_append, List.nil_append, List.map_cons, List.map_nil, List.length_cons, List.length_nil, List.replicate, wipeD, addD_int, subD_int, iaddD_int, negD_int, cmpD_int, eqD_int, intD_int, int_bl, absD_int, truth_bl, truth_int, truth_non, truth_tup, isNon_non, isNon_int, isNon_tup, isNon_bl, isNon_str, isNon_ref, isB_bl, max_int, min_int, ixD_tup, atI_0, atI_1, atI_2, atI_3, oneD_some, len_tup, eqD_str, tyD_int, tyD_bl, tyD_non, tyD_str, tyD_tup, is_ii, is_ib, is_it, is_il, is_bi, is_bb, is_bt, is_bl, is_ni, is_nb, is_nt, is_nl, is_si, is_sb, is_st, is_sl, is_ti, is_tb, is_tt, is_tl, is_li, is_lb, is_lt, is_ll, if_true, if_false, Bool.not_true, Bool.not_false, Bool.false_eq_true, Bool.true_eq_false, reduceIte, reduceCtorEq, decide_eq_true_eq, count_int, e, h0, m4, h1, e2]
      exact ⟨by rw [e3], f⟩
    · have z1 : i ≠ 1 := fun z => by subst z; omega
      by_cases h2 : i % 4 = 0
      · have e5 : ∀ G : Hq, inD false (.int (i / 4 % 4)) (.tup [.int 2, .int 3]) G = .ok (.bl (decide (2 = i / 4 % 4) || decide (3 = i / 4 % 4))) G := fun G => by
          rw [show ([.int 2, .int 3] : List D) = ([2, 3] : List Int).map D.int by rfl, inD_tups]
          simp
        by_cases h3 : i / 4 % 4 = 2 ∨ i / 4 % 4 = 3
        · obtain ⟨G', e2, f⟩ := issqf_ok (v := i / 4) (G := G) (by omega) (by omega)
          have e3 : isDB i = sqfB (i / 4).natAbs := by
            unfold isDB
            rw [if_neg h0, if_neg z1, if_pos h2, if_pos h3]
          have e4 : (decide (2 = i / 4 % 4) || decide (3 = i / 4 % 4)) = true := by
            rw [Bool.or_eq_true, decide_eq_true_eq, decide_eq_true_eq]
            omega
          simp only [wS_seq, wS_set, wS_expr, wS_ret, wS_retN, wS_asg, wS_if, wS_pass, wS_break, wS_cont, wS_par, wS_par3, wS_augV, wS_for, wE_call, wE_fn, wE_consA, wE_nilA, wE_bin, wE_un, wE_tup, wE_lst, wE_c, wE_var0, wE_varS, wE_val, wE_truth, wE_toB, wE_andT, wE_orT, wE_notT, wE_ifC, wE_notC, wE_andK, wE_orK, wE_src, wE_iter, wE_meth, wE_gN, wE_gTp3, wE_gTp2, wE_gTp4, wE_gCs, wE_gNl, wE_gSub, wE_isK, isK_some, wE_isN, wE_chK, wE_ch3K, wE_lc, wE_yes, wE_ok, tfK_bl, List.set_cons_succ, List.set_cons_zero, List.append_nil, List.cons_append, List.nil_append, List.map_cons, List.map_nil, List.length_cons, List.length_nil, List.replicate, wipeD, addD_int, subD_int, iaddD_int, negD_int, cmpD_int, eqD_int, intD_int, int_bl, absD_int, truth_bl, truth_int, truth_non, truth_tup, isNon_non, isNon_int, isNon_tup, isNon_bl, isNon_str, isNon_ref, isB_bl, max_int, min_int, ixD_tup, atI_0, atI_1, atI_2, atI_3, oneD_some, len_tup, eqD_str, tyD_int, tyD_bl, tyD_non, tyD_str, tyD_tup, is_ii, is_ib, is_it, is_il, is_bi, is_bb, is_bt, is_bl, is_ni, is_nb, is_nt, is_nl, is_si, is_sb, is_st, is_sl, is_ti, is_tb, is_tt, is_tl, is_li, is_lb, is_lt, is_ll, if_true, if_false, Bool.not_true, Bool.not_false, Bool.false_eq_true, Bool.true_eq_false, reduceIte, reduceCtorEq, decide_eq_true_eq, count_int, e, h0, m4, h1, h2, d4, e5, e4, e2]
          exact ⟨by rw [e3], f⟩
        · have e3 : isDB i = false := by
            unfold isDB
            rw [if_neg h0, if_neg z1, if_pos h2, if_neg h3]
          have e4 : (decide (2 = i / 4 % 4) || decide (3 = i / 4 % 4)) = false := by
            rw [Bool.or_eq_false_iff, decide_eq_false_iff_not, decide_eq_false_iff_not]
            omega
          simp only [wS_seq, wS_set, wS_expr, wS_ret, wS_retN, wS_asg, wS_if, wS_pass, wS_break, wS_cont, wS_par, wS_par3, wS_augV, wS_for, wE_call, wE_fn, wE_consA, wE_nilA, wE_bin, wE_un, wE_tup, wE_lst, wE_c, wE_var0, wE_varS, wE_val, wE_truth, wE_toB, wE_andT, wE_orT, wE_notT, wE_ifC, wE_notC, wE_andK, wE_orK, wE_src, wE_iter, wE_meth, wE_gN, wE_gTp3, wE_gTp2, wE_gTp4, wE_gCs, wE_gNl, wE_gSub, wE_isK, isK_some, wE_isN, wE_chK, wE_ch3K, wE_lc, wE_yes, wE_ok, tfK_bl, List.set_cons_succ, List.set_cons_zero, List.append_nil, List.cons_append, List.nil_append, List.map_cons, List.map_nil, List.length_cons, List.length_nil, List.replicate, wipeD, addD_int, subD_int, iaddD_int, negD_int, cmpD_int, eqD_int, intD_int, int_bl, absD_int, truth_bl, truth_int, truth_non, truth_tup, isNon_non, isNon_int, isNon_tup, isNon_bl, isNon_str, isNon_ref, isB_bl, max_int, min_int, ixD_tup, atI_0, atI_1, atI_2, atI_3, oneD_some, len_tup, eqD_str, tyD_int, tyD_bl, tyD_non, tyD_str, tyD_tup, is_ii, is_ib, is_it, is_il, is_bi, is_bb, is_bt, is_bl, is_ni, is_nb, is_nt, is_nl, is_si, is_sb, is_st, is_sl, is_ti, is_tb, is_tt, is_tl, is_li, is_lb, is_lt, is_ll, if_true, if_false, Bool.not_true, Bool.not_false, Bool.false_eq_true, Bool.true_eq_false, reduceIte, reduceCtorEq, decide_eq_true_eq, count_int, e, h0, m4, h1, h2, d4, e5, e4]
          exact ⟨by rw [e3], Fr.refl⟩
      · have e3 : isDB i = false := by
          unfold isDB
          rw [if_neg h0, if_neg z1, if_neg h2, if_neg h1]
        simp only [wS_seq, wS_set, wS_expr, wS_ret, wS_retN, wS_asg, wS_if, wS_pass, wS_break, wS_cont, wS_par, wS_par3, wS_augV, wS_for, wE_call, wE_fn, wE_consA, wE_nilA, wE_bin, wE_un, wE_tup, wE_lst, wE_c, wE_var0, wE_varS, wE_val, wE_truth, wE_toB, wE_andT, wE_orT, wE_notT, wE_ifC, wE_notC, wE_andK, wE_orK, wE_src, wE_iter, wE_meth, wE_gN, wE_gTp3, wE_gTp2, wE_gTp4, wE_gCs, wE_gNl, wE_gSub, wE_isK, isK_some, wE_isN, wE_chK, wE_ch3K, wE_lc, wE_yes, wE_ok, tfK_bl, List.set_cons_succ, List.set_cons_zero, List.append_nil, List.cons_append, List.nil_append, List.map_cons, List.map_nil, List.length_cons, List.length_nil, List.replicate, wipeD, addD_int, subD_int, iaddD_int, negD_int, cmpD_int, eqD_int, intD_int, int_bl, absD_int, truth_bl, truth_int, truth_non, truth_tup, isNon_non, isNon_int, isNon_tup, isNon_bl, isNon_str, isNon_ref, isB_bl, max_int, min_int, ixD_tup, atI_0, atI_1, atI_2, atI_3, oneD_some, len_tup, eqD_str, tyD_int, tyD_bl, tyD_non, tyD_str, tyD_tup, is_ii, is_ib, is_it, is_il, is_bi, is_bb, is_bt, is_bl, is_ni, is_nb, is_nt, is_nl, is_si, is_sb, is_st, is_sl, is_ti, is_tb, is_tt, is_tl, is_li, is_lb, is_lt, is_ll, if_true, if_false, Bool.not_true, Bool.not_false, Bool.false_eq_true, Bool.true_eq_false, reduceIte, reduceCtorEq, decide_eq_true_eq, count_int, e, h0, m4, h1, h2]
        exact ⟨by rw [e3], Fr.refl⟩
  obtain ⟨r, G', e, rfl, h⟩ := wE_get goal
  exact ⟨G', e, h⟩
end
end SX

set_option Elab.async false
set_option linter.all false
set_option maxRecDepth 100000
set_option maxHeartbeats 1000000
namespace SX
open PySem PySem.Spec PyProof.Rows L2 NT
/-! ### fractions of the program -/
theorem SmR.up {j k : Nat} {r : Rat} (h : SmR j r) (hk : j ≤ k) : SmR k r := ⟨Nat.lt_of_lt_of_le h.1 (Nat.pow_le_pow_right (by omega) hk), Nat.lt_of_lt_of_le h.2 (Nat.pow_le_pow_right (by omega) hk)⟩
theorem SmR.neg {k : Nat} {x : Rat} (hx : SmR k x) : SmR k (-x) := ⟨by rw [Rat.neg_num, Int.natAbs_neg]; exact hx.1, by rw [Rat.neg_den]; exact hx.2⟩
theorem SmR.div {a b : Int} {k : Nat} (hb : b ≠ 0) (h1 : a.natAbs < 2 ^ k) (h2 : b.natAbs < 2 ^ k) : SmR k (Rat.divInt a b) := by
  have hn := gsg_num (a := a) hb
  have hd := gsg_den (a := a) hb
  have ne := gsg_ne (a := a) hb
  generalize gsg a b = g at *
  have g1 : 1 ≤ g.natAbs := by omega
  constructor
  · have : (Rat.divInt a b).num.natAbs * g.natAbs = a.natAbs := by rw [← Int.natAbs_mul, hn]
    have := Nat.le_mul_of_pos_right (Rat.divInt a b).num.natAbs g1
    omega
  · have e : (Rat.divInt a b).den * g.natAbs = b.natAbs := by
      have := congrArg Int.natAbs hd
      rwa [Int.natAbs_mul, Int.natAbs_natCast] at this
    have := Nat.le_mul_of_pos_right (Rat.divInt a b).den g1
    omega
theorem SmR.mul {j k : Nat} {x y : Rat} (hx : SmR j x) (hy : SmR k y) : SmR (j + k) (x * y) := by
  rw [← rat_mul]
  refine SmR.div ?_ ?_ ?_
  · have h1 := x.den_nz
    have h2 := y.den_nz
    have := Int.mul_ne_zero (a := (x.den : Int)) (b := (y.den : Int)) (by omega) (by omega)
    exact this
  · rw [Int.natAbs_mul, Nat.pow_add]
    exact Nat.mul_lt_mul'' hx.1 hy.1
  · rw [Int.natAbs_mul, Nat.pow_add]
    exact Nat.mul_lt_mul'' hx.2 hy.2
theorem SmR.add {j k : Nat} {x y : Rat} (hx : SmR j x) (hy : SmR k y) : SmR (j + k + 1) (x + y) := by
  rw [← rat_add]
  refine SmR.div ?_ ?_ ?_
  · have h1 := x.den_nz
    have h2 := y.den_nz
    exact Int.mul_ne_zero (a := (x.den : Int)) (b := (y.den : Int)) (by omega) (by omega)
  · have h1 := Nat.mul_lt_mul'' hx.1 hy.2
    have h2 := Nat.mul_lt_mul'' hy.1 hx.2
    have e1 : (x.num * (y.den : Int)).natAbs = x.num.natAbs * y.den := by rw [Int.natAbs_mul, Int.natAbs_natCast]
    have e2 : (y.num * (x.den : Int)).natAbs = y.num.natAbs * x.den := by rw [Int.natAbs_mul, Int.natAbs_natCast]
    have h3 := Int.natAbs_add_le (x.num * (y.den : Int)) (y.num * (x.den : Int))
    rw [← Nat.pow_add] at h1 h2
    rw [Nat.add_comm k j] at h2
    rw [Nat.pow_succ]
    omega
  · rw [Int.natAbs_mul]
    have := Nat.mul_lt_mul'' hx.2 hy.2
    rw [← Nat.pow_add] at this
    rw [Nat.pow_succ]
    simp only [Int.natAbs_natCast]
    omega
theorem SmR.sub {j k : Nat} {x y : Rat} (hx : SmR j x) (hy : SmR k y) : SmR (j + k + 1) (x - y) := by
  rw [Rat.sub_eq_add_neg]
  exact hx.add hy.neg
noncomputable def commonB : SF :=
  (seqC (parC 0 1 (consA (callC absD (consA (varC 0) nilA)) (consA (callC absD (consA (varC 1) nilA)) nilA)))
    (seqC (whileC (truthT (varC 1)) (parC 0 1 (consA (varC 1) (consA (binC modD (varC 0) (varC 1)) nilA))))
    (retC (varC 0))))
noncomputable def commonF : FF := bodyC 2 commonB
noncomputable def fracB : SF :=
  (seqC (ifS (valT (binC (eqD false) (varC 1) (cC (.int 0)))) (raiseC "BadNumber" (varC 1)) passC)
    (seqC (setC 2 (binC mulD (fnC commonF [] (consA (varC 0) (consA (varC 1) nilA))) (ifC (valT (binC (cmpD fun i j => decide (j < i)) (varC 1) (cC (.int 0)))) (cC (.int 1)) (unC negD (cC (.int 1))))))
    (retC (tupC (consA (binC fdivD (varC 0) (varC 2)) (consA (binC fdivD (varC 1) (varC 2)) nilA))))))
noncomputable def fracF : FF := bodyC 3 fracB
section
variable {G : Hq}
theorem common_ok {a b : Int} : commonF [.int a, .int b] G = .ok (.int ((Nat.gcd a.natAbs b.natAbs : Nat) : Int)) G := by
  refine wE_eq ?_
  unfold commonF
  rw [wE_body]
  show wS (commonB [some (.int a), some (.int b)] G) _ _ _ _
  unfold commonB
  rw [wS_seq]
  simp only [wS_seq, wS_set, wS_expr, wS_ret, wS_retN, wS_asg, wS_if, wS_pass, wS_break, wS_cont, wS_par, wS_par3, wS_augV, wS_for, wE_call, wE_fn, wE_consA, wE_nilA, wE_bin, wE_un, wE_tup, wE_lst, wE_c, wE_var0, wE_varS, wE_val, wE_truth, wE_toB, wE_andT, wE_orT, wE_notT, wE_ifC, wE_notC, wE_andK, wE_orK, wE_src, wE_iter, wE_meth, wE_gN, wE_gTp3, wE_gTp2, wE_gTp4, wE_gCs, wE_gNl, wE_gSub, wE_isK, isK_some, wE_isN, wE_chK, wE_ch3K, wE_lc, wE_yes, wE_ok, tfK_bl, List.set_cons_succ, List.set_cons_zero, List.append_nil, List.cons_append, List.nil_append, List.map_cons, List.map_nil, List.length_cons, List.length_nil, List.replicate, wipeD, addD_int, subD_int, iaddD_int, negD_int, cmpD_int, eqD_int, intD_int, int_bl, absD_int, truth_bl, truth_int, truth_non, truth_tup, isNon_non, isNon_int, isNon_tup, isNon_bl, isNon_str, isNon_ref, isB_bl, max_int, min_int, ixD_tup, atI_0, atI_1, atI_2, atI_3, oneD_some, len_tup, eqD_str, tyD_int, tyD_bl, tyD_non, tyD_str, tyD_tup, is_ii, is_ib, is_it, is_il, is_bi, is_bb, is_bt, is_bl, is_ni, is_nb, is_nt, is_nl, is_si, is_sb, is_st, is_sl, is_ti, is_tb, is_tt, is_tl, is_li, is_lb, is_lt, is_ll, if_true, if_false, Bool.not_true, Bool.not_false, Bool.false_eq_true, Bool.true_eq_false, reduceIte, reduceCtorEq, decide_eq_true_eq, abs_nat]
  refine wS_while (fun n σ G' => ∃ x y : Nat, σ = [some (.int x), some (.int y)] ∧ G' = G ∧ Nat.gcd x y = Nat.gcd a.natAbs b.natAbs ∧ n = y) (fun n σ G' h => ?_) b.natAbs _ _ ⟨a.natAbs, b.natAbs, rfl, rfl, rfl, rfl⟩
  obtain ⟨x, y, rfl, rfl, e, rfl⟩ := h
  simp only [wS_seq, wS_set, wS_expr, wS_ret, wS_retN, wS_asg, wS_if, wS_pass, wS_break, wS_cont, wS_par, wS_par3, wS_augV, wS_for, wE_call, wE_fn, wE_consA, wE_nilA, wE_bin, wE_un, wE_tup, wE_lst, wE_c, wE_var0, wE_varS, wE_val, wE_truth, wE_toB, wE_andT, wE_orT, wE_notT, wE_ifC, wE_notC, wE_andK, wE_orK, wE_src, wE_iter, wE_meth, wE_gN, wE_gTp3, wE_gTp2, wE_gTp4, wE_gCs, wE_gNl, wE_gSub, wE_isK, isK_some, wE_isN, wE_chK, wE_ch3K, wE_lc, wE_yes, wE_ok, tfK_bl, List.set_cons_succ, List.set_cons_zero, List.append_nil, List.cons_append, List.nil_append, List.map_cons, List.map_nil, List.length_cons, List.length_nil, List.replicate, wipeD, addD_int, subD_int, iaddD_int, negD_int, cmpD_int, eqD_int, intD_int, int_bl, absD_int, truth_bl, truth_int, truth_non, truth_tup, isNon_non, isNon_int, isNon_tup, isNon_bl, isNon_str, isNon_ref, isB_bl, max_int, min_int, ixD_tup, atI_0, atI_1, atI_2, atI_3, oneD_some, len_tup, eqD_str, tyD_int, tyD_bl, tyD_non, tyD_str, tyD_tup, is_ii, is_ib, is_it, is_il, is_bi, is_bb, is_bt, is_bl, is_ni, is_nb, is_nt, is_nl, is_si, is_sb, is_st, is_sl, is_ti, is_tb, is_tt, is_tl, is_li, is_lb, is_lt, is_ll, if_true, if_false, Bool.not_true, Bool.not_false, Bool.false_eq_true, Bool.true_eq_false, reduceIte, reduceCtorEq, decide_eq_true_eq]
  by_cases hy : n = 0
  · subst hy
    rw [Nat.gcd_zero_right] at e
    subst e
    rw [if_neg (by simp)]
    first | exact ⟨rfl, rfl⟩ | exact ⟨rfl, trivial⟩ | exact ⟨trivial, rfl⟩ | exact ⟨trivial, trivial⟩ | trivial | rfl | (simp; done)
  · rw [if_pos (by simpa using hy)]
    simp only [wS_seq, wS_set, wS_expr, wS_ret, wS_retN, wS_asg, wS_if, wS_pass, wS_break, wS_cont, wS_par, wS_par3, wS_augV, wS_for, wE_call, wE_fn, wE_consA, wE_nilA, wE_bin, wE_un, wE_tup, wE_lst, wE_c, wE_var0, wE_varS, wE_val, wE_truth, wE_toB, wE_andT, wE_orT, wE_notT, wE_ifC, wE_notC, wE_andK, wE_orK, wE_src, wE_iter, wE_meth, wE_gN, wE_gTp3, wE_gTp2, wE_gTp4, wE_gCs, wE_gNl, wE_gSub, wE_isK, isK_some, wE_isN, wE_chK, wE_ch3K, wE_lc, wE_yes, wE_ok, tfK_bl, List.set_cons_succ, List.set_cons_zero, List.append_nil, List.cons_append, List.nil_append, List.map_cons, List.map_nil, List.length_cons, List.length_nil, List.replicate, wipeD, addD_int, subD_int, iaddD_int, negD_int, cmpD_int, eqD_int, intD_int, int_bl, absD_int, truth_bl, truth_int, truth_non, truth_tup, isNon_non, isNon_int, isNon_tup, isNon_bl, isNon_str, isNon_ref, isB_bl, max_int, min_int, ixD_tup, atI_0, atI_1, atI_2, atI_3, oneD_some, len_tup, eqD_str, tyD_int, tyD_bl, tyD_non, tyD_str, tyD_tup, is_ii, is_ib, is_it, is_il, is_bi, is_bb, is_bt, is_bl, is_ni, is_nb, is_nt, is_nl, is_si, is_sb, is_st, is_sl, is_ti, is_tb, is_tt, is_tl, is_li, is_lb, is_lt, is_ll, if_true, if_false, Bool.not_true, Bool.not_false, Bool.false_eq_true, Bool.true_eq_false, reduceIte, reduceCtorEq, decide_eq_true_eq, modD_int (i := (x : Int)) (j := (n : Int)) (by omega), int_mod]
    refine ⟨x % n, Nat.mod_lt _ (by omega), n, x % n, by rfl, by trivial, ?_, rfl⟩
    rw [← e, Nat.gcd_comm x n, Nat.gcd_rec n x, Nat.gcd_comm]
theorem frac_ok {a b : Int} (hb : b ≠ 0) (hs : b.natAbs < 2 ^ 400) : fracF [.int a, .int b] G = .ok (fracD (Rat.divInt a b)) G := by
  refine wE_eq ?_
  unfold fracF
  rw [wE_body]
  show wS (fracB [some (.int a), some (.int b), none] G) _ _ _ _
  unfold fracB
  have ne := gsg_ne (a := a) hb
  have le := gsg_le (a := a) hb
  have gle : Nat.gcd a.natAbs b.natAbs ≤ b.natAbs := Nat.le_of_dvd (by omega) (Nat.gcd_dvd_right _ _)
  refine wS_cut1 (σ1 := [some (.int a), some (.int b), none]) (G1 := G) ?_ ?_
  · rw [wS_if]
    simp only [wS_seq, wS_set, wS_expr, wS_ret, wS_retN, wS_asg, wS_if, wS_pass, wS_break, wS_cont, wS_par, wS_par3, wS_augV, wS_for, wE_call, wE_fn, wE_consA, wE_nilA, wE_bin, wE_un, wE_tup, wE_lst, wE_c, wE_var0, wE_varS, wE_val, wE_truth, wE_toB, wE_andT, wE_orT, wE_notT, wE_ifC, wE_notC, wE_andK, wE_orK, wE_src, wE_iter, wE_meth, wE_gN, wE_gTp3, wE_gTp2, wE_gTp4, wE_gCs, wE_gNl, wE_gSub, wE_isK, isK_some, wE_isN, wE_chK, wE_ch3K, wE_lc, wE_yes, wE_ok, tfK_bl, List.set_cons_succ, List.set_cons_zero, List.append_nil, List.cons_append, List.nil_append, List.map_cons, List.map_nil, List.length_cons, List.length_nil, List.replicate, wipeD, addD_int, subD_int, iaddD_int, negD_int, cmpD_int, eqD_int, intD_int, int_bl, absD_int, truth_bl, truth_int, truth_non, truth_tup, isNon_non, isNon_int, isNon_tup, isNon_bl, isNon_str, isNon_ref, isB_bl, max_int, min_int, ixD_tup, atI_0, atI_1, atI_2, atI_3, oneD_some, len_tup, eqD_str, tyD_int, tyD_bl, tyD_non, tyD_str, tyD_tup, is_ii, is_ib, is_it, is_il, is_bi, is_bb, is_bt, is_bl, is_ni, is_nb, is_nt, is_nl, is_si, is_sb, is_st, is_sl, is_ti, is_tb, is_tt, is_tl, is_li, is_lb, is_lt, is_ll, if_true, if_false, Bool.not_true, Bool.not_false, Bool.false_eq_true, Bool.true_eq_false, reduceIte, reduceCtorEq, decide_eq_true_eq, hb]
    first | exact ⟨rfl, rfl⟩ | exact ⟨rfl, trivial⟩ | exact ⟨trivial, rfl⟩ | exact ⟨trivial, trivial⟩ | trivial | rfl | (simp; done)
  refine wS_cut1 (σ1 := [some (.int a), some (.int b), some (.int (gsg a b))]) (G1 := G) ?_ ?_
  · have bg : Bd 400 ((Nat.gcd a.natAbs b.natAbs : Nat) : Int) := by
      show (((Nat.gcd a.natAbs b.natAbs : Nat) : Int)).natAbs < _
      rw [Int.natAbs_natCast]
      omega
    by_cases h : 0 < b
    · simp only [wS_seq, wS_set, wS_expr, wS_ret, wS_retN, wS_asg, wS_if, wS_pass, wS_break, wS_cont, wS_par, wS_par3, wS_augV, wS_for, wE_call, wE_fn, wE_consA, wE_nilA, wE_bin, wE_un, wE_tup, wE_lst, wE_c, wE_var0, wE_varS, wE_val, wE_truth, wE_toB, wE_andT, wE_orT, wE_notT, wE_ifC, wE_notC, wE_andK, wE_orK, wE_src, wE_iter, wE_meth, wE_gN, wE_gTp3, wE_gTp2, wE_gTp4, wE_gCs, wE_gNl, wE_gSub, wE_isK, isK_some, wE_isN, wE_chK, wE_ch3K, wE_lc, wE_yes, wE_ok, tfK_bl, List.set_cons_succ, List.set_cons_zero, List.append_nil, List.cons_append, List.nil_append, List.map_cons, List.map_nil, List.length_cons, List.length_nil, List.replicate, wipeD, addD_int, subD_int, iaddD_int, negD_int, cmpD_int, eqD_int, intD_int, int_bl, absD_int, truth_bl, truth_int, truth_non, truth_tup, isNon_non, isNon_int, isNon_tup, isNon_bl, isNon_str, isNon_ref, isB_bl, max_int, min_int, ixD_tup, atI_0, atI_1, atI_2, atI_3, oneD_some, len_tup, eqD_str, tyD_int, tyD_bl, tyD_non, tyD_str, tyD_tup, is_ii, is_ib, is_it, is_il, is_bi, is_bb, is_bt, is_bl, is_ni, is_nb, is_nt, is_nl, is_si, is_sb, is_st, is_sl, is_ti, is_tb, is_tt, is_tl, is_li, is_lb, is_lt, is_ll, if_true, if_false, Bool.not_true, Bool.not_false, Bool.false_eq_true, Bool.true_eq_false, reduceIte, reduceCtorEq, decide_eq_true_eq, common_ok, h, mulD_sb bg (show Bd 400 1 by decide)]
      unfold gsg
      rw [if_neg (by omega), Int.mul_one]
      first | exact ⟨rfl, rfl⟩ | exact ⟨rfl, trivial⟩ | exact ⟨trivial, rfl⟩ | exact ⟨trivial, trivial⟩ | trivial | rfl | (simp; done)
    · simp only [wS_seq, wS_set, wS_expr, wS_ret, wS_retN, wS_asg, wS_if, wS_pass, wS_break, wS_cont, wS_par, wS_par3, wS_augV, wS_for, wE_call, wE_fn, wE_consA, wE_nilA, wE_bin, wE_un, wE_tup, wE_lst, wE_c, wE_var0, wE_varS, wE_val, wE_truth, wE_toB, wE_andT, wE_orT, wE_notT, wE_ifC, wE_notC, wE_andK, wE_orK, wE_src, wE_iter, wE_meth, wE_gN, wE_gTp3, wE_gTp2, wE_gTp4, wE_gCs, wE_gNl, wE_gSub, wE_isK, isK_some, wE_isN, wE_chK, wE_ch3K, wE_lc, wE_yes, wE_ok, tfK_bl, List.set_cons_succ, List.set_cons_zero, List.append_nil, List.cons_append, List.nil_append, List.map_cons, List.map_nil, List.length_cons, List.length_nil, List.replicate, wipeD, addD_int, subD_int, iaddD_int, negD_int, cmpD_int, eqD_int, intD_int, int_bl, absD_int, truth_bl, truth_int, truth_non, truth_tup, isNon_non, isNon_int, isNon_tup, isNon_bl, isNon_str, isNon_ref, isB_bl, max_int, min_int, ixD_tup, atI_0, atI_1, atI_2, atI_3, oneD_some, len_tup, eqD_str, tyD_int, tyD_bl, tyD_non, tyD_str, tyD_tup, is_ii, is_ib, is_it, is_il, is_bi, is_bb, is_bt, is_bl, is_ni, is_nb, is_nt, is_nl, is_si, is_sb, is_st, is_sl, is_ti, is_tb, is_tt, is_tl, is_li, is_lb, is_lt, is_ll, if_true, if_false, Bool.not_true, Bool.not_false, Bool.false_eq_true, Bool.true_eq_false, reduceIte, reduceCtorEq, decide_eq_true_eq, common_ok, h, mulD_sb bg (show Bd 400 (-1) by decide)]
      unfold gsg
      rw [if_pos (by omega), Int.mul_neg, Int.mul_one]
      first | exact ⟨rfl, rfl⟩ | exact ⟨rfl, trivial⟩ | exact ⟨trivial, rfl⟩ | exact ⟨trivial, trivial⟩ | trivial | rfl | (simp; done)
  simp only [wS_seq, wS_set, wS_expr, wS_ret, wS_retN, wS_asg, wS_if, wS_pass, wS_break, wS_cont, wS_par, wS_par3, wS_augV, wS_for, wE_call, wE_fn, wE_consA, wE_nilA, wE_bin, wE_un, wE_tup, wE_lst, wE_c, wE_var0, wE_varS, wE_val, wE_truth, wE_toB, wE_andT, wE_orT, wE_notT, wE_ifC, wE_notC, wE_andK, wE_orK, wE_src, wE_iter, wE_meth, wE_gN, wE_gTp3, wE_gTp2, wE_gTp4, wE_gCs, wE_gNl, wE_gSub, wE_isK, isK_some, wE_isN, wE_chK, wE_ch3K, wE_lc, wE_yes, wE_ok, tfK_bl, List.set_cons_succ, List.set_cons_zero, List.append_nil, List.cons_append, List.nil_append, List.map_cons, List.map_nil, List.length_cons, List.length_nil, List.replicate, wipeD, addD_int, subD_int, iaddD_int, negD_int, cmpD_int, eqD_int, intD_int, int_bl, absD_int, truth_bl, truth_int, truth_non, truth_tup, isNon_non, isNon_int, isNon_tup, isNon_bl, isNon_str, isNon_ref, isB_bl, max_int, min_int, ixD_tup, atI_0, atI_1, atI_2, atI_3, oneD_some, len_tup, eqD_str, tyD_int, tyD_bl, tyD_non, tyD_str, tyD_tup, is_ii, is_ib, is_it, is_il, is_bi, is_bb, is_bt, is_bl, is_ni, is_nb, is_nt, is_nl, is_si, is_sb, is_st, is_sl, is_ti, is_tb, is_tt, is_tl, is_li, is_lb, is_lt, is_ll, if_true, if_false, Bool.not_true, Bool.not_false, Bool.false_eq_true, Bool.true_eq_false, reduceIte, reduceCtorEq, decide_eq_true_eq, fdivD_exact (G := G) ne (by omega) (gsg_num hb), fdivD_exact (G := G) ne (by omega) (gsg_den (a := a) hb)]
  first | exact ⟨rfl, rfl⟩ | exact ⟨rfl, trivial⟩ | exact ⟨trivial, rfl⟩ | exact ⟨trivial, trivial⟩ | trivial | rfl | (simp; done)
theorem toPy_showsI {i : Int} {b : Nat} (h : Bd b i) (hb : 0 < b ∧ b ≤ 1920) : showsD (.int i) G = true := by
  unfold showsD
  rw [toPy_int]
  have h1 := fine_int h hb.2
  have h2 := sz_int h hb.1
  refine decide_eq_true ⟨fine_show _ h1, fine_dict _ h1, by simp [PyData.depth], ?_⟩
  have := shown_sz _ h1
  omega
theorem shows_shw {x : D} {a : PyData} {k s : Nat} (h : Shw G x a k s) (hk : k ≤ 24) (hs : s ≤ 16000000) : showsD x G = true := by
  unfold showsD
  rw [h.py 24 hk]
  refine decide_eq_true ⟨fine_show _ h.fine, fine_dict _ h.fine, Nat.le_trans h.dep (by omega), ?_⟩
  have := shown_sz _ h.fine
  exact Nat.le_trans this (Nat.le_trans h.sz hs)
theorem frac_no {a : Int} : fracF [.int a, .int 0] G = .ex "BadNumber" G.length (G ++ [errX "BadNumber" (.int 0)]) := by
  refine xE_raised ?_
  unfold fracF
  rw [xE_body]
  show xS (fracB [some (.int a), some (.int 0), none] G) _ _ _ _ _
  unfold fracB
  have sh := toPy_showsI (G := G) (i := 0) (b := 1) (by decide) (by omega)
  rw [xS_seq, xS_if]
  have t : xE (valT (binC (eqD false) (varC 1) (cC (.int 0))) [some (.int a), some (.int 0), none] G) (fun x G1 => x = true ∧ G1 = G) (fun _ _ _ => False) := by
    refine xE_w ?_
    simp only [wS_seq, wS_set, wS_expr, wS_ret, wS_retN, wS_asg, wS_if, wS_pass, wS_break, wS_cont, wS_par, wS_par3, wS_augV, wS_for, wE_call, wE_fn, wE_consA, wE_nilA, wE_bin, wE_un, wE_tup, wE_lst, wE_c, wE_var0, wE_varS, wE_val, wE_truth, wE_toB, wE_andT, wE_orT, wE_notT, wE_ifC, wE_notC, wE_andK, wE_orK, wE_src, wE_iter, wE_meth, wE_gN, wE_gTp3, wE_gTp2, wE_gTp4, wE_gCs, wE_gNl, wE_gSub, wE_isK, isK_some, wE_isN, wE_chK, wE_ch3K, wE_lc, wE_yes, wE_ok, tfK_bl, List.set_cons_succ, List.set_cons_zero, List.append_nil, List.cons_append, List.nil_append, List.map_cons, List.map_nil, List.length_cons, List.length_nil, List.replicate, wipeD, addD_int, subD_int, iaddD_int, negD_int, cmpD_int, eqD_int, intD_int, int_bl, absD_int, truth_bl, truth_int, truth_non, truth_tup, isNon_non, isNon_int, isNon_tup, isNon_bl, isNon_str, isNon_ref, isB_bl, max_int, min_int, ixD_tup, atI_0, atI_1, atI_2, atI_3, oneD_some, len_tup, eqD_str, tyD_int, tyD_bl, tyD_non, tyD_str, tyD_tup, is_ii, is_ib, is_it, is_il, is_bi, is_bb, is_bt, is_bl, is_ni, is_nb, is_nt, is_nl, is_si, is_sb, is_st, is_sl, is_ti, is_tb, is_tt, is_tl, is_li, is_lb, is_lt, is_ll, if_true, if_false, Bool.not_true, Bool.not_false, Bool.false_eq_true, Bool.true_eq_false, reduceIte, reduceCtorEq, decide_eq_true_eq]
    first | exact ⟨rfl, rfl⟩ | exact ⟨rfl, trivial⟩ | exact ⟨trivial, rfl⟩ | exact ⟨trivial, trivial⟩ | trivial | rfl | (simp; done)
  refine xE_imp t (fun x G1 hx => ?_) (fun _ _ _ h => h.elim)
  rw [hx.1, hx.2, if_pos rfl, xS_raise, xE_varS, xE_var0]
  exact ⟨sh, rfl, rfl, rfl⟩
theorem Shw.frac {r : Rat} {b : Nat} (h : SmR b r) (hb : 0 < b ∧ b ≤ 1920) : Shw G (fracD r) (.tuple [.int r.num, .int (r.den : Int)]) 1 (2 * b + 9) := by
  have h2 : Bd b (r.den : Int) := by
    show (r.den : Int).natAbs < _
    rw [Int.natAbs_natCast]
    exact h.2
  have := Shw.tup (G := G) (ShwL.cons (Shw.int h.1 hb) (ShwL.cons (Shw.int h2 hb) ShwL.nil))
  exact this.mono (by omega) (by omega)
end
noncomputable def plusB : SF :=
  (retC (fnC fracF [] (consA (binC addD (binC mulD (binC ixD (varC 0) (cC (.int 0))) (binC ixD (varC 1) (cC (.int 1)))) (binC mulD (binC ixD (varC 1) (cC (.int 0))) (binC ixD (varC 0) (cC (.int 1))))) (consA (binC mulD (binC ixD (varC 0) (cC (.int 1))) (binC ixD (varC 1) (cC (.int 1)))) nilA))))
noncomputable def plusF : FF := bodyC 2 plusB
noncomputable def minusB : SF :=
  (retC (fnC fracF [] (consA (binC subD (binC mulD (binC ixD (varC 0) (cC (.int 0))) (binC ixD (varC 1) (cC (.int 1)))) (binC mulD (binC ixD (varC 1) (cC (.int 0))) (binC ixD (varC 0) (cC (.int 1))))) (consA (binC mulD (binC ixD (varC 0) (cC (.int 1))) (binC ixD (varC 1) (cC (.int 1)))) nilA))))
noncomputable def minusF : FF := bodyC 2 minusB
noncomputable def timesB : SF :=
  (retC (fnC fracF [] (consA (binC mulD (binC ixD (varC 0) (cC (.int 0))) (binC ixD (varC 1) (cC (.int 0)))) (consA (binC mulD (binC ixD (varC 0) (cC (.int 1))) (binC ixD (varC 1) (cC (.int 1)))) nilA))))
noncomputable def timesF : FF := bodyC 2 timesB
noncomputable def overB : SF :=
  (seqC (ifS (valT (binC (eqD false) (binC ixD (varC 1) (cC (.int 0))) (cC (.int 0)))) (raiseC "BadNumber" (varC 1)) passC)
    (retC (fnC fracF [] (consA (binC mulD (binC ixD (varC 0) (cC (.int 0))) (binC ixD (varC 1) (cC (.int 1)))) (consA (binC mulD (binC ixD (varC 0) (cC (.int 1))) (binC ixD (varC 1) (cC (.int 0)))) nilA)))))
noncomputable def overF : FF := bodyC 2 overB
section
variable {G : Hq} {x y : Rat}
theorem SmR.bn {k : Nat} {r : Rat} (h : SmR k r) : Bd k r.num := h.1
theorem SmR.bd {k : Nat} {r : Rat} (h : SmR k r) : Bd k (r.den : Int) := by
  show (r.den : Int).natAbs < _
  rw [Int.natAbs_natCast]
  exact h.2
theorem den_prod (x y : Rat) : (x.den : Int) * (y.den : Int) ≠ 0 := by
  have h1 := x.den_nz
  have h2 := y.den_nz
  exact Int.mul_ne_zero (a := (x.den : Int)) (b := (y.den : Int)) (by omega) (by omega)
theorem plus_ok (hx : SmR 195 x) (hy : SmR 195 y) : plusF [fracD x, fracD y] G = .ok (fracD (x + y)) G := by
  refine wE_eq ?_
  unfold plusF
  rw [wE_body]
  show wS (plusB [some (fracD x), some (fracD y)] G) _ _ _ _
  unfold plusB
  have b1 := Bd.mono hx.bn (show 195 ≤ 400 by omega)
  have b2 := Bd.mono hx.bd (show 195 ≤ 400 by omega)
  have b3 := Bd.mono hy.bn (show 195 ≤ 400 by omega)
  have b4 := Bd.mono hy.bd (show 195 ≤ 400 by omega)
  simp only [wS_seq, wS_set, wS_expr, wS_ret, wS_retN, wS_asg, wS_if, wS_pass, wS_break, wS_cont, wS_par, wS_par3, wS_augV, wS_for, wE_call, wE_fn, wE_consA, wE_nilA, wE_bin, wE_un, wE_tup, wE_lst, wE_c, wE_var0, wE_varS, wE_val, wE_truth, wE_toB, wE_andT, wE_orT, wE_notT, wE_ifC, wE_notC, wE_andK, wE_orK, wE_src, wE_iter, wE_meth, wE_gN, wE_gTp3, wE_gTp2, wE_gTp4, wE_gCs, wE_gNl, wE_gSub, wE_isK, isK_some, wE_isN, wE_chK, wE_ch3K, wE_lc, wE_yes, wE_ok, tfK_bl, List.set_cons_succ, List.set_cons_zero, List.append_nil, List.cons_append, List.nil_append, List.map_cons, List.map_nil, List.length_cons, List.length_nil, List.replicate, wipeD, addD_int, subD_int, iaddD_int, negD_int, cmpD_int, eqD_int, intD_int, int_bl, absD_int, truth_bl, truth_int, truth_non, truth_tup, isNon_non, isNon_int, isNon_tup, isNon_bl, isNon_str, isNon_ref, isB_bl, max_int, min_int, ixD_tup, atI_0, atI_1, atI_2, atI_3, oneD_some, len_tup, eqD_str, tyD_int, tyD_bl, tyD_non, tyD_str, tyD_tup, is_ii, is_ib, is_it, is_il, is_bi, is_bb, is_bt, is_bl, is_ni, is_nb, is_nt, is_nl, is_si, is_sb, is_st, is_sl, is_ti, is_tb, is_tt, is_tl, is_li, is_lb, is_lt, is_ll, if_true, if_false, Bool.not_true, Bool.not_false, Bool.false_eq_true, Bool.true_eq_false, reduceIte, reduceCtorEq, decide_eq_true_eq, fracD, mulD_sb b1 b4, mulD_sb b3 b2, mulD_sb b2 b4, frac_ok (a := x.num * (y.den : Int) + y.num * (x.den : Int)) (den_prod x y) (Bd.mono (Bd.mul hx.bd hy.bd) (by omega)), rat_add]
  first | exact ⟨rfl, rfl⟩ | exact ⟨rfl, trivial⟩ | exact ⟨trivial, rfl⟩ | exact ⟨trivial, trivial⟩ | trivial | rfl | (simp; done)
theorem minus_ok (hx : SmR 195 x) (hy : SmR 195 y) : minusF [fracD x, fracD y] G = .ok (fracD (x - y)) G := by
  refine wE_eq ?_
  unfold minusF
  rw [wE_body]
  show wS (minusB [some (fracD x), some (fracD y)] G) _ _ _ _
  unfold minusB
  have b1 := Bd.mono hx.bn (show 195 ≤ 400 by omega)
  have b2 := Bd.mono hx.bd (show 195 ≤ 400 by omega)
  have b3 := Bd.mono hy.bn (show 195 ≤ 400 by omega)
  have b4 := Bd.mono hy.bd (show 195 ≤ 400 by omega)
  have e : Rat.divInt (x.num * (y.den : Int) - y.num * (x.den : Int)) ((x.den : Int) * (y.den : Int)) = x - y := by
    rw [Rat.sub_eq_add_neg, ← rat_add, Rat.neg_num, Rat.neg_den]
    congr 1
    grind
  simp only [wS_seq, wS_set, wS_expr, wS_ret, wS_retN, wS_asg, wS_if, wS_pass, wS_break, wS_cont, wS_par, wS_par3, wS_augV, wS_for, wE_call, wE_fn, wE_consA, wE_nilA, wE_bin, wE_un, wE_tup, wE_lst, wE_c, wE_var0, wE_varS, wE_val, wE_truth, wE_toB, wE_andT, wE_orT, wE_notT, wE_ifC, wE_notC, wE_andK, wE_orK, wE_src, wE_iter, wE_meth, wE_gN, wE_gTp3, wE_gTp2, wE_gTp4, wE_gCs, wE_gNl, wE_gSub, wE_isK, isK_some, wE_isN, wE_chK, wE_ch3K, wE_lc, wE_yes, wE_ok, tfK_bl, List.set_cons_succ, List.set_cons_zero, List.append_nil, List.cons_append, List.nil_append, List.map_cons, List.map_nil, List.length_cons, List.length_nil, List.replicate, wipeD, addD_int, subD_int, iaddD_int, negD_int, cmpD_int, eqD_int, intD_int, int_bl, absD_int, truth_bl, truth_int, truth_non, truth_tup, isNon_non, isNon_int, isNon_tup, isNon_bl, isNon_str, isNon_ref, isB_bl, max_int, min_int, ixD_tup, atI_0, atI_1, atI_2, atI_3, oneD_some, len_tup, eqD_str, tyD_int, tyD_bl, tyD_non, tyD_str, tyD_tup, is_ii, is_ib, is_it, is_il, is_bi, is_bb, is_bt, is_bl, is_ni, is_nb, is_nt, is_nl, is_si, is_sb, is_st, is_sl, is_ti, is_tb, is_tt, is_tl, is_li, is_lb, is_lt, is_ll, if_true, if_false, Bool.not_true, Bool.not_false, Bool.false_eq_true, Bool.true_eq_false, reduceIte, reduceCtorEq, decide_eq_true_eq, fracD, mulD_sb b1 b4, mulD_sb b3 b2, mulD_sb b2 b4, frac_ok (a := x.num * (y.den : Int) - y.num * (x.den : Int)) (den_prod x y) (Bd.mono (Bd.mul hx.bd hy.bd) (by omega)), e]
  first | exact ⟨rfl, rfl⟩ | exact ⟨rfl, trivial⟩ | exact ⟨trivial, rfl⟩ | exact ⟨trivial, trivial⟩ | trivial | rfl | (simp; done)
theorem times_ok (hx : SmR 195 x) (hy : SmR 195 y) : timesF [fracD x, fracD y] G = .ok (fracD (x * y)) G := by
  refine wE_eq ?_
  unfold timesF
  rw [wE_body]
  show wS (timesB [some (fracD x), some (fracD y)] G) _ _ _ _
  unfold timesB
  have b1 := Bd.mono hx.bn (show 195 ≤ 400 by omega)
  have b2 := Bd.mono hx.bd (show 195 ≤ 400 by omega)
  have b3 := Bd.mono hy.bn (show 195 ≤ 400 by omega)
  have b4 := Bd.mono hy.bd (show 195 ≤ 400 by omega)
  simp only [wS_seq, wS_set, wS_expr, wS_ret, wS_retN, wS_asg, wS_if, wS_pass, wS_break, wS_cont, wS_par, wS_par3, wS_augV, wS_for, wE_call, wE_fn, wE_consA, wE_nilA, wE_bin, wE_un, wE_tup, wE_lst, wE_c, wE_var0, wE_varS, wE_val, wE_truth, wE_toB, wE_andT, wE_orT, wE_notT, wE_ifC, wE_notC, wE_andK, wE_orK, wE_src, wE_iter, wE_meth, wE_gN, wE_gTp3, wE_gTp2, wE_gTp4, wE_gCs, wE_gNl, wE_gSub, wE_isK, isK_some, wE_isN, wE_chK, wE_ch3K, wE_lc, wE_yes, wE_ok, tfK_bl, List.set_cons_succ, List.set_cons_zero, List.append_nil, List.cons_append, List.nil_append, List.map_cons, List.map_nil, List.length_cons, List.length_nil, List.replicate, wipeD, addD_int, subD_int, iaddD_int, negD_int, cmpD_int, eqD_int, intD_int, int_bl, absD_int, truth_bl, truth_int, truth_non, truth_tup, isNon_non, isNon_int, isNon_tup, isNon_bl, isNon_str, isNon_ref, isB_bl, max_int, min_int, ixD_tup, atI_0, atI_1, atI_2, atI_3, oneD_some, len_tup, eqD_str, tyD_int, tyD_bl, tyD_non, tyD_str, tyD_tup, is_ii, is_ib, is_it, is_il, is_bi, is_bb, is_bt, is_bl, is_ni, is_nb, is_nt, is_nl, is_si, is_sb, is_st, is_sl, is_ti, is_tb, is_tt, is_tl, is_li, is_lb, is_lt, is_ll, if_true, if_false, Bool.not_true, Bool.not_false, Bool.false_eq_true, Bool.true_eq_false, reduceIte, reduceCtorEq, decide_eq_true_eq, fracD, mulD_sb b1 b3, mulD_sb b2 b4, frac_ok (a := x.num * y.num) (den_prod x y) (Bd.mono (Bd.mul hx.bd hy.bd) (by omega)), rat_mul]
  first | exact ⟨rfl, rfl⟩ | exact ⟨rfl, trivial⟩ | exact ⟨trivial, rfl⟩ | exact ⟨trivial, trivial⟩ | trivial | rfl | (simp; done)
theorem rat_div (x y : Rat) (hy : y.num ≠ 0) : Rat.divInt (x.num * (y.den : Int)) ((x.den : Int) * y.num) = x / y := by
  have hx := x.den_nz
  have hd := y.den_nz
  have e : x / y = Rat.divInt x.num x.den / Rat.divInt y.num y.den := by rw [Rat.num_divInt_den, Rat.num_divInt_den]
  rw [e, Rat.div_def, Rat.inv_divInt, Rat.divInt_mul_divInt]
theorem over_ok (hx : SmR 195 x) (hy : SmR 195 y) (h0 : y ≠ 0) : overF [fracD x, fracD y] G = .ok (fracD (x / y)) G := by
  refine wE_eq ?_
  unfold overF
  rw [wE_body]
  show wS (overB [some (fracD x), some (fracD y)] G) _ _ _ _
  unfold overB
  have b1 := Bd.mono hx.bn (show 195 ≤ 400 by omega)
  have b2 := Bd.mono hx.bd (show 195 ≤ 400 by omega)
  have b3 := Bd.mono hy.bn (show 195 ≤ 400 by omega)
  have b4 := Bd.mono hy.bd (show 195 ≤ 400 by omega)
  have n0 : y.num ≠ 0 := fun z => h0 (Rat.num_eq_zero.mp z)
  have hd := x.den_nz
  refine wS_cut1 (σ1 := [some (fracD x), some (fracD y)]) (G1 := G) ?_ ?_
  · rw [wS_if]
    simp only [wS_seq, wS_set, wS_expr, wS_ret, wS_retN, wS_asg, wS_if, wS_pass, wS_break, wS_cont, wS_par, wS_par3, wS_augV, wS_for, wE_call, wE_fn, wE_consA, wE_nilA, wE_bin, wE_un, wE_tup, wE_lst, wE_c, wE_var0, wE_varS, wE_val, wE_truth, wE_toB, wE_andT, wE_orT, wE_notT, wE_ifC, wE_notC, wE_andK, wE_orK, wE_src, wE_iter, wE_meth, wE_gN, wE_gTp3, wE_gTp2, wE_gTp4, wE_gCs, wE_gNl, wE_gSub, wE_isK, isK_some, wE_isN, wE_chK, wE_ch3K, wE_lc, wE_yes, wE_ok, tfK_bl, List.set_cons_succ, List.set_cons_zero, List.append_nil, List.cons_append, List.nil_append, List.map_cons, List.map_nil, List.length_cons, List.length_nil, List.replicate, wipeD, addD_int, subD_int, iaddD_int, negD_int, cmpD_int, eqD_int, intD_int, int_bl, absD_int, truth_bl, truth_int, truth_non, truth_tup, isNon_non, isNon_int, isNon_tup, isNon_bl, isNon_str, isNon_ref, isB_bl, max_int, min_int, ixD_tup, atI_0, atI_1, atI_2, atI_3, oneD_some, len_tup, eqD_str, tyD_int, tyD_bl, tyD_non, tyD_str, tyD_tup, is_ii, is_ib, is_it, is_il, is_bi, is_bb, is_bt, is_bl, is_ni, is_nb, is_nt, is_nl, is_si, is_sb, is_st, is_sl, is_ti, is_tb, is_tt, is_tl, is_li, is_lb, is_lt, is_ll, if_true, if_false, Bool.not_true, Bool.not_false, Bool.false_eq_true, Bool.true_eq_false, reduceIte, reduceCtorEq, decide_eq_true_eq, fracD, n0]
    first | exact ⟨rfl, rfl⟩ | exact ⟨rfl, trivial⟩ | exact ⟨trivial, rfl⟩ | exact ⟨trivial, trivial⟩ | trivial | rfl | (simp; done)
  simp only [wS_seq, wS_set, wS_expr, wS_ret, wS_retN, wS_asg, wS_if, wS_pass, wS_break, wS_cont, wS_par, wS_par3, wS_augV, wS_for, wE_call, wE_fn, wE_consA, wE_nilA, wE_bin, wE_un, wE_tup, wE_lst, wE_c, wE_var0, wE_varS, wE_val, wE_truth, wE_toB, wE_andT, wE_orT, wE_notT, wE_ifC, wE_notC, wE_andK, wE_orK, wE_src, wE_iter, wE_meth, wE_gN, wE_gTp3, wE_gTp2, wE_gTp4, wE_gCs, wE_gNl, wE_gSub, wE_isK, isK_some, wE_isN, wE_chK, wE_ch3K, wE_lc, wE_yes, wE_ok, tfK_bl, List.set_cons_succ, List.set_cons_zero, List.append_nil, List.cons_append, List.nil_append, List.map_cons, List.map_nil, List.length_cons, List.length_nil, List.replicate, wipeD, addD_int, subD_int, iaddD_int, negD_int, cmpD_int, eqD_int, intD_int, int_bl, absD_int, truth_bl, truth_int, truth_non, truth_tup, isNon_non, isNon_int, isNon_tup, isNon_bl, isNon_str, isNon_ref, isB_bl, max_int, min_int, ixD_tup, atI_0, atI_1, atI_2, atI_3, oneD_some, len_tup, eqD_str, tyD_int, tyD_bl, tyD_non, tyD_str, tyD_tup, is_ii, is_ib, is_it, is_il, is_bi, is_bb, is_bt, is_bl, is_ni, is_nb, is_nt, is_nl, is_si, is_sb, is_st, is_sl, is_ti, is_tb, is_tt, is_tl, is_li, is_lb, is_lt, is_ll, if_true, if_false, Bool.not_true, Bool.not_false, Bool.false_eq_true, Bool.true_eq_false, reduceIte, reduceCtorEq, decide_eq_true_eq, fracD, mulD_sb b1 b4, mulD_sb b2 b3, frac_ok (a := x.num * (y.den : Int)) (Int.mul_ne_zero (a := (x.den : Int)) (by omega) n0) (Bd.mono (Bd.mul hx.bd hy.bn) (by omega)), rat_div x y n0]
  first | exact ⟨rfl, rfl⟩ | exact ⟨rfl, trivial⟩ | exact ⟨trivial, rfl⟩ | exact ⟨trivial, trivial⟩ | trivial | rfl | (simp; done)
theorem over_no : overF [fracD x, fracD 0] G = .ex "BadNumber" G.length (G ++ [errX "BadNumber" (fracD 0)]) := by
  refine xE_raised ?_
  unfold overF
  rw [xE_body]
  show xS (overB [some (fracD x), some (fracD 0)] G) _ _ _ _ _
  unfold overB
  have sh : showsD (fracD 0) G = true := shows_shw (Shw.frac (b := 2) ⟨by decide, by decide⟩ (by omega)) (by omega) (by omega)
  rw [xS_seq, xS_if]
  have t : xE (valT (binC (eqD false) (binC ixD (varC 1) (cC (.int 0))) (cC (.int 0))) [some (fracD x), some (fracD 0)] G) (fun x G1 => x = true ∧ G1 = G) (fun _ _ _ => False) := by
    refine xE_w ?_
    simp only [wS_seq, wS_set, wS_expr, wS_ret, wS_retN, wS_asg, wS_if, wS_pass, wS_break, wS_cont, wS_par, wS_par3, wS_augV, wS_for, wE_call, wE_fn, wE_consA, wE_nilA, wE_bin, wE_un, wE_tup, wE_lst, wE_c, wE_var0, wE_varS, wE_val, wE_truth, wE_toB, wE_andT, wE_orT, wE_notT, wE_ifC, wE_notC, wE_andK, wE_orK, wE_src, wE_iter, wE_meth, wE_gN, wE_gTp3, wE_gTp2, wE_gTp4, wE_gCs, wE_gNl, wE_gSub, wE_isK, isK_some, wE_isN, wE_chK, wE_ch3K, wE_lc, wE_yes, wE_ok, tfK_bl, List.set_cons_succ, List.set_cons_zero, List.append_nil, List.cons_append, List.nil_append, List.map_cons, List.map_nil, List.length_cons, List.length_nil, List.replicate, wipeD, addD_int, subD_int, iaddD_int, negD_int, cmpD_int, eqD_int, intD_int, int_bl, absD_int, truth_bl, truth_int, truth_non, truth_tup, isNon_non, isNon_int, isNon_tup, isNon_bl, isNon_str, isNon_ref, isB_bl, max_int, min_int, ixD_tup, atI_0, atI_1, atI_2, atI_3, oneD_some, len_tup, eqD_str, tyD_int, tyD_bl, tyD_non, tyD_str, tyD_tup, is_ii, is_ib, is_it, is_il, is_bi, is_bb, is_bt, is_bl, is_ni, is_nb, is_nt, is_nl, is_si, is_sb, is_st, is_sl, is_ti, is_tb, is_tt, is_tl, is_li, is_lb, is_lt, is_ll, if_true, if_false, Bool.not_true, Bool.not_false, Bool.false_eq_true, Bool.true_eq_false, reduceIte, reduceCtorEq, decide_eq_true_eq, fracD, show (0 : Rat).num = 0 by rfl]
    first | exact ⟨rfl, rfl⟩ | exact ⟨rfl, trivial⟩ | exact ⟨trivial, rfl⟩ | exact ⟨trivial, trivial⟩ | trivial | rfl | (simp; done)
  refine xE_imp t (fun x G1 hx => ?_) (fun _ _ _ h => h.elim)
  rw [hx.1, hx.2, if_pos rfl, xS_raise, xE_varS, xE_var0]
  exact ⟨sh, rfl, rfl, rfl⟩
end
end SX

set_option Elab.async false
set_option linter.all false
set_option maxRecDepth 100000
set_option maxHeartbeats 1000000
namespace SX
open PySem PySem.Spec PyProof.Rows L2 NT
section
variable {G : Hq} {σ : Eq'} {N B C : Eq' → Hq → Prop} {R : D → Hq → Prop}
theorem wE_gSq {n p : Nat} {g : List D → Eq' → Hq → Rs Eq'} {xs : List D} (h : lstOf G (.ref p) = some xs) (hn : xs.length = n) : wE (gSq n g (.ref p) σ G) N = wE (g xs σ G) N := by
  unfold gSq
  simp only [h]
  rw [if_pos hn]
theorem subD_bl {a b : Bool} : subD (.bl a) (.bl b) G = .ok (.int (b2i a - b2i b)) G := nd rfl
theorem addD_lsts {p q : Nat} {xs ys : List D} (hp : G[p]? = some (.lst xs)) (hq : G[q]? = some (.lst ys)) (hl : xs.length + ys.length ≤ 16777216) : addD (.ref p) (.ref q) G = .ok (.ref G.length) (G ++ [.lst (xs ++ ys)]) := by
  unfold addD
  simp only [hp, hq, hl, if_true]
/-- what is no integer stays so -/
theorem NoInt.keep {S : List Nat} {G' : Hq} {v : D} (h : NoInt G v) (f : Fr S G G') (hn : ∀ p, v = .ref p → p ∉ S) : NoInt G' v := by
  obtain ⟨t, h1, h2⟩ := h
  refine ⟨t, ?_, h2⟩
  cases v with
  | ref p =>
    have h3 : (match G[p]? with
      | some (SX.C.lst _) => some "list"
      | some (.ro _) => some "list"
      | some (.dK _) => some "dict"
      | some (.dT _) => some "dict"
      | _ => none) = some t := h1
    have hp : p < G.length := by
      rcases Nat.lt_or_ge p G.length with z | z
      · exact z
      · rw [List.getElem?_eq_none z] at h3
        cases h3
    show (match G'[p]? with
      | some (SX.C.lst _) => some "list"
      | some (.ro _) => some "list"
      | some (.dK _) => some "dict"
      | some (.dT _) => some "dict"
      | _ => none) = some t
    rw [f.at_ p hp (hn p rfl)]
    exact h3
  | _ => exact h1
noncomputable def isintB : SF := (retC (andC (isiC "int" (varC 0)) (notC (isiC "bool" (varC 0)))))
noncomputable def isintF : FF := bodyC 1 isintB
theorem isint_int {i : Int} : isintF [.int i] G = .ok (.bl true) G := by
  refine wE_eq ?_
  unfold isintF
  rw [wE_body]
  show wS (isintB [some (.int i)] G) _ _ _ _
  unfold isintB
  simp only [wS_seq, wS_set, wS_expr, wS_ret, wS_retN, wS_asg, wS_if, wS_pass, wS_break, wS_cont, wS_par, wS_par3, wS_augV, wS_for, wE_call, wE_fn, wE_consA, wE_nilA, wE_bin, wE_un, wE_tup, wE_lst, wE_c, wE_var0, wE_varS, wE_val, wE_truth, wE_toB, wE_andT, wE_orT, wE_notT, wE_ifC, wE_notC, wE_andK, wE_orK, wE_src, wE_iter, wE_meth, wE_gN, wE_gTp3, wE_gTp2, wE_gTp4, wE_gCs, wE_gNl, wE_gSub, wE_isK, isK_some, wE_isN, wE_chK, wE_ch3K, wE_lc, wE_yes, wE_ok, tfK_bl, List.set_cons_succ, List.set_cons_zero, List.append_nil, List.cons_append, List.nil_append, List.map_cons, List.map_nil, List.length_cons, List.length_nil, List.replicate, wipeD, addD_int, subD_int, iaddD_int, negD_int, cmpD_int, eqD_int, intD_int, int_bl, absD_int, truth_bl, truth_int, truth_non, truth_tup, isNon_non, isNon_int, isNon_tup, isNon_bl, isNon_str, isNon_ref, isB_bl, max_int, min_int, ixD_tup, atI_0, atI_1, atI_2, atI_3, oneD_some, len_tup, eqD_str, tyD_int, tyD_bl, tyD_non, tyD_str, tyD_tup, is_ii, is_ib, is_it, is_il, is_bi, is_bb, is_bt, is_bl, is_ni, is_nb, is_nt, is_nl, is_si, is_sb, is_st, is_sl, is_ti, is_tb, is_tt, is_tl, is_li, is_lb, is_lt, is_ll, if_true, if_false, Bool.not_true, Bool.not_false, Bool.false_eq_true, Bool.true_eq_false, reduceIte, reduceCtorEq, decide_eq_true_eq]
  first | exact ⟨rfl, rfl⟩ | exact ⟨rfl, trivial⟩ | exact ⟨trivial, rfl⟩ | exact ⟨trivial, trivial⟩ | trivial | rfl | (simp; done)
theorem isint_no {v : D} (hv : NoInt G v) : isintF [v] G = .ok (.bl false) G := by
  refine wE_eq ?_
  unfold isintF
  rw [wE_body]
  show wS (isintB [some v] G) _ _ _ _
  unfold isintB
  obtain ⟨t, h1, h2 | ⟨h2, h3⟩⟩ := hv
  · simp only [wS_seq, wS_set, wS_expr, wS_ret, wS_retN, wS_asg, wS_if, wS_pass, wS_break, wS_cont, wS_par, wS_par3, wS_augV, wS_for, wE_call, wE_fn, wE_consA, wE_nilA, wE_bin, wE_un, wE_tup, wE_lst, wE_c, wE_var0, wE_varS, wE_val, wE_truth, wE_toB, wE_andT, wE_orT, wE_notT, wE_ifC, wE_notC, wE_andK, wE_orK, wE_src, wE_iter, wE_meth, wE_gN, wE_gTp3, wE_gTp2, wE_gTp4, wE_gCs, wE_gNl, wE_gSub, wE_isK, isK_some, wE_isN, wE_chK, wE_ch3K, wE_lc, wE_yes, wE_ok, tfK_bl, List.set_cons_succ, List.set_cons_zero, List.append_nil, List.cons_append, List.nil_append, List.map_cons, List.map_nil, List.length_cons, List.length_nil, List.replicate, wipeD, addD_int, subD_int, iaddD_int, negD_int, cmpD_int, eqD_int, intD_int, int_bl, absD_int, truth_bl, truth_int, truth_non, truth_tup, isNon_non, isNon_int, isNon_tup, isNon_bl, isNon_str, isNon_ref, isB_bl, max_int, min_int, ixD_tup, atI_0, atI_1, atI_2, atI_3, oneD_some, len_tup, eqD_str, tyD_int, tyD_bl, tyD_non, tyD_str, tyD_tup, is_ii, is_ib, is_it, is_il, is_bi, is_bb, is_bt, is_bl, is_ni, is_nb, is_nt, is_nl, is_si, is_sb, is_st, is_sl, is_ti, is_tb, is_tt, is_tl, is_li, is_lb, is_lt, is_ll, if_true, if_false, Bool.not_true, Bool.not_false, Bool.false_eq_true, Bool.true_eq_false, reduceIte, reduceCtorEq, decide_eq_true_eq, h1, Option.bind_some, h2]
    first | exact ⟨rfl, rfl⟩ | exact ⟨rfl, trivial⟩ | exact ⟨trivial, rfl⟩ | exact ⟨trivial, trivial⟩ | trivial | rfl | (simp; done)
  · simp only [wS_seq, wS_set, wS_expr, wS_ret, wS_retN, wS_asg, wS_if, wS_pass, wS_break, wS_cont, wS_par, wS_par3, wS_augV, wS_for, wE_call, wE_fn, wE_consA, wE_nilA, wE_bin, wE_un, wE_tup, wE_lst, wE_c, wE_var0, wE_varS, wE_val, wE_truth, wE_toB, wE_andT, wE_orT, wE_notT, wE_ifC, wE_notC, wE_andK, wE_orK, wE_src, wE_iter, wE_meth, wE_gN, wE_gTp3, wE_gTp2, wE_gTp4, wE_gCs, wE_gNl, wE_gSub, wE_isK, isK_some, wE_isN, wE_chK, wE_ch3K, wE_lc, wE_yes, wE_ok, tfK_bl, List.set_cons_succ, List.set_cons_zero, List.append_nil, List.cons_append, List.nil_append, List.map_cons, List.map_nil, List.length_cons, List.length_nil, List.replicate, wipeD, addD_int, subD_int, iaddD_int, negD_int, cmpD_int, eqD_int, intD_int, int_bl, absD_int, truth_bl, truth_int, truth_non, truth_tup, isNon_non, isNon_int, isNon_tup, isNon_bl, isNon_str, isNon_ref, isB_bl, max_int, min_int, ixD_tup, atI_0, atI_1, atI_2, atI_3, oneD_some, len_tup, eqD_str, tyD_int, tyD_bl, tyD_non, tyD_str, tyD_tup, is_ii, is_ib, is_it, is_il, is_bi, is_bb, is_bt, is_bl, is_ni, is_nb, is_nt, is_nl, is_si, is_sb, is_st, is_sl, is_ti, is_tb, is_tt, is_tl, is_li, is_lb, is_lt, is_ll, if_true, if_false, Bool.not_true, Bool.not_false, Bool.false_eq_true, Bool.true_eq_false, reduceIte, reduceCtorEq, decide_eq_true_eq, h1, Option.bind_some, h2, h3]
    first | exact ⟨rfl, rfl⟩ | exact ⟨rfl, trivial⟩ | exact ⟨trivial, rfl⟩ | exact ⟨trivial, trivial⟩ | trivial | rfl | (simp; done)
/-- an exception of a suite within a try, caught by the first clause -/
theorem wS_try1 {b : SF} {h : Hd} {r : List Hd} {c : Str} {d : D} {G1 : Hq} (hb : b σ G = .ex c G1.length σ (G1 ++ [errX c d])) (e : h.cl c = some true)
    (q : wS (h.suite (σ.set h.slot (some (.ref (G1.length + 1)))) (G1 ++ [errX c d] ++ [.ins c [(Str.empty, .ref G1.length)]])) (fun σ G => N (σ.set h.slot none) G) R (fun σ G => B (σ.set h.slot none) G) (fun σ G => C (σ.set h.slot none) G)) : wS (tryC b (h :: r) σ G) N R B C := by
  refine wS_try ?_
  rw [hb]
  show wS (goHd (h :: r) c G1.length σ (G1 ++ [errX c d])) N R B C
  rw [wS_hd e, if_pos rfl]
  have : (G1 ++ [errX c d]).length = G1.length + 1 := by simp
  rw [this]
  exact q
theorem errOf_new {c : Str} {d : D} : errOf (G ++ [errX c d] ++ [.ins c [(Str.empty, .ref G.length)]]) (.ref (G.length + 1)) = some (c, ([("place", d), ("word", .str c)] : List (Str × D))) := by
  refine errOf_at (i := G.length) ?_ ?_
  · have e : (G ++ [errX c d]).length = G.length + 1 := by simp
    rw [← e]
    exact at_last
  · rw [List.getElem?_append_left (by simp)]
    exact at_last
/-- a comprehension over a range whose elements are drawn: what each one keeps (w draws at most each) -/
theorem lc_draws {g : GF} {e : EF} {σ0 : Eq'} {Q : Hq → Prop} {c n w d : Nat} {P : D → Prop} (hc : c ≤ 16777216) (k0 : Dk n G d)
    (turn : ∀ k m G', k < c → m + w ≤ n + c * w → Dk m G' d → wE (g (.int (0 + (k : Int) * 1)) σ0 G') fun σ1 G1 => wE (e σ1 G1) fun y G3 => P y ∧ Dk (m + w) G3 d ∧ Fr [d] G' G3)
    (out : ∀ ys G', ys.length = c → (∀ y ∈ ys, P y) → G'[G.length]? = some (.lst ys) → Dk (n + c * w) G' d → Fr [d] G G' → Q G') : wC (lcL (itR 0 1 c) (lcTurn g yesT e σ0 G.length) 0 (G ++ [.lst []])) Q := by
  have hlt := k0.lt
  refine lc_inv (List.range c) (fun k : Nat => D.int (0 + (k : Int) * 1)) (fun k ys G' => k ≤ c ∧ G'[G.length]? = some (.lst ys) ∧ ys.length = k ∧ (∀ y ∈ ys, P y) ∧ Dk (n + k * w) G' d ∧ Fr [d] G G')
    (fun k ys G' _ => src_itR) (fun k a ys G' ha ⟨j0, j1, j2, j3, j4, j5⟩ => ?_) ⟨by omega, at_last, rfl, (fun y hy => by cases hy), (k0.fr Fr.new).mono (by omega), Fr.new⟩ fun ys G' ⟨j0, j1, j2, j3, j4, j5⟩ => ?_
  · have hk : k < c := by
      have := (List.getElem?_eq_some_iff.mp ha).1
      simpa using this
    have ea : a = k := by
      rw [List.getElem?_range hk] at ha
      exact (Option.some.inj ha).symm
    subst ea
    have e1 : (a + 1) * w = a * w + w := Nat.succ_mul a w
    have e2 : (a + 1) * w ≤ c * w := Nat.mul_le_mul_right w hk
    refine wE_imp (turn a (n + a * w) G' hk (by omega) j4) fun σ1 G1 q => ?_
    rw [wE_yes, if_pos rfl]
    refine wE_imp q fun y G3 ⟨q1, q2, q3⟩ => ?_
    have hat := q3.get j1 (by simp; omega)
    refine ⟨hat, by omega, by omega, set_self hat, by simp [j2], fun z hz => ?_, ?_, (j5.trans q3).setNew (Nat.le_refl _)⟩
    · rcases List.mem_append.mp hz with z | z
      · exact j3 _ z
      · rw [List.mem_singleton] at z
        rw [z]
        exact q1
    · exact (q2.keep (Fr.set (S := [G.length]) (c := .lst (ys ++ [y])) (by simp)) (by simp; omega) (by simp; omega)).mono (by omega)
  · rw [List.length_range] at j2 j4
    exact out ys G' j2 j3 j1 j4 j5
theorem wS_tryOk {b : SF} {hs : List Hd} (h : wS (b σ G) N R B C) : wS (tryC b hs σ G) N R B C := wS_try (xS_w h)
end
end SX

set_option Elab.async false
set_option linter.all false
set_option maxRecDepth 100000
set_option maxHeartbeats 4000000
namespace Yk00
open PySem PySem.Spec PyProof.Rows L2 SX
theorem e_deck : _law_deck_c = deckF := by unfold _law_deck_c deckF _law_deck_b deckB; rfl
theorem e_draw : _law_draw_c = drawF := by unfold _law_draw_c drawF _law_draw_b drawB drawT; rfl
theorem e_is : _law_is_c = isF := by unfold _law_is_c isF _law_is_b isB; rfl
def NA : List Str := ["BadNumber", "BadRow", "BadLevel", "BadWeight", "BadMaking", "Unlike", "TooMany", "BadQuadratic", "BadDiscriminant"]
def NB1 : List Str := ["BadGram", "BadPartition", "BadFamily", "BadCurve", "BadPoint"]
def NB2 : List Str := ["BadCode", "BadPrime", "BadQuasi", "NothingThere"]
def NN : List Str := ["BadNumber", "BadRow", "BadLevel", "BadWeight", "BadMaking", "Unlike", "TooMany", "BadQuadratic", "BadDiscriminant", "BadGram", "BadPartition", "BadFamily", "BadCurve", "BadPoint", "BadCode", "BadPrime", "BadQuasi", "NothingThere"]
def NC : List Str := ["BadGram", "BadPartition", "BadFamily", "BadCurve", "BadPoint", "BadCode", "BadPrime", "BadQuasi", "NothingThere"]
theorem nn_split : NA ++ NC = NN := by decide +kernel
def Er (G : Hq) (d : D) (c : Str) (pl : D) : Prop := errOf G d = some (c, ([("place", pl), ("word", .str c)] : List (Str × D)))
def ErL (G : Hq) (ns : List Str) (ds : List D) (pl : D) : Prop := ns.length = ds.length ∧ ∀ (i : Nat) (n : Str), ns[i]? = some n → ∃ d, ds[i]? = some d ∧ Er G d n pl
section
variable {G G' : Hq} {d pl : D} {c : Str} {r : Eq'}
theorem errOf_fr {x : Str × List (Str × D)} (h : errOf G d = some x) (f : Fr [] G G') : errOf G' d = some x := by
  unfold errOf at h ⊢
  split at h
  · rename_i j
    split at h
    · rename_i c' z i hG
      split at h
      · rename_i fs hi
        cases h
        simp only [f.get hG (by simp), f.get hi (by simp)]
      · cases h
    · cases h
  · cases h
theorem Er.fr (h : Er G d c pl) (f : Fr [] G G') : Er G' d c pl := errOf_fr h f
theorem ErL.fr {ns : List Str} {ds : List D} (h : ErL G ns ds pl) (f : Fr [] G G') : ErL G' ns ds pl := ⟨h.1, fun i n e => by
  obtain ⟨d, e1, e2⟩ := h.2 i n e
  exact ⟨d, e1, e2.fr f⟩⟩
theorem ErL.append {ns ms : List Str} {ds es : List D} (h : ErL G ns ds pl) (k : ErL G ms es pl) : ErL G (ns ++ ms) (ds ++ es) pl := by
  refine ⟨by rw [List.length_append, List.length_append, h.1, k.1], fun i n e => ?_⟩
  by_cases hi : i < ns.length
  · rw [List.getElem?_append_left hi] at e
    obtain ⟨d, e1, e2⟩ := h.2 i n e
    exact ⟨d, by rw [List.getElem?_append_left (by rw [← h.1]; exact hi)]; exact e1, e2⟩
  · rw [List.getElem?_append_right (by omega)] at e
    obtain ⟨d, e1, e2⟩ := k.2 _ n e
    exact ⟨d, by rw [List.getElem?_append_right (by rw [← h.1]; omega), ← h.1]; exact e1, e2⟩
theorem new_ok {x : Str} {e : EF} {σ : Eq'} (he : e σ G = .ok pl G) (hs : showsD pl G = true) : newC x e σ G = .ok (.ref (G.length + 1)) (G ++ [errX x pl] ++ [insX x G.length]) := by
  unfold newC
  rw [he]
  show (if showsD pl G = true then _ else _) = _
  rw [if_pos hs]
theorem new_er {x : Str} : Er (G ++ [errX x pl] ++ [insX x G.length]) (.ref (G.length + 1)) x pl := errOf_new
theorem new0_ok {x : Str} {σ : Eq'} : new0C x σ G = .ok (.ref (G.length + 1)) (G ++ [errX x .non] ++ [insX x G.length]) := by
  unfold new0C
  rfl
def newsA : List Str → AF
  | [] => nilA
  | x :: r => consA (newC x (varC 0)) (newsA r)
def news0A : List Str → AF
  | [] => nilA
  | x :: r => consA (new0C x) (news0A r)
theorem news_w (hs : ∀ G, showsD pl G = true) : ∀ ns G, wE (newsA ns (some pl :: r) G) fun ds G' => Fr [] G G' ∧ ErL G' ns ds pl
  | [], G => by
    show wE (nilA _ G) _
    rw [wE_nilA]
    exact ⟨Fr.refl, rfl, fun i n h => by simp at h⟩
  | x :: ns, G => by
    show wE (consA (newC x (varC 0)) (newsA ns) _ G) _
    rw [wE_consA, new_ok (pl := pl) rfl (hs G), wE_ok]
    refine wE_imp (news_w hs ns _) fun ds G' ⟨f, hl, h⟩ => ?_
    refine ⟨(Fr.new.trans Fr.new).trans f, by simp [hl], fun i n hi => ?_⟩
    cases i with
    | zero =>
      have e : x = n := by simpa using hi
      subst e
      exact ⟨_, rfl, new_er.fr f⟩
    | succ i => exact h i n (by simpa using hi)
theorem news0_w {σ : Eq'} : ∀ ns G, wE (news0A ns σ G) fun ds G' => Fr [] G G' ∧ ErL G' ns ds .non
  | [], G => by
    show wE (nilA _ G) _
    rw [wE_nilA]
    exact ⟨Fr.refl, rfl, fun i n h => by simp at h⟩
  | x :: ns, G => by
    show wE (consA (new0C x) (news0A ns) _ G) _
    rw [wE_consA, new0_ok, wE_ok]
    refine wE_imp (news0_w ns _) fun ds G' ⟨f, hl, h⟩ => ?_
    refine ⟨(Fr.new.trans Fr.new).trans f, by simp [hl], fun i n hi => ?_⟩
    cases i with
    | zero =>
      have e : x = n := by simpa using hi
      subst e
      exact ⟨_, rfl, new_er.fr f⟩
    | succ i => exact h i n (by simpa using hi)
theorem first_w (hs : ∀ G, showsD pl G = true) : wE (_law_first_c [pl] G) fun v G' => ∃ p ds, v = .ref p ∧ Fr [] G G' ∧ G'[p]? = some (.lst ds) ∧ ErL G' NA ds pl := by
  unfold _law_first_c
  rw [wE_body]
  show wS (_law_first_b [some pl] G) _ _ _ _
  have e : _law_first_b = retC (lstC (newsA NA)) := by
    unfold _law_first_b
    simp only [NA, newsA]
  rw [e, wS_ret, wE_lst]
  refine wE_imp (news_w hs NA G) fun ds G' ⟨f, h⟩ => ⟨_, ds, rfl, f.trans Fr.new, at_last, h.fr Fr.new⟩
theorem second_w (hs : ∀ G, showsD pl G = true) : wE (_law_second_c [pl] G) fun v G' => ∃ p ds, v = .ref p ∧ Fr [] G G' ∧ G'[p]? = some (.lst ds) ∧ ErL G' (NB1 ++ NB2) ds pl := by
  unfold _law_second_c
  rw [wE_body]
  show wS (_law_second_b [some pl, none] G) _ _ _ _
  have e : _law_second_b = seqC (setC 1 (lstC (newsA NB1))) (retC (binC addD (varC 1) (lstC (newsA NB2)))) := by
    unfold _law_second_b
    simp only [NB1, NB2, newsA]
  rw [e]
  refine wS_cut (fun σ G' => ∃ p ds, σ = [some pl, some (.ref p)] ∧ Fr [] G G' ∧ G'[p]? = some (.lst ds) ∧ ErL G' NB1 ds pl) ?_ fun σ G1 hh => ?_
  · rw [wS_set, wE_lst]
    refine wE_imp (news_w hs NB1 G) fun ds G' ⟨f, h⟩ => ⟨_, ds, rfl, f.trans Fr.new, at_last, h.fr Fr.new⟩
  obtain ⟨p, ds, rfl, f1, a1, h1⟩ := hh
  simp only [wS_seq, wS_set, wS_expr, wS_ret, wS_retN, wS_asg, wS_if, wS_pass, wS_break, wS_cont, wS_par, wS_par3, wS_augV, wS_for, wE_call, wE_fn, wE_consA, wE_nilA, wE_bin, wE_un, wE_tup, wE_lst, wE_c, wE_var0, wE_varS, wE_val, wE_truth, wE_toB, wE_andT, wE_orT, wE_notT, wE_ifC, wE_notC, wE_andK, wE_orK, wE_src, wE_iter, wE_meth, wE_gN, wE_gTp3, wE_gTp2, wE_gTp4, wE_gCs, wE_gNl, wE_gSub, wE_isK, isK_some, wE_isN, wE_chK, wE_ch3K, wE_lc, wE_yes, wE_ok, tfK_bl, List.set_cons_succ, List.set_cons_zero, List.append_nil, List.cons_append, List.nil_append, List.map_cons, List.map_nil, List.length_cons, List.length_nil, List.replicate, wipeD, addD_int, subD_int, iaddD_int, negD_int, cmpD_int, eqD_int, intD_int, int_bl, absD_int, truth_bl, truth_int, truth_non, truth_tup, isNon_non, isNon_int, isNon_tup, isNon_bl, isNon_str, isNon_ref, isB_bl, max_int, min_int, ixD_tup, atI_0, atI_1, atI_2, atI_3, oneD_some, len_tup, eqD_str, tyD_int, tyD_bl, tyD_non, tyD_str, tyD_tup, is_ii, is_ib, is_it, is_il, is_bi, is_bb, is_bt, is_bl, is_ni, is_nb, is_nt, is_nl, is_si, is_sb, is_st, is_sl, is_ti, is_tb, is_tt, is_tl, is_li, is_lb, is_lt, is_ll, if_true, if_false, Bool.not_true, Bool.not_false, Bool.false_eq_true, Bool.true_eq_false, reduceIte, reduceCtorEq, decide_eq_true_eq]
  refine wE_imp (news_w hs NB2 G1) fun es G' ⟨f, h⟩ => ?_
  have ff : Fr [] G1 (G' ++ [.lst es]) := f.trans Fr.new
  have ad := addD_lsts (G := G' ++ [.lst es]) (ff.get a1 (by simp)) at_last (by
    have e1 := h1.1
    have e2 := h.1
    unfold NB1 at e1
    unfold NB2 at e2
    simp at e1 e2
    omega)
  simp only [wS_seq, wS_set, wS_expr, wS_ret, wS_retN, wS_asg, wS_if, wS_pass, wS_break, wS_cont, wS_par, wS_par3, wS_augV, wS_for, wE_call, wE_fn, wE_consA, wE_nilA, wE_bin, wE_un, wE_tup, wE_lst, wE_c, wE_var0, wE_varS, wE_val, wE_truth, wE_toB, wE_andT, wE_orT, wE_notT, wE_ifC, wE_notC, wE_andK, wE_orK, wE_src, wE_iter, wE_meth, wE_gN, wE_gTp3, wE_gTp2, wE_gTp4, wE_gCs, wE_gNl, wE_gSub, wE_isK, isK_some, wE_isN, wE_chK, wE_ch3K, wE_lc, wE_yes, wE_ok, tfK_bl, List.set_cons_succ, List.set_cons_zero, List.append_nil, List.cons_append, List.nil_append, List.map_cons, List.map_nil, List.length_cons, List.length_nil, List.replicate, wipeD, addD_int, subD_int, iaddD_int, negD_int, cmpD_int, eqD_int, intD_int, int_bl, absD_int, truth_bl, truth_int, truth_non, truth_tup, isNon_non, isNon_int, isNon_tup, isNon_bl, isNon_str, isNon_ref, isB_bl, max_int, min_int, ixD_tup, atI_0, atI_1, atI_2, atI_3, oneD_some, len_tup, eqD_str, tyD_int, tyD_bl, tyD_non, tyD_str, tyD_tup, is_ii, is_ib, is_it, is_il, is_bi, is_bb, is_bt, is_bl, is_ni, is_nb, is_nt, is_nl, is_si, is_sb, is_st, is_sl, is_ti, is_tb, is_tt, is_tl, is_li, is_lb, is_lt, is_ll, if_true, if_false, Bool.not_true, Bool.not_false, Bool.false_eq_true, Bool.true_eq_false, reduceIte, reduceCtorEq, decide_eq_true_eq, ad]
  exact ⟨_, _, rfl, (f1.trans ff).trans Fr.new, at_last, ((h1.fr ff).append (h.fr Fr.new)).fr Fr.new⟩
theorem bare_w : wE (_law_bare_c [] G) fun v G' => ∃ p ds, v = .ref p ∧ Fr [] G G' ∧ G'[p]? = some (.lst ds) ∧ ErL G' NN ds .non := by
  unfold _law_bare_c
  have e0 : ((([] : List D).map some) ++ List.replicate (1 - ([] : List D).length) (none : Option D)) = [none] := rfl
  rw [wE_body, e0]
  have e : _law_bare_b = seqC (setC 0 (lstC (news0A NA))) (retC (binC addD (varC 0) (lstC (news0A NC)))) := by
    unfold _law_bare_b
    simp only [NA, NC, news0A]
  rw [e]
  rw [wS_seq, wS_set, wE_lst]
  have key := news0_w (σ := [none]) NA G
  refine wE_imp key ?_
  intro ds G0 hh
  obtain ⟨f0, h0⟩ := hh
  show wS (retC (binC addD (varC 0) (lstC (news0A NC))) [some (.ref G0.length)] (G0 ++ [SX.C.lst ds])) _ _ _ _
  have f1 : Fr [] G (G0 ++ [SX.C.lst ds]) := f0.trans Fr.new
  have a1 : (G0 ++ [SX.C.lst ds])[G0.length]? = some (.lst ds) := at_last
  have h1 : ErL (G0 ++ [SX.C.lst ds]) NA ds .non := h0.fr Fr.new
  generalize hp : G0.length = p at a1 ⊢
  generalize G0 ++ [SX.C.lst ds] = G1 at f1 a1 h1 ⊢
  rw [wS_ret, wE_bin, wE_var0, wE_lst]
  refine wE_imp (news0_w NC G1) fun es G' ⟨f, h⟩ => ?_
  have ff : Fr [] G1 (G' ++ [.lst es]) := f.trans Fr.new
  have ad := addD_lsts (G := G' ++ [.lst es]) (ff.get a1 (by simp)) at_last (by
    have e1 := h1.1
    have e2 := h.1
    unfold NA at e1
    unfold NC at e2
    simp at e1 e2
    omega)
  rw [ad, wE_ok]
  have hf := ((h1.fr ff).append (h.fr Fr.new)).fr (Fr.new (S := []) (c := .lst (ds ++ es)))
  rw [nn_split] at hf
  exact ⟨_, _, rfl, (f1.trans ff).trans Fr.new, at_last, hf⟩
/-! ### the kinds -/
def isA : List (List (Str × Bool)) → AF
  | [] => nilA
  | t :: r => consA (isEC (fun c => t.lookup c) (varC 0)) (isA r)
theorem isE_ok {t : List (Str × Bool)} {b : Bool} {e : EF} {σ : Eq'} {fs : List (Str × D)} (he : e σ G = .ok d G) (h : errOf G d = some (c, fs)) (hb : t.lookup c = some b) : isEC (fun c => t.lookup c) e σ G = .ok (.bl b) G := by
  unfold isEC
  rw [he]
  show (match errOf G d with
    | some (c, _) => (match t.lookup c with
      | some b => .ok (.bl b) G
      | none => .bad)
    | none => .bad : Rs D) = _
  rw [h]
  show (match t.lookup c with
      | some b => .ok (.bl b) G
      | none => .bad : Rs D) = _
  rw [hb]
theorem isA_ok {fs : List (Str × D)} (h : errOf G d = some (c, fs)) : ∀ {ts : List (List (Str × Bool))} {bs : List Bool}, (ts.map fun t => t.lookup c) = bs.map some → isA ts (some d :: r) G = .ok (bs.map D.bl) G
  | [], [], _ => rfl
  | [], b :: bs, e => by cases e
  | t :: ts, [], e => by cases e
  | t :: ts, b :: bs, e => by
    rw [List.map_cons, List.map_cons, List.cons.injEq] at e
    have e1 := isE_ok (e := varC 0) (σ := some d :: r) rfl h e.1
    have e2 := isA_ok h e.2
    refine wE_eq ?_
    show wE (consA (isEC (fun c => t.lookup c) (varC 0)) (isA ts) (some d :: r) G) _
    rw [wE_consA, e1, wE_ok, e2, wE_ok]
    exact ⟨rfl, rfl⟩
def Kt (c : Str) (ys : List Str) : List D := ys.map fun y => D.bl (decide (c = y))
theorem kt_eq (c : Str) (ys : List Str) : (ys.map fun y => decide (c = y)).map D.bl = Kt c ys := by
  rw [List.map_map] <;> rfl
def NX : List Str := NN ++ [("TermError" : Str)]
theorem tab0 : ∀ c ∈ NX, ([is_BadNumber, is_BadRow, is_BadLevel, is_BadWeight] : List (List (Str × Bool))).map (fun t => t.lookup c) = ((["BadNumber", "BadRow", "BadLevel", "BadWeight"] : List Str).map fun y => decide (c = y)).map some := by decide +kernel
theorem tab1 : ∀ c ∈ NX, ([is_BadMaking, is_Unlike, is_TooMany, is_BadQuadratic] : List (List (Str × Bool))).map (fun t => t.lookup c) = ((["BadMaking", "Unlike", "TooMany", "BadQuadratic"] : List Str).map fun y => decide (c = y)).map some := by decide +kernel
theorem tab2 : ∀ c ∈ NX, ([is_BadDiscriminant, is_BadGram, is_BadPartition, is_BadFamily] : List (List (Str × Bool))).map (fun t => t.lookup c) = ((["BadDiscriminant", "BadGram", "BadPartition", "BadFamily"] : List Str).map fun y => decide (c = y)).map some := by decide +kernel
theorem tab3 : ∀ c ∈ NX, ([is_BadCurve, is_BadPoint, is_BadCode, is_BadPrime] : List (List (Str × Bool))).map (fun t => t.lookup c) = ((["BadCurve", "BadPoint", "BadCode", "BadPrime"] : List Str).map fun y => decide (c = y)).map some := by decide +kernel
theorem tab4 : ∀ c ∈ NX, ([is_BadQuasi, is_NothingThere] : List (List (Str × Bool))).map (fun t => t.lookup c) = ((["BadQuasi", "NothingThere"] : List Str).map fun y => decide (c = y)).map some := by decide +kernel
theorem kinds_w {fs : List (Str × D)} (hc : c ∈ NX) (h : errOf G d = some (c, fs)) : wE (_law_kinds_c [d] G) fun v G' => ∃ p, v = .ref p ∧ Fr [] G G' ∧ G'[p]? = some (.lst (Kt c NN)) := by
  unfold _law_kinds_c
  rw [wE_body]
  show wS (_law_kinds_b [some d, none] G) _ _ _ _
  have e : _law_kinds_b = seqC (setC 1 (lstC nilA)) (seqC (setC 1 (binC addD (varC 1) (lstC (isA [is_BadNumber, is_BadRow, is_BadLevel, is_BadWeight])))) (seqC (setC 1 (binC addD (varC 1) (lstC (isA [is_BadMaking, is_Unlike, is_TooMany, is_BadQuadratic])))) (seqC (setC 1 (binC addD (varC 1) (lstC (isA [is_BadDiscriminant, is_BadGram, is_BadPartition, is_BadFamily])))) (seqC (setC 1 (binC addD (varC 1) (lstC (isA [is_BadCurve, is_BadPoint, is_BadCode, is_BadPrime])))) (seqC (setC 1 (binC addD (varC 1) (lstC (isA [is_BadQuasi, is_NothingThere])))) (retC (varC 1))))))) := by
    unfold _law_kinds_b
    simp only [isA]
  rw [e]
  refine wS_cut1 (σ1 := [some d, some (.ref G.length)]) (G1 := G ++ [SX.C.lst []]) (by simp only [wS_seq, wS_set, wS_expr, wS_ret, wS_retN, wS_asg, wS_if, wS_pass, wS_break, wS_cont, wS_par, wS_par3, wS_augV, wS_for, wE_call, wE_fn, wE_consA, wE_nilA, wE_bin, wE_un, wE_tup, wE_lst, wE_c, wE_var0, wE_varS, wE_val, wE_truth, wE_toB, wE_andT, wE_orT, wE_notT, wE_ifC, wE_notC, wE_andK, wE_orK, wE_src, wE_iter, wE_meth, wE_gN, wE_gTp3, wE_gTp2, wE_gTp4, wE_gCs, wE_gNl, wE_gSub, wE_isK, isK_some, wE_isN, wE_chK, wE_ch3K, wE_lc, wE_yes, wE_ok, tfK_bl, List.set_cons_succ, List.set_cons_zero, List.append_nil, List.cons_append, List.nil_append, List.map_cons, List.map_nil, List.length_cons, List.length_nil, List.replicate, wipeD, addD_int, subD_int, iaddD_int, negD_int, cmpD_int, eqD_int, intD_int, int_bl, absD_int, truth_bl, truth_int, truth_non, truth_tup, isNon_non, isNon_int, isNon_tup, isNon_bl, isNon_str, isNon_ref, isB_bl, max_int, min_int, ixD_tup, atI_0, atI_1, atI_2, atI_3, oneD_some, len_tup, eqD_str, tyD_int, tyD_bl, tyD_non, tyD_str, tyD_tup, is_ii, is_ib, is_it, is_il, is_bi, is_bb, is_bt, is_bl, is_ni, is_nb, is_nt, is_nl, is_si, is_sb, is_st, is_sl, is_ti, is_tb, is_tt, is_tl, is_li, is_lb, is_lt, is_ll, if_true, if_false, Bool.not_true, Bool.not_false, Bool.false_eq_true, Bool.true_eq_false, reduceIte, reduceCtorEq, decide_eq_true_eq]; first | exact ⟨rfl, rfl⟩ | exact ⟨rfl, trivial⟩ | exact ⟨trivial, rfl⟩ | exact ⟨trivial, trivial⟩ | trivial | rfl | (simp; done)) ?_
  have st : ∀ (ts : List (List (Str × Bool))) (ys acc : List Str), (ts.map fun t => t.lookup c) = (ys.map fun y => decide (c = y)).map some → acc.length + ys.length ≤ 100 → ∀ (b : SF) (p : Nat) (G1 : Hq) (N R B C), Fr [] G G1 → G1[p]? = some (.lst (Kt c acc)) →
      (∀ q G2, Fr [] G G2 → G2[q]? = some (.lst (Kt c (acc ++ ys))) → wS (b [some d, some (.ref q)] G2) N R B C) → wS (seqC (setC 1 (binC addD (varC 1) (lstC (isA ts)))) b [some d, some (.ref p)] G1) N R B C := by
    intro ts ys acc ht hl b p G1 N R B C f a k
    have e1 := isA_ok (r := [some (.ref p)]) (errOf_fr h f) ht
    rw [kt_eq] at e1
    have fn : Fr [] G1 (G1 ++ [.lst (Kt c ys)]) := Fr.new
    have ad := addD_lsts (G := G1 ++ [.lst (Kt c ys)]) (fn.get a (by simp)) at_last (by simp [Kt]; omega)
    have ea : Kt c acc ++ Kt c ys = Kt c (acc ++ ys) := by
      unfold Kt
      rw [List.map_append]
    rw [ea] at ad
    simp only [wS_seq, wS_set, wS_expr, wS_ret, wS_retN, wS_asg, wS_if, wS_pass, wS_break, wS_cont, wS_par, wS_par3, wS_augV, wS_for, wE_call, wE_fn, wE_consA, wE_nilA, wE_bin, wE_un, wE_tup, wE_lst, wE_c, wE_var0, wE_varS, wE_val, wE_truth, wE_toB, wE_andT, wE_orT, wE_notT, wE_ifC, wE_notC, wE_andK, wE_orK, wE_src, wE_iter, wE_meth, wE_gN, wE_gTp3, wE_gTp2, wE_gTp4, wE_gCs, wE_gNl, wE_gSub, wE_isK, isK_some, wE_isN, wE_chK, wE_ch3K, wE_lc, wE_yes, wE_ok, tfK_bl, List.set_cons_succ, List.set_cons_zero, List.append_nil, List.cons_append, List.nil_append, List.map_cons, List.map_nil, List.length_cons, List.length_nil, List.replicate, wipeD, addD_int, subD_int, iaddD_int, negD_int, cmpD_int, eqD_int, intD_int, int_bl, absD_int, truth_bl, truth_int, truth_non, truth_tup, isNon_non, isNon_int, isNon_tup, isNon_bl, isNon_str, isNon_ref, isB_bl, max_int, min_int, ixD_tup, atI_0, atI_1, atI_2, atI_3, oneD_some, len_tup, eqD_str, tyD_int, tyD_bl, tyD_non, tyD_str, tyD_tup, is_ii, is_ib, is_it, is_il, is_bi, is_bb, is_bt, is_bl, is_ni, is_nb, is_nt, is_nl, is_si, is_sb, is_st, is_sl, is_ti, is_tb, is_tt, is_tl, is_li, is_lb, is_lt, is_ll, if_true, if_false, Bool.not_true, Bool.not_false, Bool.false_eq_true, Bool.true_eq_false, reduceIte, reduceCtorEq, decide_eq_true_eq, e1, ad]
    exact k _ _ ((f.trans fn).trans Fr.new) at_last
  refine st _ ["BadNumber", "BadRow", "BadLevel", "BadWeight"] [] (tab0 c hc) (by decide) _ _ _ _ _ _ _ Fr.new at_last fun q1 G1 f1 a1 => ?_
  refine st _ ["BadMaking", "Unlike", "TooMany", "BadQuadratic"] ["BadNumber", "BadRow", "BadLevel", "BadWeight"] (tab1 c hc) (by decide) _ _ _ _ _ _ _ f1 a1 fun q2 G2 f2 a2 => ?_
  refine st _ ["BadDiscriminant", "BadGram", "BadPartition", "BadFamily"] ["BadNumber", "BadRow", "BadLevel", "BadWeight", "BadMaking", "Unlike", "TooMany", "BadQuadratic"] (tab2 c hc) (by decide) _ _ _ _ _ _ _ f2 a2 fun q3 G3 f3 a3 => ?_
  refine st _ ["BadCurve", "BadPoint", "BadCode", "BadPrime"] ["BadNumber", "BadRow", "BadLevel", "BadWeight", "BadMaking", "Unlike", "TooMany", "BadQuadratic", "BadDiscriminant", "BadGram", "BadPartition", "BadFamily"] (tab3 c hc) (by decide) _ _ _ _ _ _ _ f3 a3 fun q4 G4 f4 a4 => ?_
  refine st _ ["BadQuasi", "NothingThere"] ["BadNumber", "BadRow", "BadLevel", "BadWeight", "BadMaking", "Unlike", "TooMany", "BadQuadratic", "BadDiscriminant", "BadGram", "BadPartition", "BadFamily", "BadCurve", "BadPoint", "BadCode", "BadPrime"] (tab4 c hc) (by decide) _ _ _ _ _ _ _ f4 a4 fun q5 G5 f5 a5 => ?_
  simp only [wS_seq, wS_set, wS_expr, wS_ret, wS_retN, wS_asg, wS_if, wS_pass, wS_break, wS_cont, wS_par, wS_par3, wS_augV, wS_for, wE_call, wE_fn, wE_consA, wE_nilA, wE_bin, wE_un, wE_tup, wE_lst, wE_c, wE_var0, wE_varS, wE_val, wE_truth, wE_toB, wE_andT, wE_orT, wE_notT, wE_ifC, wE_notC, wE_andK, wE_orK, wE_src, wE_iter, wE_meth, wE_gN, wE_gTp3, wE_gTp2, wE_gTp4, wE_gCs, wE_gNl, wE_gSub, wE_isK, isK_some, wE_isN, wE_chK, wE_ch3K, wE_lc, wE_yes, wE_ok, tfK_bl, List.set_cons_succ, List.set_cons_zero, List.append_nil, List.cons_append, List.nil_append, List.map_cons, List.map_nil, List.length_cons, List.length_nil, List.replicate, wipeD, addD_int, subD_int, iaddD_int, negD_int, cmpD_int, eqD_int, intD_int, int_bl, absD_int, truth_bl, truth_int, truth_non, truth_tup, isNon_non, isNon_int, isNon_tup, isNon_bl, isNon_str, isNon_ref, isB_bl, max_int, min_int, ixD_tup, atI_0, atI_1, atI_2, atI_3, oneD_some, len_tup, eqD_str, tyD_int, tyD_bl, tyD_non, tyD_str, tyD_tup, is_ii, is_ib, is_it, is_il, is_bi, is_bb, is_bt, is_bl, is_ni, is_nb, is_nt, is_nl, is_si, is_sb, is_st, is_sl, is_ti, is_tb, is_tt, is_tl, is_li, is_lb, is_lt, is_ll, if_true, if_false, Bool.not_true, Bool.not_false, Bool.false_eq_true, Bool.true_eq_false, reduceIte, reduceCtorEq, decide_eq_true_eq]
  exact ⟨_, rfl, f5, a5⟩
theorem fld_w {f : Str} {fs : List (Str × D)} {e : EF} {σ : Eq'} {x : D} {G0 : Hq} (he : e σ G0 = .ok d G) (h : errOf G d = some (c, fs)) (hc : knE c = true) (hx : fs.lookup f = some x) : fldC knE f e σ G0 = .ok x G := by
  unfold fldC
  rw [he]
  show (match errOf G d with
    | some (c, fs) => if knE c then oneD (fs.lookup f) G else .bad
    | none => .bad : Rs D) = _
  rw [h]
  show (if knE c then oneD (fs.lookup f) G else .bad : Rs D) = _
  rw [if_pos hc, hx, oneD_some]
theorem refX {i j : Nat} {x y : D} {σ : Eq'} {z : D} (h1 : σ[i]? = some (some x)) (h2 : σ[j]? = some (some y)) (h : ixD x y G = .ok z G) : binC ixD (varC i) (varC j) σ G = .ok z G := by
  refine wE_eq ?_
  rw [wE_bin, wE_var h1, wE_var h2, h, wE_ok]
  exact ⟨rfl, rfl⟩
theorem nb_split : NB1 ++ NB2 = NC := by decide +kernel
theorem newT1_ok {x : Str} {σ : Eq'} : newT1 x σ G = .ok (.ref (G.length + 1)) (G ++ [errX x .non] ++ [insX "TermError" G.length]) := by
  unfold newT1
  rfl
theorem newT2_ok {x : Str} {e : EF} {σ : Eq'} (he : e σ G = .ok pl G) (hs : showsD pl G = true) : newT2 x e σ G = .ok (.ref (G.length + 1)) (G ++ [errX x pl] ++ [insX "TermError" G.length]) := by
  unfold newT2
  rw [he]
  show (if showsD pl G = true then _ else _) = _
  rw [if_pos hs]
theorem errOf_T {c : Str} : errOf (G ++ [errX c pl] ++ [insX "TermError" G.length]) (.ref (G.length + 1)) = some (("TermError" : Str), ([("place", pl), ("word", .str c)] : List (Str × D))) := by
  have e1 : (G ++ [errX c pl] ++ [insX "TermError" G.length])[G.length + 1]? = some (.ins "TermError" [(Str.empty, .ref G.length)]) := by
    have e : (G ++ [errX c pl]).length = G.length + 1 := by simp
    rw [← e]
    exact at_last
  have e2 : (G ++ [errX c pl] ++ [insX "TermError" G.length])[G.length]? = some (errX c pl) := by
    rw [List.getElem?_append_left (by simp)]
    exact at_last
  unfold errOf
  simp only [e1, e2]
theorem knE_all : ∀ c ∈ NX, knE c = true := by decide +kernel
theorem asTE : ∀ c ∈ NX, is_TermError.lookup c = some true := by decide +kernel
theorem asVE : ∀ c ∈ NX, is_ValueError.lookup c = some true := by decide +kernel
theorem kt_at : ∀ k, k < 18 → NN.map (fun y => decide (NN.getD k "" = y)) = (List.range 18).map fun j => decide (j = k) := by decide +kernel
theorem nn_ok : ∀ x ∈ NN, ((x.cps.toList.all fun c => decide (c < 1114112)) = true ∧ x.cps.size ≤ 1000) := by decide +kernel
end
end Yk00

set_option Elab.async false
set_option linter.all false
set_option maxRecDepth 100000
set_option maxHeartbeats 4000000
namespace Yk00
open PySem PySem.Spec PyProof.Rows L2 SX
section
variable {G : Hq}
structure Pl (pl : D) : Prop where
  sh : ∀ G, showsD pl G = true
  ex : ∃ a, ∀ G, ∃ k s, Shw G pl a k s ∧ k ≤ 3 ∧ s ≤ 11000
theorem Pl.of {pl : D} {a : PyData} {k s : Nat} (h : ∀ G, Shw G pl a k s) (hk : k ≤ 3 := by omega) (hs : s ≤ 11000 := by omega) : Pl pl :=
  ⟨fun G => shows_shw (h G) (by omega) (by omega), a, fun G => ⟨k, s, h G, hk, hs⟩⟩
theorem shw_str {x : Str} (h : x ∈ NN) : Shw G (.str x) (.str x) 0 10002 := Shw.str (nn_ok x h).1 (nn_ok x h).2
theorem bls_shw {p : Nat} {l : List Bool} (hp : G[p]? = some (.lst (l.map D.bl))) : Shw G (.ref p) (.list (l.map PyData.bool)) 1 ((5 + 2) * l.length + 3) :=
  Shw.lst hp (ShwL.map fun b _ => Shw.bl)
theorem nn_len : NN.length = 18 := by decide +kernel
theorem nn_at {k : Nat} (h : k < 18) : NN[k]? = some (NN.getD k "") := by
  rw [List.getD_eq_getElem?_getD]
  have h' : k < NN.length := by rw [nn_len]; exact h
  rw [List.getElem?_eq_getElem h']
  rfl
theorem nn_mem {k : Nat} (h : k < 18) : NN.getD k "" ∈ NN := List.mem_of_getElem? (nn_at h)
theorem law_all {u : D} {ns : List Int} (hu : lstOf G u = some (ns.map .int)) : wE (law_c [u] G) fun v _ => v = .bl true := by
  unfold law_c
  rw [wE_body]
  show wS (law_b [some u, none, none, none, none, none, none, none, none, none, none] G) _ _ _ _
  unfold law_b
  rw [e_deck, e_draw, e_is]
  refine wS_cut (fun σ G' => ∃ d, σ = [some u, some (.ref d), none, none, none, none, none, none, none, none, none] ∧ Dk 0 G' d) ?_ fun σ G1 hh => ?_
  · simp only [wS_seq, wS_set, wS_expr, wS_ret, wS_retN, wS_asg, wS_if, wS_pass, wS_break, wS_cont, wS_par, wS_par3, wS_augV, wS_for, wE_call, wE_fn, wE_consA, wE_nilA, wE_bin, wE_un, wE_tup, wE_lst, wE_c, wE_var0, wE_varS, wE_val, wE_truth, wE_toB, wE_andT, wE_orT, wE_notT, wE_ifC, wE_notC, wE_andK, wE_orK, wE_src, wE_iter, wE_meth, wE_gN, wE_gTp3, wE_gTp2, wE_gTp4, wE_gCs, wE_gNl, wE_gSub, wE_isK, isK_some, wE_isN, wE_chK, wE_ch3K, wE_lc, wE_yes, wE_ok, tfK_bl, List.set_cons_succ, List.set_cons_zero, List.append_nil, List.cons_append, List.nil_append, List.map_cons, List.map_nil, List.length_cons, List.length_nil, List.replicate, wipeD, addD_int, subD_int, iaddD_int, negD_int, cmpD_int, eqD_int, intD_int, int_bl, absD_int, truth_bl, truth_int, truth_non, truth_tup, isNon_non, isNon_int, isNon_tup, isNon_bl, isNon_str, isNon_ref, isB_bl, max_int, min_int, ixD_tup, atI_0, atI_1, atI_2, atI_3, oneD_some, len_tup, eqD_str, tyD_int, tyD_bl, tyD_non, tyD_str, tyD_tup, is_ii, is_ib, is_it, is_il, is_bi, is_bb, is_bt, is_bl, is_ni, is_nb, is_nt, is_nl, is_si, is_sb, is_st, is_sl, is_ti, is_tb, is_tt, is_tl, is_li, is_lb, is_lt, is_ll, if_true, if_false, Bool.not_true, Bool.not_false, Bool.false_eq_true, Bool.true_eq_false, reduceIte, reduceCtorEq, decide_eq_true_eq]
    refine wE_imp (deck_ok hu) fun v G' ⟨d, e1, _, e2, _⟩ => ?_
    subst e1
    exact ⟨d, rfl, e2⟩
  obtain ⟨d, rfl, k1⟩ := hh
  -- names
  refine wS_cut (fun σ G' => ∃ np, σ = [some u, some (.ref d), some (.ref np), none, none, none, none, none, none, none, none] ∧ G'[np]? = some (.lst (NA.map D.str)) ∧ Dk 0 G' d) ?_ fun σ G2 hh => ?_
  · simp only [wS_seq, wS_set, wS_expr, wS_ret, wS_retN, wS_asg, wS_if, wS_pass, wS_break, wS_cont, wS_par, wS_par3, wS_augV, wS_for, wE_call, wE_fn, wE_consA, wE_nilA, wE_bin, wE_un, wE_tup, wE_lst, wE_c, wE_var0, wE_varS, wE_val, wE_truth, wE_toB, wE_andT, wE_orT, wE_notT, wE_ifC, wE_notC, wE_andK, wE_orK, wE_src, wE_iter, wE_meth, wE_gN, wE_gTp3, wE_gTp2, wE_gTp4, wE_gCs, wE_gNl, wE_gSub, wE_isK, isK_some, wE_isN, wE_chK, wE_ch3K, wE_lc, wE_yes, wE_ok, tfK_bl, List.set_cons_succ, List.set_cons_zero, List.append_nil, List.cons_append, List.nil_append, List.map_cons, List.map_nil, List.length_cons, List.length_nil, List.replicate, wipeD, addD_int, subD_int, iaddD_int, negD_int, cmpD_int, eqD_int, intD_int, int_bl, absD_int, truth_bl, truth_int, truth_non, truth_tup, isNon_non, isNon_int, isNon_tup, isNon_bl, isNon_str, isNon_ref, isB_bl, max_int, min_int, ixD_tup, atI_0, atI_1, atI_2, atI_3, oneD_some, len_tup, eqD_str, tyD_int, tyD_bl, tyD_non, tyD_str, tyD_tup, is_ii, is_ib, is_it, is_il, is_bi, is_bb, is_bt, is_bl, is_ni, is_nb, is_nt, is_nl, is_si, is_sb, is_st, is_sl, is_ti, is_tb, is_tt, is_tl, is_li, is_lb, is_lt, is_ll, if_true, if_false, Bool.not_true, Bool.not_false, Bool.false_eq_true, Bool.true_eq_false, reduceIte, reduceCtorEq, decide_eq_true_eq]
    exact ⟨_, rfl, at_last, k1.fr Fr.new⟩
  obtain ⟨np, rfl, a2, k2⟩ := hh
  refine wS_cut (fun σ G' => ∃ np, σ = [some u, some (.ref d), some (.ref np), none, none, none, none, none, none, none, none] ∧ G'[np]? = some (.lst (NN.map D.str)) ∧ Dk 0 G' d ∧ np ≠ d) ?_ fun σ G3 hh => ?_
  · have fn : Fr [] G2 (G2 ++ [.lst (NC.map D.str)]) := Fr.new
    have ad := addD_lsts (G := G2 ++ [.lst (NC.map D.str)]) (fn.get a2 (by simp)) at_last (by decide +kernel)
    rw [← List.map_append, nn_split] at ad
    have hNC : NC.map D.str = [D.str "BadGram", D.str "BadPartition", D.str "BadFamily", D.str "BadCurve", D.str "BadPoint", D.str "BadCode", D.str "BadPrime", D.str "BadQuasi", D.str "NothingThere"] := rfl
    rw [hNC] at ad fn
    simp only [wS_seq, wS_set, wS_expr, wS_ret, wS_retN, wS_asg, wS_if, wS_pass, wS_break, wS_cont, wS_par, wS_par3, wS_augV, wS_for, wE_call, wE_fn, wE_consA, wE_nilA, wE_bin, wE_un, wE_tup, wE_lst, wE_c, wE_var0, wE_varS, wE_val, wE_truth, wE_toB, wE_andT, wE_orT, wE_notT, wE_ifC, wE_notC, wE_andK, wE_orK, wE_src, wE_iter, wE_meth, wE_gN, wE_gTp3, wE_gTp2, wE_gTp4, wE_gCs, wE_gNl, wE_gSub, wE_isK, isK_some, wE_isN, wE_chK, wE_ch3K, wE_lc, wE_yes, wE_ok, tfK_bl, List.set_cons_succ, List.set_cons_zero, List.append_nil, List.cons_append, List.nil_append, List.map_cons, List.map_nil, List.length_cons, List.length_nil, List.replicate, wipeD, addD_int, subD_int, iaddD_int, negD_int, cmpD_int, eqD_int, intD_int, int_bl, absD_int, truth_bl, truth_int, truth_non, truth_tup, isNon_non, isNon_int, isNon_tup, isNon_bl, isNon_str, isNon_ref, isB_bl, max_int, min_int, ixD_tup, atI_0, atI_1, atI_2, atI_3, oneD_some, len_tup, eqD_str, tyD_int, tyD_bl, tyD_non, tyD_str, tyD_tup, is_ii, is_ib, is_it, is_il, is_bi, is_bb, is_bt, is_bl, is_ni, is_nb, is_nt, is_nl, is_si, is_sb, is_st, is_sl, is_ti, is_tb, is_tt, is_tl, is_li, is_lb, is_lt, is_ll, if_true, if_false, Bool.not_true, Bool.not_false, Bool.false_eq_true, Bool.true_eq_false, reduceIte, reduceCtorEq, decide_eq_true_eq, ad]
    have := k2.lt
    exact ⟨_, rfl, at_last, (k2.fr fn).fr Fr.new, by simp; omega⟩
  obtain ⟨np, rfl, a3, k3, npd⟩ := hh
  -- the place
  refine wS_cut (fun σ G' => ∃ pl, σ = [some u, some (.ref d), some (.ref np), some (pl), none, none, none, none, none, none, none] ∧ Pl pl ∧ G'[np]? = some (.lst (NN.map D.str))) ?_ fun σ G4 hh => ?_
  · simp only [wS_seq, wS_set, wS_expr, wS_ret, wS_retN, wS_asg, wS_if, wS_pass, wS_break, wS_cont, wS_par, wS_par3, wS_augV, wS_for, wE_call, wE_fn, wE_consA, wE_nilA, wE_bin, wE_un, wE_tup, wE_lst, wE_c, wE_var0, wE_varS, wE_val, wE_truth, wE_toB, wE_andT, wE_orT, wE_notT, wE_ifC, wE_notC, wE_andK, wE_orK, wE_src, wE_iter, wE_meth, wE_gN, wE_gTp3, wE_gTp2, wE_gTp4, wE_gCs, wE_gNl, wE_gSub, wE_isK, isK_some, wE_isN, wE_chK, wE_ch3K, wE_lc, wE_yes, wE_ok, tfK_bl, List.set_cons_succ, List.set_cons_zero, List.append_nil, List.cons_append, List.nil_append, List.map_cons, List.map_nil, List.length_cons, List.length_nil, List.replicate, wipeD, addD_int, subD_int, iaddD_int, negD_int, cmpD_int, eqD_int, intD_int, int_bl, absD_int, truth_bl, truth_int, truth_non, truth_tup, isNon_non, isNon_int, isNon_tup, isNon_bl, isNon_str, isNon_ref, isB_bl, max_int, min_int, ixD_tup, atI_0, atI_1, atI_2, atI_3, oneD_some, len_tup, eqD_str, tyD_int, tyD_bl, tyD_non, tyD_str, tyD_tup, is_ii, is_ib, is_it, is_il, is_bi, is_bb, is_bt, is_bl, is_ni, is_nb, is_nt, is_nl, is_si, is_sb, is_st, is_sl, is_ti, is_tb, is_tt, is_tl, is_li, is_lb, is_lt, is_ll, if_true, if_false, Bool.not_true, Bool.not_false, Bool.false_eq_true, Bool.true_eq_false, reduceIte, reduceCtorEq, decide_eq_true_eq]
    refine draw_of k3 (by omega) (by omega) (by omega) fun t G4 ht kd ff => ?_
    try simp only [wS_seq, wS_set, wS_expr, wS_ret, wS_retN, wS_asg, wS_if, wS_pass, wS_break, wS_cont, wS_par, wS_par3, wS_augV, wS_for, wE_call, wE_fn, wE_consA, wE_nilA, wE_bin, wE_un, wE_tup, wE_lst, wE_c, wE_var0, wE_varS, wE_val, wE_truth, wE_toB, wE_andT, wE_orT, wE_notT, wE_ifC, wE_notC, wE_andK, wE_orK, wE_src, wE_iter, wE_meth, wE_gN, wE_gTp3, wE_gTp2, wE_gTp4, wE_gCs, wE_gNl, wE_gSub, wE_isK, isK_some, wE_isN, wE_chK, wE_ch3K, wE_lc, wE_yes, wE_ok, tfK_bl, List.set_cons_succ, List.set_cons_zero, List.append_nil, List.cons_append, List.nil_append, List.map_cons, List.map_nil, List.length_cons, List.length_nil, List.replicate, wipeD, addD_int, subD_int, iaddD_int, negD_int, cmpD_int, eqD_int, intD_int, int_bl, absD_int, truth_bl, truth_int, truth_non, truth_tup, isNon_non, isNon_int, isNon_tup, isNon_bl, isNon_str, isNon_ref, isB_bl, max_int, min_int, ixD_tup, atI_0, atI_1, atI_2, atI_3, oneD_some, len_tup, eqD_str, tyD_int, tyD_bl, tyD_non, tyD_str, tyD_tup, is_ii, is_ib, is_it, is_il, is_bi, is_bb, is_bt, is_bl, is_ni, is_nb, is_nt, is_nl, is_si, is_sb, is_st, is_sl, is_ti, is_tb, is_tt, is_tl, is_li, is_lb, is_lt, is_ll, if_true, if_false, Bool.not_true, Bool.not_false, Bool.false_eq_true, Bool.true_eq_false, reduceIte, reduceCtorEq, decide_eq_true_eq]
    refine pick_of kd (by omega) (by simp) (by simp) (by simp) fun x hx G5 kd2 f2 => ?_
    refine ⟨x, by trivial, ?_, f2.get (ff.get a3 (by simpa using npd)) (by simpa using npd)⟩
    simp only [List.mem_cons, List.not_mem_nil, or_false] at hx
    rcases hx with rfl | rfl | rfl | rfl | rfl
    · exact Pl.of fun G => Shw.non
    · exact Pl.of fun G => Shw.int (b := 10) (Bd.of (k := 10) (by omega) (by omega)) (by omega)
    · exact Pl.of fun G => Shw.str (by decide +kernel) (by decide +kernel)
    · exact Pl.of fun G => Shw.tup (ShwL.cons (Shw.int (b := 4) (by decide) (by omega)) (ShwL.cons (Shw.int (b := 4) (by decide) (by omega)) ShwL.nil))
    · exact Pl.of fun G => Shw.int (b := 4) (by decide) (by omega)
  obtain ⟨pl, rfl, hpl, a4⟩ := hh
  clear k1 k2 k3 a2 a3
  -- the errors
  refine wS_cut (fun σ G' => ∃ ep es, σ = [some u, some (.ref d), some (.ref np), some (pl), some (.ref ep), none, none, none, none, none, none] ∧ Fr [] G4 G' ∧ G'[ep]? = some (.lst es) ∧ ErL G' NN es pl) ?_ fun σ G5 hh => ?_
  · simp only [wS_seq, wS_set, wS_expr, wS_ret, wS_retN, wS_asg, wS_if, wS_pass, wS_break, wS_cont, wS_par, wS_par3, wS_augV, wS_for, wE_call, wE_fn, wE_consA, wE_nilA, wE_bin, wE_un, wE_tup, wE_lst, wE_c, wE_var0, wE_varS, wE_val, wE_truth, wE_toB, wE_andT, wE_orT, wE_notT, wE_ifC, wE_notC, wE_andK, wE_orK, wE_src, wE_iter, wE_meth, wE_gN, wE_gTp3, wE_gTp2, wE_gTp4, wE_gCs, wE_gNl, wE_gSub, wE_isK, isK_some, wE_isN, wE_chK, wE_ch3K, wE_lc, wE_yes, wE_ok, tfK_bl, List.set_cons_succ, List.set_cons_zero, List.append_nil, List.cons_append, List.nil_append, List.map_cons, List.map_nil, List.length_cons, List.length_nil, List.replicate, wipeD, addD_int, subD_int, iaddD_int, negD_int, cmpD_int, eqD_int, intD_int, int_bl, absD_int, truth_bl, truth_int, truth_non, truth_tup, isNon_non, isNon_int, isNon_tup, isNon_bl, isNon_str, isNon_ref, isB_bl, max_int, min_int, ixD_tup, atI_0, atI_1, atI_2, atI_3, oneD_some, len_tup, eqD_str, tyD_int, tyD_bl, tyD_non, tyD_str, tyD_tup, is_ii, is_ib, is_it, is_il, is_bi, is_bb, is_bt, is_bl, is_ni, is_nb, is_nt, is_nl, is_si, is_sb, is_st, is_sl, is_ti, is_tb, is_tt, is_tl, is_li, is_lb, is_lt, is_ll, if_true, if_false, Bool.not_true, Bool.not_false, Bool.false_eq_true, Bool.true_eq_false, reduceIte, reduceCtorEq, decide_eq_true_eq]
    refine wE_imp (first_w hpl.sh) fun v G5 ⟨p1, d1, e1, f1, a1, h1⟩ => ?_
    subst e1
    try simp only [wS_seq, wS_set, wS_expr, wS_ret, wS_retN, wS_asg, wS_if, wS_pass, wS_break, wS_cont, wS_par, wS_par3, wS_augV, wS_for, wE_call, wE_fn, wE_consA, wE_nilA, wE_bin, wE_un, wE_tup, wE_lst, wE_c, wE_var0, wE_varS, wE_val, wE_truth, wE_toB, wE_andT, wE_orT, wE_notT, wE_ifC, wE_notC, wE_andK, wE_orK, wE_src, wE_iter, wE_meth, wE_gN, wE_gTp3, wE_gTp2, wE_gTp4, wE_gCs, wE_gNl, wE_gSub, wE_isK, isK_some, wE_isN, wE_chK, wE_ch3K, wE_lc, wE_yes, wE_ok, tfK_bl, List.set_cons_succ, List.set_cons_zero, List.append_nil, List.cons_append, List.nil_append, List.map_cons, List.map_nil, List.length_cons, List.length_nil, List.replicate, wipeD, addD_int, subD_int, iaddD_int, negD_int, cmpD_int, eqD_int, intD_int, int_bl, absD_int, truth_bl, truth_int, truth_non, truth_tup, isNon_non, isNon_int, isNon_tup, isNon_bl, isNon_str, isNon_ref, isB_bl, max_int, min_int, ixD_tup, atI_0, atI_1, atI_2, atI_3, oneD_some, len_tup, eqD_str, tyD_int, tyD_bl, tyD_non, tyD_str, tyD_tup, is_ii, is_ib, is_it, is_il, is_bi, is_bb, is_bt, is_bl, is_ni, is_nb, is_nt, is_nl, is_si, is_sb, is_st, is_sl, is_ti, is_tb, is_tt, is_tl, is_li, is_lb, is_lt, is_ll, if_true, if_false, Bool.not_true, Bool.not_false, Bool.false_eq_true, Bool.true_eq_false, reduceIte, reduceCtorEq, decide_eq_true_eq]
    refine wE_imp (second_w hpl.sh) fun v G6 ⟨p2, d2, e2, f2, a2, h2⟩ => ?_
    subst e2
    have l1 : d1.length = 9 := by
      have := h1.1
      unfold NA at this
      simpa using this.symm
    have l2 : d2.length = 9 := by
      have := h2.1
      unfold NB1 NB2 at this
      simpa using this.symm
    have ad := addD_lsts (G := G6) (f2.get a1 (by simp)) a2 (by omega)
    simp only [wS_seq, wS_set, wS_expr, wS_ret, wS_retN, wS_asg, wS_if, wS_pass, wS_break, wS_cont, wS_par, wS_par3, wS_augV, wS_for, wE_call, wE_fn, wE_consA, wE_nilA, wE_bin, wE_un, wE_tup, wE_lst, wE_c, wE_var0, wE_varS, wE_val, wE_truth, wE_toB, wE_andT, wE_orT, wE_notT, wE_ifC, wE_notC, wE_andK, wE_orK, wE_src, wE_iter, wE_meth, wE_gN, wE_gTp3, wE_gTp2, wE_gTp4, wE_gCs, wE_gNl, wE_gSub, wE_isK, isK_some, wE_isN, wE_chK, wE_ch3K, wE_lc, wE_yes, wE_ok, tfK_bl, List.set_cons_succ, List.set_cons_zero, List.append_nil, List.cons_append, List.nil_append, List.map_cons, List.map_nil, List.length_cons, List.length_nil, List.replicate, wipeD, addD_int, subD_int, iaddD_int, negD_int, cmpD_int, eqD_int, intD_int, int_bl, absD_int, truth_bl, truth_int, truth_non, truth_tup, isNon_non, isNon_int, isNon_tup, isNon_bl, isNon_str, isNon_ref, isB_bl, max_int, min_int, ixD_tup, atI_0, atI_1, atI_2, atI_3, oneD_some, len_tup, eqD_str, tyD_int, tyD_bl, tyD_non, tyD_str, tyD_tup, is_ii, is_ib, is_it, is_il, is_bi, is_bb, is_bt, is_bl, is_ni, is_nb, is_nt, is_nl, is_si, is_sb, is_st, is_sl, is_ti, is_tb, is_tt, is_tl, is_li, is_lb, is_lt, is_ll, if_true, if_false, Bool.not_true, Bool.not_false, Bool.false_eq_true, Bool.true_eq_false, reduceIte, reduceCtorEq, decide_eq_true_eq, ad]
    have hf := ((h1.fr f2).append h2).fr (Fr.new (S := []) (c := .lst (d1 ++ d2)))
    rw [nb_split, nn_split] at hf
    exact ⟨_, _, rfl, (f1.trans f2).trans Fr.new, at_last, hf⟩
  obtain ⟨ep, es, rfl, f5, aE, hE⟩ := hh
  have aN := f5.get a4 (by simp)
  refine wS_cut (fun σ G' => ∃ bp bs, σ = [some u, some (.ref d), some (.ref np), some (pl), some (.ref ep), some (.ref bp), none, none, none, none, none] ∧ Fr [] G5 G' ∧ G'[bp]? = some (.lst bs) ∧ ErL G' NN bs .non) ?_ fun σ G6 hh => ?_
  · simp only [wS_seq, wS_set, wS_expr, wS_ret, wS_retN, wS_asg, wS_if, wS_pass, wS_break, wS_cont, wS_par, wS_par3, wS_augV, wS_for, wE_call, wE_fn, wE_consA, wE_nilA, wE_bin, wE_un, wE_tup, wE_lst, wE_c, wE_var0, wE_varS, wE_val, wE_truth, wE_toB, wE_andT, wE_orT, wE_notT, wE_ifC, wE_notC, wE_andK, wE_orK, wE_src, wE_iter, wE_meth, wE_gN, wE_gTp3, wE_gTp2, wE_gTp4, wE_gCs, wE_gNl, wE_gSub, wE_isK, isK_some, wE_isN, wE_chK, wE_ch3K, wE_lc, wE_yes, wE_ok, tfK_bl, List.set_cons_succ, List.set_cons_zero, List.append_nil, List.cons_append, List.nil_append, List.map_cons, List.map_nil, List.length_cons, List.length_nil, List.replicate, wipeD, addD_int, subD_int, iaddD_int, negD_int, cmpD_int, eqD_int, intD_int, int_bl, absD_int, truth_bl, truth_int, truth_non, truth_tup, isNon_non, isNon_int, isNon_tup, isNon_bl, isNon_str, isNon_ref, isB_bl, max_int, min_int, ixD_tup, atI_0, atI_1, atI_2, atI_3, oneD_some, len_tup, eqD_str, tyD_int, tyD_bl, tyD_non, tyD_str, tyD_tup, is_ii, is_ib, is_it, is_il, is_bi, is_bb, is_bt, is_bl, is_ni, is_nb, is_nt, is_nl, is_si, is_sb, is_st, is_sl, is_ti, is_tb, is_tt, is_tl, is_li, is_lb, is_lt, is_ll, if_true, if_false, Bool.not_true, Bool.not_false, Bool.false_eq_true, Bool.true_eq_false, reduceIte, reduceCtorEq, decide_eq_true_eq]
    refine wE_imp bare_w fun v G6 ⟨p1, d1, e1, f1, a1, h1⟩ => ?_
    subst e1
    exact ⟨_, _, rfl, f1, a1, h1⟩
  obtain ⟨bp, bs, rfl, f6, aB, hB⟩ := hh
  have aN := f6.get aN (by simp)
  have aE := f6.get aE (by simp)
  have hE := hE.fr f6
  clear f6 f5 a4
  obtain ⟨pa, hpa⟩ := hpl.ex
  -- the loop
  refine wS_cut (fun σ G' => ∃ x6 x9, σ = [some u, some (.ref d), some (.ref np), some (pl), some (.ref ep), some (.ref bp), x6, none, none, x9, none] ∧ Fr [] G6 G') ?_ fun σ G7 hh => ?_
  · simp only [wS_seq, wS_set, wS_expr, wS_ret, wS_retN, wS_asg, wS_if, wS_pass, wS_break, wS_cont, wS_par, wS_par3, wS_augV, wS_for, wE_call, wE_fn, wE_consA, wE_nilA, wE_bin, wE_un, wE_tup, wE_lst, wE_c, wE_var0, wE_varS, wE_val, wE_truth, wE_toB, wE_andT, wE_orT, wE_notT, wE_ifC, wE_notC, wE_andK, wE_orK, wE_src, wE_iter, wE_meth, wE_gN, wE_gTp3, wE_gTp2, wE_gTp4, wE_gCs, wE_gNl, wE_gSub, wE_isK, isK_some, wE_isN, wE_chK, wE_ch3K, wE_lc, wE_yes, wE_ok, tfK_bl, List.set_cons_succ, List.set_cons_zero, List.append_nil, List.cons_append, List.nil_append, List.map_cons, List.map_nil, List.length_cons, List.length_nil, List.replicate, wipeD, addD_int, subD_int, iaddD_int, negD_int, cmpD_int, eqD_int, intD_int, int_bl, absD_int, truth_bl, truth_int, truth_non, truth_tup, isNon_non, isNon_int, isNon_tup, isNon_bl, isNon_str, isNon_ref, isB_bl, max_int, min_int, ixD_tup, atI_0, atI_1, atI_2, atI_3, oneD_some, len_tup, eqD_str, tyD_int, tyD_bl, tyD_non, tyD_str, tyD_tup, is_ii, is_ib, is_it, is_il, is_bi, is_bb, is_bt, is_bl, is_ni, is_nb, is_nt, is_nl, is_si, is_sb, is_st, is_sl, is_ti, is_tb, is_tt, is_tl, is_li, is_lb, is_lt, is_ll, if_true, if_false, Bool.not_true, Bool.not_false, Bool.false_eq_true, Bool.true_eq_false, reduceIte, reduceCtorEq, decide_eq_true_eq, lenD_of (lstOf_lst aN), List.length_map, nn_len, rangeD1 (small_of (n := ((18 : Nat) : Int)) (by omega) (by omega)), Int.toNat_natCast]
    refine wS_forR (fun k σ G' => ∃ x6 x9, σ = [some u, some (.ref d), some (.ref np), some (pl), some (.ref ep), some (.ref bp), x6, none, none, x9, none] ∧ Fr [] G6 G') ⟨none, none, rfl, Fr.refl⟩ (fun k hk σ G' hI => ?_) (fun σ G' hI => hI)
    obtain ⟨x6, x9, rfl, fr⟩ := hI
    rw [wE_gN]
    simp only [List.set_cons_succ, List.set_cons_zero]
    have zk : (0 + (k : Int) * 1) = (k : Int) := by omega
    rw [zk]
    have aN' := fr.get aN (by simp)
    have aE' := fr.get aE (by simp)
    have aB' := fr.get aB (by simp)
    obtain ⟨eD, ie, he⟩ := (hE.fr fr).2 k _ (nn_at hk)
    obtain ⟨bD, ib, hb⟩ := (hB.fr fr).2 k _ (nn_at hk)
    have ixE : ∀ {H : Hq}, Fr [] G' H → ixD (.ref ep) (.int (k : Int)) H = .ok eD H := fun f => idx_nat (f.get aE' (by simp)) ie
    have ixB : ∀ {H : Hq}, Fr [] G' H → ixD (.ref bp) (.int (k : Int)) H = .ok bD H := fun f => idx_nat (f.get aB' (by simp)) ib
    have ixN : ∀ {H : Hq}, Fr [] G' H → ixD (.ref np) (.int (k : Int)) H = .ok (.str (NN.getD k "")) H := fun f => idx_nat (f.get aN' (by simp)) (by rw [List.getElem?_map, nn_at hk]; rfl)
    have hmem := nn_mem hk
    have hmx : NN.getD k "" ∈ NX := List.mem_append_left _ hmem
    refine wS_cut (fun σ G2 => ∃ x9, σ = [some u, some (.ref d), some (.ref np), some (pl), some (.ref ep), some (.ref bp), some (.int (k : Int)), none, none, x9, none] ∧ Fr [] G' G2) ?_ fun σ G2 hh => ?_
    · simp only [wS_seq, wS_set, wS_expr, wS_ret, wS_retN, wS_asg, wS_if, wS_pass, wS_break, wS_cont, wS_par, wS_par3, wS_augV, wS_for, wE_call, wE_fn, wE_consA, wE_nilA, wE_bin, wE_un, wE_tup, wE_lst, wE_c, wE_var0, wE_varS, wE_val, wE_truth, wE_toB, wE_andT, wE_orT, wE_notT, wE_ifC, wE_notC, wE_andK, wE_orK, wE_src, wE_iter, wE_meth, wE_gN, wE_gTp3, wE_gTp2, wE_gTp4, wE_gCs, wE_gNl, wE_gSub, wE_isK, isK_some, wE_isN, wE_chK, wE_ch3K, wE_lc, wE_yes, wE_ok, tfK_bl, List.set_cons_succ, List.set_cons_zero, List.append_nil, List.cons_append, List.nil_append, List.map_cons, List.map_nil, List.length_cons, List.length_nil, List.replicate, wipeD, addD_int, subD_int, iaddD_int, negD_int, cmpD_int, eqD_int, intD_int, int_bl, absD_int, truth_bl, truth_int, truth_non, truth_tup, isNon_non, isNon_int, isNon_tup, isNon_bl, isNon_str, isNon_ref, isB_bl, max_int, min_int, ixD_tup, atI_0, atI_1, atI_2, atI_3, oneD_some, len_tup, eqD_str, tyD_int, tyD_bl, tyD_non, tyD_str, tyD_tup, is_ii, is_ib, is_it, is_il, is_bi, is_bb, is_bt, is_bl, is_ni, is_nb, is_nt, is_nl, is_si, is_sb, is_st, is_sl, is_ti, is_tb, is_tt, is_tl, is_li, is_lb, is_lt, is_ll, if_true, if_false, Bool.not_true, Bool.not_false, Bool.false_eq_true, Bool.true_eq_false, reduceIte, reduceCtorEq, decide_eq_true_eq, ixE Fr.refl, ixB Fr.refl, iterD_ref (lstOf_lst (at_last (G := G') (c := .lst [eD, bD])))]
      refine wS_forLs [eD, bD] (fun i σ G2 => ∃ x9, σ = [some u, some (.ref d), some (.ref np), some (pl), some (.ref ep), some (.ref bp), some (.int (k : Int)), none, none, x9, none] ∧ Fr [] (G' ++ [.lst [eD, bD]]) G2) ⟨x9, rfl, Fr.refl⟩ (fun i σ G2 hI => ?_) (fun i x σ G2 hx hI => ?_) (fun σ G2 hI => ?_)
      · obtain ⟨_, _, f⟩ := hI
        exact lstOf_lst (f.get at_last (by simp))
      · obtain ⟨y9, rfl, f2⟩ := hI
        have f3 : Fr [] G' G2 := Fr.new.trans f2
        rw [wE_gN]
        simp only [List.set_cons_succ, List.set_cons_zero]
        have hx' : ∃ pl, Er G2 x (NN.getD k "") pl := by
          have hm := List.mem_of_getElem? hx
          simp only [List.mem_cons, List.not_mem_nil, or_false] at hm
          rcases hm with rfl | rfl
          · exact ⟨_, he.fr f3⟩
          · exact ⟨_, hb.fr f3⟩
        obtain ⟨plx, hxe⟩ := hx'
        refine wS_cut1 (σ1 := [some u, some (.ref d), some (.ref np), some (pl), some (.ref ep), some (.ref bp), some (.int (k : Int)), none, none, some (x), none]) (G1 := G2) ?_ ?_
        · have q1 := isE_ok (e := varC 9) (σ := [some u, some (.ref d), some (.ref np), some (pl), some (.ref ep), some (.ref bp), some (.int (k : Int)), none, none, some (x), none]) rfl hxe (asTE _ hmx)
          have q2 := isE_ok (e := varC 9) (σ := [some u, some (.ref d), some (.ref np), some (pl), some (.ref ep), some (.ref bp), some (.int (k : Int)), none, none, some (x), none]) rfl hxe (asVE _ hmx)
          simp only [wS_seq, wS_set, wS_expr, wS_ret, wS_retN, wS_asg, wS_if, wS_pass, wS_break, wS_cont, wS_par, wS_par3, wS_augV, wS_for, wE_call, wE_fn, wE_consA, wE_nilA, wE_bin, wE_un, wE_tup, wE_lst, wE_c, wE_var0, wE_varS, wE_val, wE_truth, wE_toB, wE_andT, wE_orT, wE_notT, wE_ifC, wE_notC, wE_andK, wE_orK, wE_src, wE_iter, wE_meth, wE_gN, wE_gTp3, wE_gTp2, wE_gTp4, wE_gCs, wE_gNl, wE_gSub, wE_isK, isK_some, wE_isN, wE_chK, wE_ch3K, wE_lc, wE_yes, wE_ok, tfK_bl, List.set_cons_succ, List.set_cons_zero, List.append_nil, List.cons_append, List.nil_append, List.map_cons, List.map_nil, List.length_cons, List.length_nil, List.replicate, wipeD, addD_int, subD_int, iaddD_int, negD_int, cmpD_int, eqD_int, intD_int, int_bl, absD_int, truth_bl, truth_int, truth_non, truth_tup, isNon_non, isNon_int, isNon_tup, isNon_bl, isNon_str, isNon_ref, isB_bl, max_int, min_int, ixD_tup, atI_0, atI_1, atI_2, atI_3, oneD_some, len_tup, eqD_str, tyD_int, tyD_bl, tyD_non, tyD_str, tyD_tup, is_ii, is_ib, is_it, is_il, is_bi, is_bb, is_bt, is_bl, is_ni, is_nb, is_nt, is_nl, is_si, is_sb, is_st, is_sl, is_ti, is_tb, is_tt, is_tl, is_li, is_lb, is_lt, is_ll, if_true, if_false, Bool.not_true, Bool.not_false, Bool.false_eq_true, Bool.true_eq_false, reduceIte, reduceCtorEq, decide_eq_true_eq, q1, q2]
          first | exact ⟨rfl, rfl⟩ | exact ⟨rfl, trivial⟩ | exact ⟨trivial, rfl⟩ | exact ⟨trivial, trivial⟩ | trivial | rfl | (simp; done)
        · simp only [wS_seq, wS_set, wS_expr, wS_ret, wS_retN, wS_asg, wS_if, wS_pass, wS_break, wS_cont, wS_par, wS_par3, wS_augV, wS_for, wE_call, wE_fn, wE_consA, wE_nilA, wE_bin, wE_un, wE_tup, wE_lst, wE_c, wE_var0, wE_varS, wE_val, wE_truth, wE_toB, wE_andT, wE_orT, wE_notT, wE_ifC, wE_notC, wE_andK, wE_orK, wE_src, wE_iter, wE_meth, wE_gN, wE_gTp3, wE_gTp2, wE_gTp4, wE_gCs, wE_gNl, wE_gSub, wE_isK, isK_some, wE_isN, wE_chK, wE_ch3K, wE_lc, wE_yes, wE_ok, tfK_bl, List.set_cons_succ, List.set_cons_zero, List.append_nil, List.cons_append, List.nil_append, List.map_cons, List.map_nil, List.length_cons, List.length_nil, List.replicate, wipeD, addD_int, subD_int, iaddD_int, negD_int, cmpD_int, eqD_int, intD_int, int_bl, absD_int, truth_bl, truth_int, truth_non, truth_tup, isNon_non, isNon_int, isNon_tup, isNon_bl, isNon_str, isNon_ref, isB_bl, max_int, min_int, ixD_tup, atI_0, atI_1, atI_2, atI_3, oneD_some, len_tup, eqD_str, tyD_int, tyD_bl, tyD_non, tyD_str, tyD_tup, is_ii, is_ib, is_it, is_il, is_bi, is_bb, is_bt, is_bl, is_ni, is_nb, is_nt, is_nl, is_si, is_sb, is_st, is_sl, is_ti, is_tb, is_tt, is_tl, is_li, is_lb, is_lt, is_ll, if_true, if_false, Bool.not_true, Bool.not_false, Bool.false_eq_true, Bool.true_eq_false, reduceIte, reduceCtorEq, decide_eq_true_eq]
          refine wE_imp (kinds_w hmx hxe) fun v G3 ⟨q, e3, f4, a4⟩ => ?_
          subst e3
          have aN3 := f4.get (f3.get aN' (by simp)) (by simp)
          simp only [wS_seq, wS_set, wS_expr, wS_ret, wS_retN, wS_asg, wS_if, wS_pass, wS_break, wS_cont, wS_par, wS_par3, wS_augV, wS_for, wE_call, wE_fn, wE_consA, wE_nilA, wE_bin, wE_un, wE_tup, wE_lst, wE_c, wE_var0, wE_varS, wE_val, wE_truth, wE_toB, wE_andT, wE_orT, wE_notT, wE_ifC, wE_notC, wE_andK, wE_orK, wE_src, wE_iter, wE_meth, wE_gN, wE_gTp3, wE_gTp2, wE_gTp4, wE_gCs, wE_gNl, wE_gSub, wE_isK, isK_some, wE_isN, wE_chK, wE_ch3K, wE_lc, wE_yes, wE_ok, tfK_bl, List.set_cons_succ, List.set_cons_zero, List.append_nil, List.cons_append, List.nil_append, List.map_cons, List.map_nil, List.length_cons, List.length_nil, List.replicate, wipeD, addD_int, subD_int, iaddD_int, negD_int, cmpD_int, eqD_int, intD_int, int_bl, absD_int, truth_bl, truth_int, truth_non, truth_tup, isNon_non, isNon_int, isNon_tup, isNon_bl, isNon_str, isNon_ref, isB_bl, max_int, min_int, ixD_tup, atI_0, atI_1, atI_2, atI_3, oneD_some, len_tup, eqD_str, tyD_int, tyD_bl, tyD_non, tyD_str, tyD_tup, is_ii, is_ib, is_it, is_il, is_bi, is_bb, is_bt, is_bl, is_ni, is_nb, is_nt, is_nl, is_si, is_sb, is_st, is_sl, is_ti, is_tb, is_tt, is_tl, is_li, is_lb, is_lt, is_ll, if_true, if_false, Bool.not_true, Bool.not_false, Bool.false_eq_true, Bool.true_eq_false, reduceIte, reduceCtorEq, decide_eq_true_eq, lenD_of (lstOf_lst aN3), List.length_map, nn_len, rangeD1 (small_of (n := ((18 : Nat) : Int)) (by omega) (by omega)), Int.toNat_natCast]
          refine lc_map (List.range 18) (fun j : Nat => D.int (0 + (j : Int) * 1)) (fun j => D.bl (decide (j = k))) (by rw [List.length_range]; omega) (fun j acc => src_itR) (fun j hj acc => ?_) ?_ (fun j hj acc => ?_)
          · have zj : (decide ((0 + (j : Int) * 1) = (k : Int))) = decide (j = k) := by
              rw [decide_eq_decide]
              omega
            simp only [wS_seq, wS_set, wS_expr, wS_ret, wS_retN, wS_asg, wS_if, wS_pass, wS_break, wS_cont, wS_par, wS_par3, wS_augV, wS_for, wE_call, wE_fn, wE_consA, wE_nilA, wE_bin, wE_un, wE_tup, wE_lst, wE_c, wE_var0, wE_varS, wE_val, wE_truth, wE_toB, wE_andT, wE_orT, wE_notT, wE_ifC, wE_notC, wE_andK, wE_orK, wE_src, wE_iter, wE_meth, wE_gN, wE_gTp3, wE_gTp2, wE_gTp4, wE_gCs, wE_gNl, wE_gSub, wE_isK, isK_some, wE_isN, wE_chK, wE_ch3K, wE_lc, wE_yes, wE_ok, tfK_bl, List.set_cons_succ, List.set_cons_zero, List.append_nil, List.cons_append, List.nil_append, List.map_cons, List.map_nil, List.length_cons, List.length_nil, List.replicate, wipeD, addD_int, subD_int, iaddD_int, negD_int, cmpD_int, eqD_int, intD_int, int_bl, absD_int, truth_bl, truth_int, truth_non, truth_tup, isNon_non, isNon_int, isNon_tup, isNon_bl, isNon_str, isNon_ref, isB_bl, max_int, min_int, ixD_tup, atI_0, atI_1, atI_2, atI_3, oneD_some, len_tup, eqD_str, tyD_int, tyD_bl, tyD_non, tyD_str, tyD_tup, is_ii, is_ib, is_it, is_il, is_bi, is_bb, is_bt, is_bl, is_ni, is_nb, is_nt, is_nl, is_si, is_sb, is_st, is_sl, is_ti, is_tb, is_tt, is_tl, is_li, is_lb, is_lt, is_ll, if_true, if_false, Bool.not_true, Bool.not_false, Bool.false_eq_true, Bool.true_eq_false, reduceIte, reduceCtorEq, decide_eq_true_eq, wipeD, zj]
            first | exact ⟨rfl, rfl⟩ | exact ⟨rfl, trivial⟩ | exact ⟨trivial, rfl⟩ | exact ⟨trivial, trivial⟩ | trivial | rfl | (simp; done)
          · have fl : Fr [] G3 (G3 ++ [SX.C.lst ((List.range 18).map fun j => D.bl (decide (j = k)))]) := Fr.new
            have a5 := fl.get a4 (by simp)
            have e5 : Kt (NN.getD k "") NN = ((List.range 18).map fun j => decide (j = k)).map D.bl := by rw [← kt_at k hk, kt_eq]
            have e6 : ((List.range 18).map fun j => D.bl (decide (j = k))) = ((List.range 18).map fun j => decide (j = k)).map D.bl := by rw [List.map_map] <;> rfl
            rw [e5] at a5
            have a6 : (G3 ++ [SX.C.lst ((List.range 18).map fun j => D.bl (decide (j = k)))])[G3.length]? = some (.lst (((List.range 18).map fun j => decide (j = k)).map D.bl)) := by
              rw [← e6]
              exact at_last
            have is1 := is_shw (bls_shw a5) (bls_shw a6) (by omega) (by simp)
            have wd := fld_w (e := varC 9) (σ := [some u, some (.ref d), some (.ref np), some (pl), some (.ref ep), some (.ref bp), some (.int (k : Int)), none, none, some (x), none]) (f := "word") (x := .str (NN.getD k "")) rfl ((hxe.fr f4).fr fl) (knE_all _ hmx) rfl
            have is2 := is_shw (shw_str (G := G3 ++ [SX.C.lst ((List.range 18).map fun j => D.bl (decide (j = k)))]) hmem) (shw_str hmem) (by omega) (by omega)
            simp only [wS_seq, wS_set, wS_expr, wS_ret, wS_retN, wS_asg, wS_if, wS_pass, wS_break, wS_cont, wS_par, wS_par3, wS_augV, wS_for, wE_call, wE_fn, wE_consA, wE_nilA, wE_bin, wE_un, wE_tup, wE_lst, wE_c, wE_var0, wE_varS, wE_val, wE_truth, wE_toB, wE_andT, wE_orT, wE_notT, wE_ifC, wE_notC, wE_andK, wE_orK, wE_src, wE_iter, wE_meth, wE_gN, wE_gTp3, wE_gTp2, wE_gTp4, wE_gCs, wE_gNl, wE_gSub, wE_isK, isK_some, wE_isN, wE_chK, wE_ch3K, wE_lc, wE_yes, wE_ok, tfK_bl, List.set_cons_succ, List.set_cons_zero, List.append_nil, List.cons_append, List.nil_append, List.map_cons, List.map_nil, List.length_cons, List.length_nil, List.replicate, wipeD, addD_int, subD_int, iaddD_int, negD_int, cmpD_int, eqD_int, intD_int, int_bl, absD_int, truth_bl, truth_int, truth_non, truth_tup, isNon_non, isNon_int, isNon_tup, isNon_bl, isNon_str, isNon_ref, isB_bl, max_int, min_int, ixD_tup, atI_0, atI_1, atI_2, atI_3, oneD_some, len_tup, eqD_str, tyD_int, tyD_bl, tyD_non, tyD_str, tyD_tup, is_ii, is_ib, is_it, is_il, is_bi, is_bb, is_bt, is_bl, is_ni, is_nb, is_nt, is_nl, is_si, is_sb, is_st, is_sl, is_ti, is_tb, is_tt, is_tl, is_li, is_lb, is_lt, is_ll, if_true, if_false, Bool.not_true, Bool.not_false, Bool.false_eq_true, Bool.true_eq_false, reduceIte, reduceCtorEq, decide_eq_true_eq, is1, wd, ixN ((f3.trans f4).trans fl), is2]
            exact ⟨_, rfl, (f2.trans f4).trans fl⟩
          · simp only [wS_seq, wS_set, wS_expr, wS_ret, wS_retN, wS_asg, wS_if, wS_pass, wS_break, wS_cont, wS_par, wS_par3, wS_augV, wS_for, wE_call, wE_fn, wE_consA, wE_nilA, wE_bin, wE_un, wE_tup, wE_lst, wE_c, wE_var0, wE_varS, wE_val, wE_truth, wE_toB, wE_andT, wE_orT, wE_notT, wE_ifC, wE_notC, wE_andK, wE_orK, wE_src, wE_iter, wE_meth, wE_gN, wE_gTp3, wE_gTp2, wE_gTp4, wE_gCs, wE_gNl, wE_gSub, wE_isK, isK_some, wE_isN, wE_chK, wE_ch3K, wE_lc, wE_yes, wE_ok, tfK_bl, List.set_cons_succ, List.set_cons_zero, List.append_nil, List.cons_append, List.nil_append, List.map_cons, List.map_nil, List.length_cons, List.length_nil, List.replicate, wipeD, addD_int, subD_int, iaddD_int, negD_int, cmpD_int, eqD_int, intD_int, int_bl, absD_int, truth_bl, truth_int, truth_non, truth_tup, isNon_non, isNon_int, isNon_tup, isNon_bl, isNon_str, isNon_ref, isB_bl, max_int, min_int, ixD_tup, atI_0, atI_1, atI_2, atI_3, oneD_some, len_tup, eqD_str, tyD_int, tyD_bl, tyD_non, tyD_str, tyD_tup, is_ii, is_ib, is_it, is_il, is_bi, is_bb, is_bt, is_bl, is_ni, is_nb, is_nt, is_nl, is_si, is_sb, is_st, is_sl, is_ti, is_tb, is_tt, is_tl, is_li, is_lb, is_lt, is_ll, if_true, if_false, Bool.not_true, Bool.not_false, Bool.false_eq_true, Bool.true_eq_false, reduceIte, reduceCtorEq, decide_eq_true_eq, wipeD]
      · obtain ⟨y9, rfl, f2⟩ := hI
        exact ⟨_, rfl, Fr.new.trans f2⟩
    obtain ⟨y9, rfl, f2⟩ := hh
    have p1 := fun (H : Hq) (f : Fr [] G' H) => fld_w (e := binC ixD (varC 4) (varC 6)) (σ := [some u, some (.ref d), some (.ref np), some (pl), some (.ref ep), some (.ref bp), some (.int (k : Int)), none, none, y9, none]) (f := "place") (x := pl) (G := H) (d := eD) (refX rfl rfl (ixE f)) (he.fr f) (knE_all _ hmx) rfl
    have p2 := fun (H : Hq) (f : Fr [] G' H) => fld_w (e := binC ixD (varC 5) (varC 6)) (σ := [some u, some (.ref d), some (.ref np), some (pl), some (.ref ep), some (.ref bp), some (.int (k : Int)), none, none, y9, none]) (f := "place") (x := .non) (G := H) (d := bD) (refX rfl rfl (ixB f)) (hb.fr f) (knE_all _ hmx) rfl
    obtain ⟨k5, s5, sh5, k5b, s5b⟩ := hpa (G2 ++ [.lst [pl, .non]] ++ [.lst [pl, .non]])
    have fz : Fr [] (G2 ++ [.lst [pl, .non]]) (G2 ++ [.lst [pl, .non]] ++ [.lst [pl, .non]]) := Fr.new
    have is := is_shw (Shw.lst (fz.get at_last (by simp)) (ShwL.cons sh5 (ShwL.cons Shw.non ShwL.nil))) (Shw.lst at_last (ShwL.cons sh5 (ShwL.cons Shw.non ShwL.nil))) (by omega) (by omega)
    simp only [wS_seq, wS_set, wS_expr, wS_ret, wS_retN, wS_asg, wS_if, wS_pass, wS_break, wS_cont, wS_par, wS_par3, wS_augV, wS_for, wE_call, wE_fn, wE_consA, wE_nilA, wE_bin, wE_un, wE_tup, wE_lst, wE_c, wE_var0, wE_varS, wE_val, wE_truth, wE_toB, wE_andT, wE_orT, wE_notT, wE_ifC, wE_notC, wE_andK, wE_orK, wE_src, wE_iter, wE_meth, wE_gN, wE_gTp3, wE_gTp2, wE_gTp4, wE_gCs, wE_gNl, wE_gSub, wE_isK, isK_some, wE_isN, wE_chK, wE_ch3K, wE_lc, wE_yes, wE_ok, tfK_bl, List.set_cons_succ, List.set_cons_zero, List.append_nil, List.cons_append, List.nil_append, List.map_cons, List.map_nil, List.length_cons, List.length_nil, List.replicate, wipeD, addD_int, subD_int, iaddD_int, negD_int, cmpD_int, eqD_int, intD_int, int_bl, absD_int, truth_bl, truth_int, truth_non, truth_tup, isNon_non, isNon_int, isNon_tup, isNon_bl, isNon_str, isNon_ref, isB_bl, max_int, min_int, ixD_tup, atI_0, atI_1, atI_2, atI_3, oneD_some, len_tup, eqD_str, tyD_int, tyD_bl, tyD_non, tyD_str, tyD_tup, is_ii, is_ib, is_it, is_il, is_bi, is_bb, is_bt, is_bl, is_ni, is_nb, is_nt, is_nl, is_si, is_sb, is_st, is_sl, is_ti, is_tb, is_tt, is_tl, is_li, is_lb, is_lt, is_ll, if_true, if_false, Bool.not_true, Bool.not_false, Bool.false_eq_true, Bool.true_eq_false, reduceIte, reduceCtorEq, decide_eq_true_eq, p1 _ f2, p2 _ f2, is]
    exact ⟨_, _, rfl, ((fr.trans f2).trans Fr.new).trans Fr.new⟩
  obtain ⟨x6, x9, rfl, f7⟩ := hh
  -- the class above all
  refine wS_cut1 (σ1 := [some u, some (.ref d), some (.ref np), some (pl), some (.ref ep), some (.ref bp), x6, some (.ref (G7.length + 1)), none, x9, none]) (G1 := G7 ++ [errX "Other" pl] ++ [insX "TermError" G7.length]) (by simp only [wS_seq, wS_set, wS_expr, wS_ret, wS_retN, wS_asg, wS_if, wS_pass, wS_break, wS_cont, wS_par, wS_par3, wS_augV, wS_for, wE_call, wE_fn, wE_consA, wE_nilA, wE_bin, wE_un, wE_tup, wE_lst, wE_c, wE_var0, wE_varS, wE_val, wE_truth, wE_toB, wE_andT, wE_orT, wE_notT, wE_ifC, wE_notC, wE_andK, wE_orK, wE_src, wE_iter, wE_meth, wE_gN, wE_gTp3, wE_gTp2, wE_gTp4, wE_gCs, wE_gNl, wE_gSub, wE_isK, isK_some, wE_isN, wE_chK, wE_ch3K, wE_lc, wE_yes, wE_ok, tfK_bl, List.set_cons_succ, List.set_cons_zero, List.append_nil, List.cons_append, List.nil_append, List.map_cons, List.map_nil, List.length_cons, List.length_nil, List.replicate, wipeD, addD_int, subD_int, iaddD_int, negD_int, cmpD_int, eqD_int, intD_int, int_bl, absD_int, truth_bl, truth_int, truth_non, truth_tup, isNon_non, isNon_int, isNon_tup, isNon_bl, isNon_str, isNon_ref, isB_bl, max_int, min_int, ixD_tup, atI_0, atI_1, atI_2, atI_3, oneD_some, len_tup, eqD_str, tyD_int, tyD_bl, tyD_non, tyD_str, tyD_tup, is_ii, is_ib, is_it, is_il, is_bi, is_bb, is_bt, is_bl, is_ni, is_nb, is_nt, is_nl, is_si, is_sb, is_st, is_sl, is_ti, is_tb, is_tt, is_tl, is_li, is_lb, is_lt, is_ll, if_true, if_false, Bool.not_true, Bool.not_false, Bool.false_eq_true, Bool.true_eq_false, reduceIte, reduceCtorEq, decide_eq_true_eq, newT2_ok (G := G7) (e := varC 3) (x := "Other") (pl := pl) (σ := [some u, some (.ref d), some (.ref np), some (pl), some (.ref ep), some (.ref bp), x6, none, none, x9, none]) rfl (hpl.sh G7)]; first | exact ⟨rfl, rfl⟩ | exact ⟨rfl, trivial⟩ | exact ⟨trivial, rfl⟩ | exact ⟨trivial, trivial⟩ | trivial | rfl | (simp; done)) ?_
  have hO : errOf (G7 ++ [errX "Other" pl] ++ [insX "TermError" G7.length]) (.ref (G7.length + 1)) = some (("TermError" : Str), ([("place", pl), ("word", .str "Other")] : List (Str × D))) := errOf_T
  generalize hG8 : G7 ++ [errX "Other" pl] ++ [insX "TermError" G7.length] = G8 at hO ⊢
  refine wS_cut (fun σ G' => σ = [some u, some (.ref d), some (.ref np), some (pl), some (.ref ep), some (.ref bp), x6, some (.ref (G7.length + 1)), none, x9, none]) ?_ fun σ G9 hh => ?_
  · have w1 := fun (H : Hq) (f : Fr [] G8 H) => fld_w (e := varC 7) (σ := [some u, some (.ref d), some (.ref np), some (pl), some (.ref ep), some (.ref bp), x6, some (.ref (G7.length + 1)), none, x9, none]) (f := "word") (x := .str "Other") (G := H) rfl (errOf_fr hO f) (knE_all "TermError" (by decide +kernel)) rfl
    have w2 := fun (H : Hq) (f : Fr [] G8 H) => fld_w (e := varC 7) (σ := [some u, some (.ref d), some (.ref np), some (pl), some (.ref ep), some (.ref bp), x6, some (.ref (G7.length + 1)), none, x9, none]) (f := "place") (x := pl) (G := H) rfl (errOf_fr hO f) (knE_all "TermError" (by decide +kernel)) rfl
    have hx8 : errOf (G8 ++ [errX "x" .non] ++ [insX "TermError" G8.length]) (.ref (G8.length + 1)) = some (("TermError" : Str), ([("place", .non), ("word", .str "x")] : List (Str × D))) := errOf_T
    have w3 := fld_w (e := newT1 "x") (σ := [some u, some (.ref d), some (.ref np), some (pl), some (.ref ep), some (.ref bp), x6, some (.ref (G7.length + 1)), none, x9, none]) (f := "place") (x := .non) (G := G8 ++ [errX "x" .non] ++ [insX "TermError" G8.length]) (G0 := G8) newT1_ok hx8 (knE_all "TermError" (by decide +kernel)) rfl
    generalize hG10 : G8 ++ [errX "x" .non] ++ [insX "TermError" G8.length] = G10 at w3
    have f10 : Fr [] G8 G10 := by
      rw [← hG10]
      exact Fr.new.trans Fr.new
    obtain ⟨k5, s5, sh5, k5b, s5b⟩ := hpa (G10 ++ [.lst [.str "Other", pl, .non]] ++ [.lst [.str "Other", pl, .non]])
    have so : Shw (G10 ++ [.lst [.str "Other", pl, .non]] ++ [.lst [.str "Other", pl, .non]]) (.str "Other") _ _ _ := Shw.str (by decide +kernel) (by decide +kernel)
    have fz : Fr [] (G10 ++ [.lst [.str "Other", pl, .non]]) (G10 ++ [.lst [.str "Other", pl, .non]] ++ [.lst [.str "Other", pl, .non]]) := Fr.new
    have is := is_shw (Shw.lst (fz.get at_last (by simp)) (ShwL.cons so (ShwL.cons sh5 (ShwL.cons Shw.non ShwL.nil)))) (Shw.lst at_last (ShwL.cons so (ShwL.cons sh5 (ShwL.cons Shw.non ShwL.nil)))) (by omega) (by omega)
    simp only [wS_seq, wS_set, wS_expr, wS_ret, wS_retN, wS_asg, wS_if, wS_pass, wS_break, wS_cont, wS_par, wS_par3, wS_augV, wS_for, wE_call, wE_fn, wE_consA, wE_nilA, wE_bin, wE_un, wE_tup, wE_lst, wE_c, wE_var0, wE_varS, wE_val, wE_truth, wE_toB, wE_andT, wE_orT, wE_notT, wE_ifC, wE_notC, wE_andK, wE_orK, wE_src, wE_iter, wE_meth, wE_gN, wE_gTp3, wE_gTp2, wE_gTp4, wE_gCs, wE_gNl, wE_gSub, wE_isK, isK_some, wE_isN, wE_chK, wE_ch3K, wE_lc, wE_yes, wE_ok, tfK_bl, List.set_cons_succ, List.set_cons_zero, List.append_nil, List.cons_append, List.nil_append, List.map_cons, List.map_nil, List.length_cons, List.length_nil, List.replicate, wipeD, addD_int, subD_int, iaddD_int, negD_int, cmpD_int, eqD_int, intD_int, int_bl, absD_int, truth_bl, truth_int, truth_non, truth_tup, isNon_non, isNon_int, isNon_tup, isNon_bl, isNon_str, isNon_ref, isB_bl, max_int, min_int, ixD_tup, atI_0, atI_1, atI_2, atI_3, oneD_some, len_tup, eqD_str, tyD_int, tyD_bl, tyD_non, tyD_str, tyD_tup, is_ii, is_ib, is_it, is_il, is_bi, is_bb, is_bt, is_bl, is_ni, is_nb, is_nt, is_nl, is_si, is_sb, is_st, is_sl, is_ti, is_tb, is_tt, is_tl, is_li, is_lb, is_lt, is_ll, if_true, if_false, Bool.not_true, Bool.not_false, Bool.false_eq_true, Bool.true_eq_false, reduceIte, reduceCtorEq, decide_eq_true_eq, w1 _ Fr.refl, w2 _ Fr.refl, w3, is]
    refine wE_imp (kinds_w (c := "TermError") (by decide +kernel) (errOf_fr hO ((f10.trans Fr.new).trans Fr.new))) fun v G11 ⟨q, e3, f4, a4⟩ => ?_
    subst e3
    have e4 : Kt "TermError" NN = (NN.map fun y => decide (("TermError" : Str) = y)).map D.bl := (kt_eq _ _).symm
    rw [e4] at a4
    have an := anyD_bls a4
    have e5 : (NN.map fun y => decide (("TermError" : Str) = y)).any id = false := by decide +kernel
    rw [e5] at an
    simp only [wS_seq, wS_set, wS_expr, wS_ret, wS_retN, wS_asg, wS_if, wS_pass, wS_break, wS_cont, wS_par, wS_par3, wS_augV, wS_for, wE_call, wE_fn, wE_consA, wE_nilA, wE_bin, wE_un, wE_tup, wE_lst, wE_c, wE_var0, wE_varS, wE_val, wE_truth, wE_toB, wE_andT, wE_orT, wE_notT, wE_ifC, wE_notC, wE_andK, wE_orK, wE_src, wE_iter, wE_meth, wE_gN, wE_gTp3, wE_gTp2, wE_gTp4, wE_gCs, wE_gNl, wE_gSub, wE_isK, isK_some, wE_isN, wE_chK, wE_ch3K, wE_lc, wE_yes, wE_ok, tfK_bl, List.set_cons_succ, List.set_cons_zero, List.append_nil, List.cons_append, List.nil_append, List.map_cons, List.map_nil, List.length_cons, List.length_nil, List.replicate, wipeD, addD_int, subD_int, iaddD_int, negD_int, cmpD_int, eqD_int, intD_int, int_bl, absD_int, truth_bl, truth_int, truth_non, truth_tup, isNon_non, isNon_int, isNon_tup, isNon_bl, isNon_str, isNon_ref, isB_bl, max_int, min_int, ixD_tup, atI_0, atI_1, atI_2, atI_3, oneD_some, len_tup, eqD_str, tyD_int, tyD_bl, tyD_non, tyD_str, tyD_tup, is_ii, is_ib, is_it, is_il, is_bi, is_bb, is_bt, is_bl, is_ni, is_nb, is_nt, is_nl, is_si, is_sb, is_st, is_sl, is_ti, is_tb, is_tt, is_tl, is_li, is_lb, is_lt, is_ll, if_true, if_false, Bool.not_true, Bool.not_false, Bool.false_eq_true, Bool.true_eq_false, reduceIte, reduceCtorEq, decide_eq_true_eq, an]
  subst hh
  refine wS_try1 (c := "BadRow") (d := pl) (G1 := G9) ?_ (by decide +kernel) ?_
  · show onE _ _ _ = _
    show (if showsD pl G9 = true then _ else _) = _
    rw [if_pos (hpl.sh G9)]
  · have hC : errOf (G9 ++ [errX "BadRow" pl] ++ [.ins "BadRow" [(Str.empty, .ref G9.length)]]) (.ref (G9.length + 1)) = some (("BadRow" : Str), ([("place", pl), ("word", .str "BadRow")] : List (Str × D))) := errOf_new
    generalize hG12 : G9 ++ [errX "BadRow" pl] ++ [.ins "BadRow" [(Str.empty, .ref G9.length)]] = G12 at hC ⊢
    have w1 := fld_w (e := varC 8) (σ := [some u, some (.ref d), some (.ref np), some (pl), some (.ref ep), some (.ref bp), x6, some (.ref (G7.length + 1)), some (.ref (G9.length + 1)), x9, none]) (f := "place") (x := pl) rfl hC (knE_all "BadRow" (by decide +kernel)) rfl
    have w2 := fld_w (e := varC 8) (σ := [some u, some (.ref d), some (.ref np), some (pl), some (.ref ep), some (.ref bp), x6, some (.ref (G7.length + 1)), some (.ref (G9.length + 1)), x9, none]) (f := "word") (x := .str "BadRow") rfl hC (knE_all "BadRow" (by decide +kernel)) rfl
    obtain ⟨k5, s5, sh5, k5b, s5b⟩ := hpa (G12 ++ [.lst [pl, .str "BadRow"]] ++ [.lst [pl, .str "BadRow"]])
    have so : Shw (G12 ++ [.lst [pl, .str "BadRow"]] ++ [.lst [pl, .str "BadRow"]]) (.str "BadRow") _ _ _ := Shw.str (by decide +kernel) (by decide +kernel)
    have fz : Fr [] (G12 ++ [.lst [pl, .str "BadRow"]]) (G12 ++ [.lst [pl, .str "BadRow"]] ++ [.lst [pl, .str "BadRow"]]) := Fr.new
    have is := is_shw (Shw.lst (fz.get at_last (by simp)) (ShwL.cons sh5 (ShwL.cons so ShwL.nil))) (Shw.lst at_last (ShwL.cons sh5 (ShwL.cons so ShwL.nil))) (by omega) (by omega)
    simp only [wS_seq, wS_set, wS_expr, wS_ret, wS_retN, wS_asg, wS_if, wS_pass, wS_break, wS_cont, wS_par, wS_par3, wS_augV, wS_for, wE_call, wE_fn, wE_consA, wE_nilA, wE_bin, wE_un, wE_tup, wE_lst, wE_c, wE_var0, wE_varS, wE_val, wE_truth, wE_toB, wE_andT, wE_orT, wE_notT, wE_ifC, wE_notC, wE_andK, wE_orK, wE_src, wE_iter, wE_meth, wE_gN, wE_gTp3, wE_gTp2, wE_gTp4, wE_gCs, wE_gNl, wE_gSub, wE_isK, isK_some, wE_isN, wE_chK, wE_ch3K, wE_lc, wE_yes, wE_ok, tfK_bl, List.set_cons_succ, List.set_cons_zero, List.append_nil, List.cons_append, List.nil_append, List.map_cons, List.map_nil, List.length_cons, List.length_nil, List.replicate, wipeD, addD_int, subD_int, iaddD_int, negD_int, cmpD_int, eqD_int, intD_int, int_bl, absD_int, truth_bl, truth_int, truth_non, truth_tup, isNon_non, isNon_int, isNon_tup, isNon_bl, isNon_str, isNon_ref, isB_bl, max_int, min_int, ixD_tup, atI_0, atI_1, atI_2, atI_3, oneD_some, len_tup, eqD_str, tyD_int, tyD_bl, tyD_non, tyD_str, tyD_tup, is_ii, is_ib, is_it, is_il, is_bi, is_bb, is_bt, is_bl, is_ni, is_nb, is_nt, is_nl, is_si, is_sb, is_st, is_sl, is_ti, is_tb, is_tt, is_tl, is_li, is_lb, is_lt, is_ll, if_true, if_false, Bool.not_true, Bool.not_false, Bool.false_eq_true, Bool.true_eq_false, reduceIte, reduceCtorEq, decide_eq_true_eq, w1, w2, is]
theorem told (ns : List Int) : Told law_c ns := by
  constructor
  · obtain ⟨v, G, e, h⟩ := wE_get (law_all (u := .ref 0) (G := [.ro (ns.map .int)]) (lstOf_ro rfl))
    subst h
    exact ⟨G, e⟩
  · obtain ⟨v, G, e, h⟩ := wE_get (law_all (u := .kl (ns.map .int)) (G := []) rfl)
    subst h
    exact ⟨G, e⟩
end
end Yk00
theorem PySem.Challenge.cw_everyterm_k00_errors_apart_holds : PySem.Challenge.rw_everyterm_k00_errors_apart.Holds := by
  exact Yk00.ends fun ns _ _ => Yk00.told ns

