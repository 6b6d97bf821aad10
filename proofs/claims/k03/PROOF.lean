import PyProof.Rows.All
import Wide.All
import OpenK.AllK
import Wide.FinOn
import HandS.ForMost
import HandS.Flow
import HandS.IsInst
import HandS.Zip
import HandS.Exc
import HandS.Deep
import HandS.TupAny
import HandS.Wide
import HandS.Style
import HandS.RaiseMore
import PyProof.ReprRoads
import HandS.ForExc
import HandS.CallSlots
import HandS.Replace
import PyProof.FactsAll.bool_1
import PyProof.TwoTypesSub
import PyProof.FactsAll.tuple_2
import PyProof.FactsAll.int
import PyProof.ListMulRoad
import HandS.TupMul
import HandS.Zip0
import PyProof.Draws
import HandS.ExcOwn
import HandS.ExcIs
import HandS.ExcField
import PyProof.ReprLen
import HandS.Text
import PySem.Challenge.RW_sameface_k03_what_faces_tell
set_option Elab.async false
set_option linter.all false
set_option maxRecDepth 100001
set_option maxHeartbeats 6000001
/-! Sf0: data, store, relations, the generic reading. -/
namespace Sf
open L2 PySem PySem.Spec PyProof.Rows

inductive D where
  | non | bl (b : Bool) | int (i : Int) | str (s : Str) | tup (ds : List D) | lst (ds : List D) | fls (ds : List D) | emp | ref (n : Nat)
  deriving Inhabited

inductive Ob where
  | lst (ds : List D) | dct (kvs : List (Key × D)) | dctT (kvs : List (List Key × D)) | ins (c : Str) (fs : List (Str × D)) | exc (c : Str) (fs : List (Str × D))
  deriving Inhabited

abbrev Sto := List Ob
abbrev En := List (Option D)

inductive Out where
  | val (d : D) | own (o : Ob)
  deriving Inhabited

/-- an exception: its class, its fields -/
structure Xn where
  cls : Str
  fs : List (Str × D)

inductive Rz (α : Type) where
  | ok (a : α) (S : Sto)
  | er (x : Xn) (S : Sto)

abbrev Dn (α : Type) := En → Sto → Option (Rz α)

def bnd {α β : Type} (r : Option (Rz α)) (k : α → Sto → Option (Rz β)) : Option (Rz β) :=
  match r with
  | none => none
  | some (.ok a S) => k a S
  | some (.er x S) => some (.er x S)

mutual
inductive Rep (K : PySem.W.Frag) (F : Hp) (m : List Addr) : V → D → Prop
  | non : Rep K F m .non .non
  | bl (b : Bool) : Rep K F m (.bl b) (.bl b)
  | int (i : Int) : Rep K F m (.int i) (.int i)
  | str (x : Str) : Rep K F m (.str x) (.str x)
  | tup {a : Addr} {xs : List V} {ds : List D} : SqT K F a xs → RepL K F m xs ds → Rep K F m (.ref a) (.tup ds)
  | lst {a : Addr} {xs : List V} {ds : List D} : F a = some (.lst xs) → RepL K F m xs ds → Rep K F m (.ref a) (.lst ds)
  | fls {a : Addr} {xs : List V} {ds : List D} : SqL K F a xs → RepL K F m xs ds → Rep K F m (.ref a) (.fls ds)
  | emp {a : Addr} : F a = some (.dK []) → Rep K F m (.ref a) .emp
  | ref {a : Addr} {n : Nat} : m[n]? = some a → Rep K F m (.ref a) (.ref n)
inductive RepL (K : PySem.W.Frag) (F : Hp) (m : List Addr) : List V → List D → Prop
  | nil : RepL K F m [] []
  | cons {v : V} {vs : List V} {d : D} {ds : List D} : Rep K F m v d → RepL K F m vs ds → RepL K F m (v :: vs) (d :: ds)
end

def Pre (m m' : List Addr) : Prop := ∃ l, m' = m ++ l
theorem Pre.refl (m : List Addr) : Pre m m := ⟨[], (List.append_nil m).symm⟩
theorem Pre.trans {a b c : List Addr} (h : Pre a b) (k : Pre b c) : Pre a c := by
  obtain ⟨l, rfl⟩ := h
  obtain ⟨l', rfl⟩ := k
  exact ⟨l ++ l', List.append_assoc ..⟩
theorem Pre.get {m m' : List Addr} (p : Pre m m') {n : Nat} {a : Addr} (h : m[n]? = some a) : m'[n]? = some a := by
  obtain ⟨l, rfl⟩ := p
  have hn : n < m.length := (List.getElem?_eq_some_iff.mp h).1
  rw [List.getElem?_append_left hn]
  exact h

theorem same_rd {H H' : Hp} {a : Addr} {u : HO} (e : Same H H') (h : Rd H a u) : Rd H' a u := by
  rcases h with h | ⟨o, h⟩
  · exact .inl (e _ _ h)
  · exact .inr ⟨o, e _ _ h⟩
theorem same_t {K : PySem.W.Frag} {H H' : Hp} {a : Addr} {xs : List V} (e : Same H H') (h : SqT K H a xs) : SqT K H' a xs := by
  rcases h with h | h
  · exact .inl (same_rd e h)
  · exact .inr h
theorem same_l {K : PySem.W.Frag} {H H' : Hp} {a : Addr} {xs : List V} (e : Same H H') (h : SqL K H a xs) : SqL K H' a xs := by
  rcases h with h | h
  · exact .inl (same_rd e h)
  · exact .inr h

section
variable {K : PySem.W.Frag} {F F' : Hp} {m m' : List Addr}
mutual
theorem Rep.mono (e : Same F F') (p : Pre m m') : ∀ (d : D) {v : V}, Rep K F m v d → Rep K F' m' v d
  | .non, _, h => by cases h; exact .non
  | .bl b, _, h => by cases h; exact .bl b
  | .int i, _, h => by cases h; exact .int i
  | .str s, _, h => by cases h; exact .str s
  | .tup ds, _, h => by
    cases h with
    | tup hs hl => exact .tup (same_t e hs) (RepL.mono e p ds hl)
  | .lst ds, _, h => by
    cases h with
    | lst hs hl => exact .lst (e _ _ hs) (RepL.mono e p ds hl)
  | .fls ds, _, h => by
    cases h with
    | fls hs hl => exact .fls (same_l e hs) (RepL.mono e p ds hl)
  | .emp, _, h => by
    cases h with
    | emp hn => exact .emp (e _ _ hn)
  | .ref n, _, h => by
    cases h with
    | ref hn => exact .ref (p.get hn)
theorem RepL.mono (e : Same F F') (p : Pre m m') : ∀ (ds : List D) {vs : List V}, RepL K F m vs ds → RepL K F' m' vs ds
  | [], _, h => by cases h; exact .nil
  | d :: ds, _, h => by
    cases h with
    | cons h1 h2 => exact .cons (Rep.mono e p d h1) (RepL.mono e p ds h2)
end
theorem RepL.length : ∀ {vs : List V} {ds : List D}, RepL K F m vs ds → vs.length = ds.length
  | _, _, .nil => rfl
  | _, _, .cons _ t => by rw [List.length_cons, List.length_cons, RepL.length t]
theorem RepL.append : ∀ {vs : List V} {ds : List D} {ws : List V} {es : List D}, RepL K F m vs ds → RepL K F m ws es → RepL K F m (vs ++ ws) (ds ++ es)
  | _, _, _, _, .nil, h => h
  | _, _, _, _, .cons a t, h => .cons a (RepL.append t h)
theorem RepL.get : ∀ {vs : List V} {ds : List D} {i : Nat} {d : D}, RepL K F m vs ds → ds[i]? = some d → ∃ v, vs[i]? = some v ∧ Rep K F m v d
  | _, _, _, _, .nil, h => by simp at h
  | _, _, 0, _, .cons a t, h => by
    simp at h
    subst h
    exact ⟨_, rfl, a⟩
  | _, _, i + 1, d, .cons a t, h => by
    obtain ⟨v, h1, h2⟩ := RepL.get (i := i) (d := d) t (by simpa using h)
    exact ⟨v, by simpa using h1, h2⟩
theorem RepL.get' : ∀ {vs : List V} {ds : List D} {i : Nat} {v : V}, RepL K F m vs ds → vs[i]? = some v → ∃ d, ds[i]? = some d ∧ Rep K F m v d
  | _, _, _, _, .nil, h => by simp at h
  | _, _, 0, _, .cons a t, h => by
    simp at h
    subst h
    exact ⟨_, rfl, a⟩
  | _, _, i + 1, d, .cons a t, h => by
    obtain ⟨v, h1, h2⟩ := RepL.get' (i := i) (v := d) t (by simpa using h)
    exact ⟨v, by simpa using h1, h2⟩
theorem RepL.drop : ∀ (n : Nat) {vs : List V} {ds : List D}, RepL K F m vs ds → RepL K F m (vs.drop n) (ds.drop n)
  | 0, _, _, h => h
  | _ + 1, _, _, .nil => .nil
  | n + 1, _, _, .cons _ t => RepL.drop n t
theorem RepL.take : ∀ (n : Nat) {vs : List V} {ds : List D}, RepL K F m vs ds → RepL K F m (vs.take n) (ds.take n)
  | 0, _, _, _ => .nil
  | _ + 1, _, _, .nil => .nil
  | n + 1, _, _, .cons a t => .cons a (RepL.take n t)
theorem RepL.reverse : ∀ {vs : List V} {ds : List D}, RepL K F m vs ds → RepL K F m vs.reverse ds.reverse
  | _, _, .nil => .nil
  | _, _, .cons a t => by
    rw [List.reverse_cons, List.reverse_cons]
    exact (RepL.reverse t).append (.cons a .nil)
theorem RepL.set : ∀ (n : Nat) {vs : List V} {ds : List D} {v : V} {d : D}, RepL K F m vs ds → Rep K F m v d → RepL K F m (vs.set n v) (ds.set n d)
  | _, _, _, _, _, .nil, _ => .nil
  | 0, _, _, _, _, .cons _ t, h => .cons h t
  | n + 1, _, _, _, _, .cons a t, h => .cons a (RepL.set n t h)
end

/-- an exception object of the class cls, its dict at d, raised once -/
def exK (cls : Value) (d : Option Addr) (a : Addr) : HO := .ext fun h => ∃ (ob : Obj) (vs : Array Value), h.get? a = some ob ∧ Zc cls d ob ∧ ob.data = .fields vs
/-- an exception's fields stand, frozen, in its dict -/
def XfR (K : PySem.W.Frag) (F : Hp) (m : List Addr) (d : Option Addr) (fs : List (Str × D)) : Prop :=
  (fs = [] ∧ d = none) ∨ (fs ≠ [] ∧ ∃ (dx : Addr) (gs : List (Str × V)), d = some dx ∧ F dx = some (.xd gs) ∧ Paired (fun p q => p.1 = q.1 ∧ Rep K F m p.2 q.2) gs fs)
/-- what stands at a is the object o -/
def ObR (K : PySem.W.Frag) (mg : Str → Option Value) (H F : Hp) (m : List Addr) (a : Addr) : Ob → Prop
  | .lst ds => ∃ vs, H a = some (.lst vs) ∧ RepL K F m vs ds
  | .dct kvs => ∃ ks : List (Key × V), H a = some (.dK ks) ∧ Paired (fun p q => p.1 = q.1 ∧ Rep K F m p.2 q.2) ks kvs
  | .dctT kvs => ∃ ks : List (List Key × V), H a = some (.dT ks) ∧ Paired (fun p q => p.1 = q.1 ∧ Rep K F m p.2 q.2) ks kvs
  | .ins c fs => ∃ (C dx : Addr) (gs : List (Str × V)), mg c = some (.ref C) ∧ H a = some (.ins C dx gs) ∧ Paired (fun p q => p.1 = q.1 ∧ Rep K F m p.2 q.2) gs fs
  | .exc c fs => ∃ (C : Addr) (d : Option Addr), mg c = some (.ref C) ∧ H a = some (exK (.ref C) d a) ∧ XfR K F m d fs

theorem paired_mono {κ : Type} {K : PySem.W.Frag} {F F' : Hp} {m m' : List Addr} (e : Same F F') (p : Pre m m') {ks : List (κ × V)} {ls : List (κ × D)}
    (h : Paired (fun p q => p.1 = q.1 ∧ Rep K F m p.2 q.2) ks ls) : Paired (fun p q => p.1 = q.1 ∧ Rep K F' m' p.2 q.2) ks ls :=
  Paired.mapP h fun a b z => ⟨z.1, Rep.mono e p b.2 z.2⟩

theorem XfR.mono {K : PySem.W.Frag} {F F' : Hp} {m m' : List Addr} {d : Option Addr} {fs : List (Str × D)} (e : Same F F') (p : Pre m m') (h : XfR K F m d fs) : XfR K F' m' d fs := by
  rcases h with h | ⟨h0, dx, gs, h1, h2, h3⟩
  · exact .inl h
  · exact .inr ⟨h0, dx, gs, h1, e _ _ h2, paired_mono e p h3⟩
theorem ObR.mono {K : PySem.W.Frag} {mg : Str → Option Value} {H H' F F' : Hp} {m m' : List Addr} {a : Addr} (e : Same F F') (p : Pre m m') (hh : ∀ o, H a = some o → H' a = some o) :
    ∀ (o : Ob), ObR K mg H F m a o → ObR K mg H' F' m' a o
  | .lst ds, ⟨vs, h1, h2⟩ => ⟨vs, hh _ h1, RepL.mono e p ds h2⟩
  | .dct kvs, ⟨ks, h1, h2⟩ => ⟨ks, hh _ h1, paired_mono e p h2⟩
  | .dctT kvs, ⟨ks, h1, h2⟩ => ⟨ks, hh _ h1, paired_mono e p h2⟩
  | .ins c fs, ⟨C, dx, gs, h0, h1, h2⟩ => ⟨C, dx, gs, h0, hh _ h1, paired_mono e p h2⟩
  | .exc c fs, ⟨C, d, h0, h1, h2⟩ => ⟨C, d, h0, hh _ h1, h2.mono e p⟩
theorem ObR.some {K : PySem.W.Frag} {mg : Str → Option Value} {H F : Hp} {m : List Addr} {a : Addr} : ∀ {o : Ob}, ObR K mg H F m a o → ∃ u, H a = some u
  | .lst ds, ⟨vs, h1, h2⟩ => ⟨_, h1⟩
  | .dct kvs, ⟨ks, h1, h2⟩ => ⟨_, h1⟩
  | .dctT kvs, ⟨ks, h1, h2⟩ => ⟨_, h1⟩
  | .ins c fs, ⟨C, dx, gs, h0, h1, h2⟩ => ⟨_, h1⟩
  | .exc c fs, ⟨C, d, h0, h1, h2⟩ => ⟨_, h1⟩

/-- the store S stands at the addresses m in the heap H; F is what is frozen of H -/
structure SOk (K : PySem.W.Frag) (mg : Str → Option Value) (H F : Hp) (m : List Addr) (S : Sto) : Prop where
  sub : Same F H
  len : m.length = S.length
  nd : m.Nodup
  off : ∀ a ∈ m, F a = none
  obj : ∀ (n : Nat) (a : Addr) (o : Ob), m[n]? = some a → S[n]? = some o → ObR K mg H F m a o

/-- from one state to a later one -/
structure Stp (H F : Hp) (m : List Addr) (H' F' : Hp) (m' : List Addr) : Prop where
  fr : Same F F'
  pr : ∃ l, m' = m ++ l ∧ ∀ b ∈ l, H b = none
  nw : ∀ a o, F' a = some o → F a = some o ∨ H a = none
  kp : ∀ a o, H a = some o → a ∉ m → H' a = some o
  dm : ∀ a, H' a = none → H a = none

theorem Stp.refl (H F : Hp) (m : List Addr) : Stp H F m H F m :=
  ⟨Same.refl F, ⟨[], (List.append_nil m).symm, fun _ h => absurd h (by simp)⟩, fun _ _ h => .inl h, fun _ _ h _ => h, fun _ h => h⟩
theorem Stp.pre {H F H' F' : Hp} {m m' : List Addr} (s : Stp H F m H' F' m') : Pre m m' := let ⟨l, h, _⟩ := s.pr; ⟨l, h⟩
theorem Stp.trans {H F H1 F1 H2 F2 : Hp} {m m1 m2 : List Addr} (s : Stp H F m H1 F1 m1) (t : Stp H1 F1 m1 H2 F2 m2) : Stp H F m H2 F2 m2 := by
  obtain ⟨l, rfl, hl⟩ := s.pr
  obtain ⟨l2, rfl, hl2⟩ := t.pr
  refine ⟨s.fr.trans t.fr, ⟨l ++ l2, List.append_assoc .., fun b hb => ?_⟩, fun a o h => ?_, fun a o h hn => ?_, fun a h => s.dm a (t.dm a h)⟩
  · rcases List.mem_append.mp hb with hb | hb
    · exact hl b hb
    · exact s.dm b (hl2 b hb)
  · rcases t.nw a o h with h | h
    · exact s.nw a o h
    · exact .inr (s.dm a h)
  · refine t.kp a o (s.kp a o h hn) fun hm => ?_
    rcases List.mem_append.mp hm with hm | hm
    · exact hn hm
    · rw [hl a hm] at h
      cases h

/-- slots -/
structure SlR (K : PySem.W.Frag) (F : Hp) (m : List Addr) (σ : L2.St) (ρ : En) : Prop where
  len : σ.length = ρ.length
  get : ∀ (i : Nat) (d : D), ρ[i]? = some (some d) → ∃ v, σ[i]? = some (some v) ∧ Rep K F m v d
theorem SlR.mono {K : PySem.W.Frag} {F F' : Hp} {m m' : List Addr} {σ : L2.St} {ρ : En} (e : Same F F') (p : Pre m m') (h : SlR K F m σ ρ) : SlR K F' m' σ ρ :=
  ⟨h.len, fun i d q => let ⟨v, h1, h2⟩ := h.get i d q; ⟨v, h1, Rep.mono e p d h2⟩⟩
theorem SlR.put {K : PySem.W.Frag} {F : Hp} {m : List Addr} {σ : L2.St} {ρ : En} {v : V} {d : D} (i : Nat) (h : SlR K F m σ ρ) (r : Rep K F m v d) : SlR K F m (σ.set i (some v)) (ρ.set i (some d)) := by
  refine ⟨by rw [List.length_set, List.length_set, h.len], fun j e q => ?_⟩
  by_cases hj : i = j
  · subst hj
    have hi : i < ρ.length := by
      have := (List.getElem?_eq_some_iff.mp q).1
      rw [List.length_set] at this
      exact this
    rw [List.getElem?_set_self hi] at q
    have q' : d = e := by injection q with q; injection q
    subst q'
    exact ⟨v, List.getElem?_set_self (by rw [h.len]; exact hi), r⟩
  · rw [List.getElem?_set_ne hj] at q
    rw [List.getElem?_set_ne hj]
    exact h.get j e q

/-- a result: data, or a new object that nobody else holds -/
def OutR (K : PySem.W.Frag) (mg : Str → Option Value) (H0 H F : Hp) (m : List Addr) (v : V) : Out → Prop
  | .val d => Rep K F m v d
  | .own o => ∃ a, v = .ref a ∧ H0 a = none ∧ F a = none ∧ a ∉ m ∧ ObR K mg H F m a o

/-- an exception's record: its class, its fields in its own dict -/
def XnR (K : PySem.W.Frag) (mg : Str → Option Value) (H F : Hp) (m : List Addr) (c : Value) (d : Option Addr) (x : Xn) : Prop :=
  ∃ C : Addr, mg x.cls = some (.ref C) ∧ c = .ref C ∧ XfR K F m d x.fs

abbrev Rel (α β : Type) := Hp → Hp → Hp → List Addr → β → α → Prop
abbrev RO (K : PySem.W.Frag) (mg : Str → Option Value) : Rel Out V := fun H0 H F m v o => OutR K mg H0 H F m v o
abbrev RD (K : PySem.W.Frag) : Rel D V := fun _ _ F m v d => Rep K F m v d
abbrev RL (K : PySem.W.Frag) : Rel (List D) (List V) := fun _ _ F m vs ds => RepL K F m vs ds
abbrev RB {α : Type} : Rel α α := fun _ _ _ _ b c => b = c
def RSh {α β : Type} (R : Rel α β) : Prop := ∀ H0 H1 H F m x a, (∀ b, H1 b = none → H0 b = none) → R H1 H F m x a → R H0 H F m x a
theorem sh_O {K : PySem.W.Frag} {mg : Str → Option Value} : RSh (RO K mg) := fun H0 H1 H F m x a hd h => by
  cases a with
  | val d => exact h
  | own o =>
    obtain ⟨a, h1, h2, h3⟩ := h
    exact ⟨a, h1, hd a h2, h3⟩
theorem sh_D {K : PySem.W.Frag} : RSh (RD K) := fun _ _ _ _ _ _ _ _ h => h
theorem sh_L {K : PySem.W.Frag} : RSh (RL K) := fun _ _ _ _ _ _ _ _ h => h
theorem sh_B {α : Type} : RSh (RB (α := α)) := fun _ _ _ _ _ _ _ _ h => h

abbrev WXn := Value → Option Addr → Hp → Prop
/-- what is wanted behind a result -/
def Aft {α β : Type} (K : PySem.W.Frag) (mg : Str → Option Value) (R : Rel α β) (W : WXn) (H F : Hp) (m : List Addr) (r : Option (Rz α)) (Q : β → Hp → Prop) : Prop :=
  match r with
  | none => False
  | some (.ok a S') => ∀ x H' F' m', Stp H F m H' F' m' → SOk K mg H' F' m' S' → R H H' F' m' x a → Q x H'
  | some (.er x S') => ∀ c d H' F' m', Stp H F m H' F' m' → SOk K mg H' F' m' S' → XnR K mg H' F' m' c d x → W c d H'

section
variable {K : PySem.W.Frag} {mg : Str → Option Value} {H H1 F F1 : Hp} {m m1 : List Addr} {α β γ δ : Type} {W : WXn}
theorem Aft.shift {R : Rel α β} (sh : RSh R) (st : Stp H F m H1 F1 m1) {r : Option (Rz α)} {Q : β → Hp → Prop} (h : Aft K mg R W H F m r Q) : Aft K mg R W H1 F1 m1 r Q := by
  match r, h with
  | none, h => exact h
  | some (.ok a S'), h => exact fun x H' F' m' s k q => h x H' F' m' (st.trans s) k (sh _ _ _ _ _ _ _ st.dm q)
  | some (.er x S'), h => exact fun c d H' F' m' s k q => h c d H' F' m' (st.trans s) k q
theorem Aft.imp {R : Rel α β} {r : Option (Rz α)} {Q Q' : β → Hp → Prop} (h : Aft K mg R W H F m r Q) (k : ∀ x H, Q x H → Q' x H) : Aft K mg R W H F m r Q' := by
  match r, h with
  | none, h => exact h
  | some (.ok a S'), h => exact fun x H' F' m' s q z => k _ _ (h x H' F' m' s q z)
  | some (.er x S'), h => exact h

abbrev WX' := Value → Option Addr → L2.St → Hp → Prop
/-- the generic reading of a denotation -/
def Tg {α β : Type} (K : PySem.W.Frag) (mg : Str → Option Value) (R : Rel α β) (W : WX') (f : Dn α) : L2.St → Hp → (β → Hp → Prop) → Prop := fun σ H Q =>
  ∃ ρ S F m, SlR K F m σ ρ ∧ SOk K mg H F m S ∧ Aft K mg R (fun c d H' => W c d σ H') H F m (f ρ S) Q

/-- THE BIND: C is carried -/
theorem tgc {R1 : Rel α β} {R2 : Rel γ δ} {W : WX'} {σ : L2.St} {f : Dn α} {g : En → α → Sto → Option (Rz γ)} {Q : δ → Hp → Prop} {Q' : β → Hp → Prop} (sh : RSh R2) (C : Hp → List Addr → Prop)
    (mono : ∀ F m F' m', Same F F' → Pre m m' → C F m → C F' m')
    (h : ∃ ρ S F m, C F m ∧ SlR K F m σ ρ ∧ SOk K mg H F m S ∧ Aft K mg R2 (fun c d H' => W c d σ H') H F m (bnd (f ρ S) (g ρ)) Q)
    (k : ∀ x H0 H1 ρ S1 F1 m1 a, C F1 m1 → SlR K F1 m1 σ ρ → SOk K mg H1 F1 m1 S1 → R1 H0 H1 F1 m1 x a → Aft K mg R2 (fun c d H' => W c d σ H') H1 F1 m1 (g ρ a S1) Q → Q' x H1) :
    Tg K mg R1 W f σ H Q' := by
  obtain ⟨ρ, S, F, m, hC, sl, ok, A⟩ := h
  refine ⟨ρ, S, F, m, sl, ok, ?_⟩
  match f ρ S, A with
  | none, A => exact A
  | some (.ok a S'), A =>
    intro x H1 F1 m1 st ok1 r1
    exact k x H H1 ρ S' F1 m1 a (mono _ _ _ _ st.fr st.pre hC) (sl.mono st.fr st.pre) ok1 r1 (Aft.shift sh st A)
  | some (.er x S'), A => exact A
theorem tg1 {R1 : Rel α β} {R2 : Rel γ δ} {W : WX'} {σ : L2.St} {f : Dn α} {g : En → α → Sto → Option (Rz γ)} {Q : δ → Hp → Prop} {Q' : β → Hp → Prop} (sh : RSh R2)
    (h : Tg K mg R2 W (fun ρ S => bnd (f ρ S) (g ρ)) σ H Q)
    (k : ∀ x H0 H1 ρ S1 F1 m1 a, SlR K F1 m1 σ ρ → SOk K mg H1 F1 m1 S1 → R1 H0 H1 F1 m1 x a → Aft K mg R2 (fun c d H' => W c d σ H') H1 F1 m1 (g ρ a S1) Q → Q' x H1) :
    Tg K mg R1 W f σ H Q' := by
  obtain ⟨ρ, S, F, m, sl, ok, A⟩ := h
  exact tgc (R2 := R2) (g := g) (Q := Q) sh (fun _ _ => True) (fun _ _ _ _ _ _ h => h) ⟨ρ, S, F, m, trivial, sl, ok, A⟩ fun x H0 H1 ρ S1 F1 m1 a _ => k x H0 H1 ρ S1 F1 m1 a
theorem tg_imp {R1 : Rel α β} {W : WX'} {σ : L2.St} {f : Dn α} {Q Q' : β → Hp → Prop} (h : Tg K mg R1 W f σ H Q) (k : ∀ x H, Q x H → Q' x H) : Tg K mg R1 W f σ H Q' := by
  obtain ⟨ρ, S, F, m, sl, ok, A⟩ := h
  exact ⟨ρ, S, F, m, sl, ok, A.imp k⟩
end

/-! ### settling: a new list is frozen, a new dict or instance goes into the store -/
def settle : Out → Sto → D × Sto
  | .val d, S => (d, S)
  | .own (.lst ds), S => (.lst ds, S)
  | .own (.dct []), S => (.emp, S)
  | .own o, S => (.ref S.length, S ++ [o])
def boxed : Out → Sto → Option (Nat × Sto)
  | .val _, _ => none
  | .own o, S => some (S.length, S ++ [o])
def stl (f : Dn Out) : Dn D := fun ρ S => bnd (f ρ S) fun o S1 => some (.ok (settle o S1).1 (settle o S1).2)
def bxd (f : Dn Out) : Dn D := fun ρ S => bnd (f ρ S) fun o S1 => match o with
  | .val d => some (.ok d S1)
  | .own ob => some (.ok (.ref S1.length) (S1 ++ [ob]))

section
variable {K : PySem.W.Frag} {mg : Str → Option Value} {H0 F0 H F : Hp} {m0 m : List Addr} {S : Sto}
theorem box_ok {o : Ob} {v : V} (st : Stp H0 F0 m0 H F m) (ok : SOk K mg H F m S) (r : OutR K mg H0 H F m v (.own o)) :
    ∃ m', Stp H0 F0 m0 H F m' ∧ SOk K mg H F m' (S ++ [o]) ∧ Rep K F m' v (.ref S.length) := by
  obtain ⟨a, rfl, h0, hF, hm, hob⟩ := r
  refine ⟨m ++ [a], ?_, ?_, ?_⟩
  · obtain ⟨l, e, hl⟩ := st.pr
    refine ⟨st.fr, ⟨l ++ [a], by rw [e, List.append_assoc], fun b hb => ?_⟩, st.nw, st.kp, st.dm⟩
    rcases List.mem_append.mp hb with hb | hb
    · exact hl b hb
    · rw [List.mem_singleton.mp hb]
      exact h0
  · refine ⟨ok.sub, by rw [List.length_append, List.length_append, ok.len]; rfl, ?_, fun b hb => ?_, fun n b u h1 h2 => ?_⟩
    · refine List.nodup_append.mpr ⟨ok.nd, by simp, fun b hb c hc => ?_⟩
      rw [List.mem_singleton.mp hc]
      intro e
      subst e
      exact hm hb
    · rcases List.mem_append.mp hb with hb | hb
      · exact ok.off b hb
      · rw [List.mem_singleton.mp hb]
        exact hF
    · by_cases hn : n < m.length
      · rw [List.getElem?_append_left hn] at h1
        rw [List.getElem?_append_left (by rw [← ok.len]; exact hn)] at h2
        exact ObR.mono (Same.refl F) ⟨[a], rfl⟩ (fun _ z => z) u (ok.obj n b u h1 h2)
      · have hn' : n = m.length := by
          have := (List.getElem?_eq_some_iff.mp h1).1
          rw [List.length_append, List.length_singleton] at this
          omega
        subst hn'
        rw [List.getElem?_append_right (Nat.le_refl _), Nat.sub_self] at h1
        rw [ok.len, List.getElem?_append_right (Nat.le_refl _), Nat.sub_self] at h2
        have e1 : a = b := Option.some.inj h1
        have e2 : o = u := Option.some.inj h2
        subst e1 e2
        exact ObR.mono (Same.refl F) ⟨[a], rfl⟩ (fun _ z => z) o hob
  · refine .ref ?_
    rw [← ok.len, List.getElem?_append_right (Nat.le_refl _), Nat.sub_self]
    rfl
theorem freeze_obj {a : Addr} {o : HO} (st : Stp H0 F0 m0 H F m) (ok : SOk K mg H F m S) (h0 : H0 a = none) (hF : F a = none) (hm : a ∉ m) (hH : H a = some o) :
    Same F (upd F a o) ∧ Stp H0 F0 m0 H (upd F a o) m ∧ SOk K mg H (upd F a o) m S := by
  have e : Same F (upd F a o) := fun b u q => by
    rw [upd_ne (fun z => by rw [z, hF] at q; cases q)]
    exact q
  refine ⟨e, ?_, ?_⟩
  · refine ⟨st.fr.trans e, st.pr, fun b u q => ?_, st.kp, st.dm⟩
    by_cases hb : b = a
    · subst hb
      exact .inr h0
    · rw [upd_ne hb] at q
      exact st.nw b u q
  · refine ⟨fun b u q => ?_, ok.len, ok.nd, fun b hb => ?_, fun n b u h1 h2 => ObR.mono e (Pre.refl m) (fun _ z => z) u (ok.obj n b u h1 h2)⟩
    · by_cases hb : b = a
      · subst hb
        rw [upd_same] at q
        cases q
        exact hH
      · rw [upd_ne hb] at q
        exact ok.sub b u q
    · rw [upd_ne (fun z => by subst z; exact hm hb)]
      exact ok.off b hb
theorem freeze_ok {ds : List D} {v : V} (st : Stp H0 F0 m0 H F m) (ok : SOk K mg H F m S) (r : OutR K mg H0 H F m v (.own (.lst ds))) :
    ∃ F', Stp H0 F0 m0 H F' m ∧ SOk K mg H F' m S ∧ Rep K F' m v (.lst ds) := by
  obtain ⟨a, rfl, h0, hF, hm, vs, hH, hr⟩ := r
  obtain ⟨e, s1, k1⟩ := freeze_obj st ok h0 hF hm hH
  exact ⟨_, s1, k1, .lst upd_same (RepL.mono e (Pre.refl m) ds hr)⟩
theorem freeze_emp {v : V} (st : Stp H0 F0 m0 H F m) (ok : SOk K mg H F m S) (r : OutR K mg H0 H F m v (.own (.dct []))) :
    ∃ F', Stp H0 F0 m0 H F' m ∧ SOk K mg H F' m S ∧ Rep K F' m v .emp := by
  obtain ⟨a, rfl, h0, hF, hm, ks, hH, hr⟩ := r
  cases hr
  obtain ⟨e, s1, k1⟩ := freeze_obj st ok h0 hF hm hH
  exact ⟨_, s1, k1, .emp upd_same⟩
theorem settle_ok {o : Out} {v : V} (st : Stp H0 F0 m0 H F m) (ok : SOk K mg H F m S) (r : OutR K mg H0 H F m v o) :
    ∃ F' m', Stp H0 F0 m0 H F' m' ∧ SOk K mg H F' m' (settle o S).2 ∧ Rep K F' m' v (settle o S).1 := by
  cases o with
  | val d => exact ⟨F, m, st, ok, r⟩
  | own o =>
    cases o with
    | lst ds =>
      obtain ⟨F', h⟩ := freeze_ok st ok r
      exact ⟨F', m, h⟩
    | dct kvs =>
      cases kvs with
      | nil =>
        obtain ⟨F', h⟩ := freeze_emp st ok r
        exact ⟨F', m, h⟩
      | cons p l =>
        obtain ⟨m', h⟩ := box_ok st ok r
        exact ⟨F, m', h⟩
    | dctT kvs =>
      obtain ⟨m', h⟩ := box_ok st ok r
      exact ⟨F, m', h⟩
    | ins c fs =>
      obtain ⟨m', h⟩ := box_ok st ok r
      exact ⟨F, m', h⟩
    | exc c fs =>
      obtain ⟨m', h⟩ := box_ok st ok r
      exact ⟨F, m', h⟩
/-- a reading with its result settled -/
theorem tg_stl {W : WX'} {f : Dn Out} {σ : L2.St} {H : Hp} {Q : VK} (h : Tg K mg (RD K) W (stl f) σ H Q) : Tg K mg (RO K mg) W f σ H Q := by
  obtain ⟨ρ, S, F, m, sl, ok, A⟩ := h
  refine ⟨ρ, S, F, m, sl, ok, ?_⟩
  unfold stl at A
  match f ρ S, A with
  | none, A => exact A
  | some (.ok o S1), A =>
    intro v H1 F1 m1 st ok1 r1
    obtain ⟨F2, m2, st2, ok2, r2⟩ := settle_ok st ok1 r1
    exact A v H1 F2 m2 st2 ok2 r2
  | some (.er x S1), A => exact A
theorem tg_bxd {W : WX'} {f : Dn Out} {σ : L2.St} {H : Hp} {Q : VK} (h : Tg K mg (RD K) W (bxd f) σ H Q) : Tg K mg (RO K mg) W f σ H Q := by
  obtain ⟨ρ, S, F, m, sl, ok, A⟩ := h
  refine ⟨ρ, S, F, m, sl, ok, ?_⟩
  unfold bxd at A
  match f ρ S, A with
  | none, A => exact A
  | some (.ok (.val d) S1), A => exact fun v H1 F1 m1 st1 ok1 r1 => A v H1 F1 m1 st1 ok1 r1
  | some (.ok (.own o) S1), A =>
    intro v H1 F1 m1 st ok1 r1
    obtain ⟨m2, st2, ok2, r2⟩ := box_ok st ok1 r1
    exact A v H1 F1 m2 st2 ok2 r2
  | some (.er x S1), A => exact A
end

/-! ### weakening of readings -/
theorem pe_imp {X : Cx} {e : Expr} {t t' : TE} (h : PE X e t) (k : ∀ σ H Q, t' σ H Q → t σ H Q) : PE X e t' :=
  ⟨fun pins s σ H Q I q => h.run pins s σ H Q I (k σ H Q q)⟩
theorem pt_imp {X : Cx} {e : Expr} {t t' : TT} (h : PT X e t) (k : ∀ σ H Q, t' σ H Q → t σ H Q) : PT X e t' :=
  ⟨fun pins s σ H Q I q => h.run pins s σ H Q I (k σ H Q q)⟩
theorem pw_imp {X : Cx} {e : Expr} {t t' : TT} (h : PW X e t) (k : ∀ σ H Q, t' σ H Q → t σ H Q) : PW X e t' :=
  ⟨fun wh pins s σ H Q I q => h.run wh pins s σ H Q I (k σ H Q q)⟩
theorem pa_imp {X : Cx} {e : List Expr} {t t' : TA} (h : PA X e t) (k : ∀ σ H Q, t' σ H Q → t σ H Q) : PA X e t' :=
  ⟨fun pos pins s σ H Q I q => h.run pos pins s σ H Q I (k σ H Q q)⟩
theorem ps_imp {X : Cx} {e : Stmt} {t t' : TS} (h : PS X e t) (k : ∀ Dn σ H, t' Dn σ H → t Dn σ H) : PS X e t' :=
  ⟨fun pins s σ H Dn I q => h.run pins s σ H Dn I (k Dn σ H q)⟩
theorem pss_imp {X : Cx} {e : List Stmt} {t t' : TS} (h : PSs X e t) (k : ∀ Dn σ H, t' Dn σ H → t Dn σ H) : PSs X e t' :=
  ⟨fun pins s σ H Dn I q => h.run pins s σ H Dn I (k Dn σ H q)⟩

/-- an expression by its denotation; its value settled; a test; arguments -/
abbrev Pe (X : Cx) (W : WX') (e : Expr) (f : Dn Out) : Prop := PE X e (Tg X.K X.mg (RO X.K X.mg) W f)
abbrev Pd (X : Cx) (W : WX') (e : Expr) (f : Dn D) : Prop := PE X e (Tg X.K X.mg (RD X.K) W f)
abbrev Pt (X : Cx) (W : WX') (e : Expr) (f : Dn Bool) : Prop := PT X e (Tg X.K X.mg RB W f)
abbrev Pw (X : Cx) (W : WX') (e : Expr) (f : Dn Bool) : Prop := PW X e (Tg X.K X.mg RB W f)
abbrev Pa (X : Cx) (W : WX') (es : List Expr) (f : Dn (List D)) : Prop := PA X es (Tg X.K X.mg (RL X.K) W f)
theorem Pe.d {X : Cx} {W : WX'} {e : Expr} {f : Dn Out} (h : Pe X W e f) : Pd X W e (stl f) := pe_imp h fun _ _ _ q => tg_stl q
theorem Pe.b {X : Cx} {W : WX'} {e : Expr} {f : Dn Out} (h : Pe X W e f) : Pd X W e (bxd f) := pe_imp h fun _ _ _ q => tg_bxd q
end Sf
/-! Sf1: operations by data, expressions. -/
namespace Sf
open L2 PySem PySem.Spec PyProof.Rows

/-! ### looks at data -/
def view (S : Sto) : D → Option (List D)
  | .lst ds => some ds
  | .fls ds => some ds
  | .ref n => match S[n]? with
    | some (.lst ds) => some ds
    | _ => none
  | _ => none
/-- a list that may be joined -/
def viewC (S : Sto) : D → Option (List D)
  | .lst ds => some ds
  | .ref n => match S[n]? with
    | some (.lst ds) => some ds
    | _ => none
  | _ => none
def viewT : D → Option (List D)
  | .tup ds => some ds
  | _ => none
/-- a list or a tuple -/
def viewS (S : Sto) : D → Option (List D)
  | .tup ds => some ds
  | d => view S d

section
variable {K : PySem.W.Frag} {mg : Str → Option Value} {H F : Hp} {m : List Addr} {S : Sto}
theorem SOk.at (ok : SOk K mg H F m S) {a : Addr} {n : Nat} {o : Ob} (hn : m[n]? = some a) (ho : S[n]? = some o) : ObR K mg H F m a o := ok.obj n a o hn ho
theorem view_ok (ok : SOk K mg H F m S) {v : V} {d : D} {ds : List D} (r : Rep K F m v d) (h : view S d = some ds) : ∃ a xs, v = .ref a ∧ SqL K H a xs ∧ RepL K F m xs ds := by
  cases r with
  | lst h1 h2 =>
    cases h
    exact ⟨_, _, rfl, SqL.of (ok.sub _ _ h1), h2⟩
  | fls h1 h2 =>
    cases h
    exact ⟨_, _, rfl, same_l ok.sub h1, h2⟩
  | @ref a n h1 =>
    simp only [view] at h
    cases e : S[n]? with
    | none => rw [e] at h; cases h
    | some o =>
      rw [e] at h
      cases o with
      | lst es =>
        cases h
        obtain ⟨vs, h2, h3⟩ := ok.at h1 e
        exact ⟨_, _, rfl, SqL.of h2, h3⟩
      | _ => cases h
  | _ => cases h
theorem viewC_ok (ok : SOk K mg H F m S) {v : V} {d : D} {ds : List D} (r : Rep K F m v d) (h : viewC S d = some ds) : ∃ a xs, v = .ref a ∧ H a = some (.lst xs) ∧ RepL K F m xs ds := by
  cases r with
  | lst h1 h2 =>
    cases h
    exact ⟨_, _, rfl, ok.sub _ _ h1, h2⟩
  | @ref a n h1 =>
    simp only [viewC] at h
    cases e : S[n]? with
    | none => rw [e] at h; cases h
    | some o =>
      rw [e] at h
      cases o with
      | lst es =>
        cases h
        obtain ⟨vs, h2, h3⟩ := ok.at h1 e
        exact ⟨_, _, rfl, h2, h3⟩
      | _ => cases h
  | _ => cases h
theorem viewT_ok (ok : SOk K mg H F m S) {v : V} {d : D} {ds : List D} (r : Rep K F m v d) (h : viewT d = some ds) : ∃ a xs, v = .ref a ∧ SqT K H a xs ∧ RepL K F m xs ds := by
  cases r with
  | tup h1 h2 =>
    cases h
    exact ⟨_, _, rfl, same_t ok.sub h1, h2⟩
  | _ => cases h
theorem viewS_ok (ok : SOk K mg H F m S) {v : V} {d : D} {ds : List D} (r : Rep K F m v d) (h : viewS S d = some ds) : ∃ a xs, v = .ref a ∧ (SqL K H a xs ∨ SqT K H a xs) ∧ RepL K F m xs ds := by
  by_cases ht : ∃ es, d = .tup es
  · obtain ⟨es, rfl⟩ := ht
    obtain ⟨a, xs, e, h1, h2⟩ := viewT_ok ok r (show viewT (.tup es) = some ds from h)
    exact ⟨a, xs, e, .inr h1, h2⟩
  · have h' : view S d = some ds := by
      cases d <;> first | exact h | exact absurd ⟨_, rfl⟩ ht
    obtain ⟨a, xs, e, h1, h2⟩ := view_ok ok r h'
    exact ⟨a, xs, e, .inl h1, h2⟩

/-- a new object at p, not of the store -/
theorem SOk.new {p : Addr} {o : HO} (ok : SOk K mg H F m S) (hp : H p = none) : SOk K mg (upd H p o) F m S ∧ Stp H F m (upd H p o) F m := by
  have e : ∀ a u, H a = some u → upd H p o a = some u := fun a u h => by
    rw [upd_ne (fun z => by rw [z, hp] at h; cases h)]
    exact h
  refine ⟨⟨fun a u h => e a u (ok.sub a u h), ok.len, ok.nd, ok.off, fun n a u h1 h2 => ObR.mono (Same.refl F) (Pre.refl m) (e a) u (ok.obj n a u h1 h2)⟩,
    Same.refl F, (Stp.refl H F m).pr, fun _ _ h => .inl h, fun a u h _ => e a u h, fun a h => ?_⟩
  by_cases ha : a = p
  · rw [ha]; exact hp
  · rw [upd_ne ha] at h; exact h
theorem SOk.notin (ok : SOk K mg H F m S) {p : Addr} (hp : H p = none) : p ∉ m := fun h => by
  obtain ⟨n, hn⟩ := List.getElem?_of_mem h
  have hl : n < S.length := by
    have := (List.getElem?_eq_some_iff.mp hn).1
    rw [← ok.len]; exact this
  obtain ⟨u, hu⟩ := (ok.obj n p S[n] hn (List.getElem?_eq_getElem hl)).some
  rw [hp] at hu; cases hu
theorem SOk.fnone (ok : SOk K mg H F m S) {p : Addr} (hp : H p = none) : F p = none := by
  cases e : F p with
  | none => rfl
  | some u => rw [ok.sub p u e] at hp; cases hp
/-- what a new frozen object gives -/
theorem SOk.newF {p : Addr} {o : HO} (ok : SOk K mg H F m S) (hp : H p = none) : SOk K mg (upd H p o) (upd F p o) m S ∧ Stp H F m (upd H p o) (upd F p o) m ∧ Same F (upd F p o) := by
  obtain ⟨ok1, st1⟩ := ok.new (o := o) hp
  obtain ⟨e, s2, k2⟩ := freeze_obj st1 ok1 hp (ok.fnone hp) (ok.notin hp) upd_same
  exact ⟨k2, s2, e⟩
end

/-! ### operations by two values -/
abbrev O2 := Sto → D → D → Option Out
def rOf (K : PySem.W.Frag) (mg : Str → Option Value) (o : O2) : R2 := fun x y H Q => ∃ S F m a b u, SOk K mg H F m S ∧ Rep K F m x a ∧ Rep K F m y b ∧ o S a b = some u ∧
  ∀ v H' F' m', Stp H F m H' F' m' → SOk K mg H' F' m' S → OutR K mg H H' F' m' v u → Q v H'
def okv (o : Option Out) (S : Sto) : Option (Rz Out) :=
  match o with
  | some u => some (.ok u S)
  | none => none
def d2 (o : O2) (f g : Dn Out) : Dn Out := fun ρ S => bnd (stl f ρ S) fun a S1 => bnd (stl g ρ S1) fun b S2 => okv (o S2 a b) S2
theorem OpR.imp {X : Cx} {f : Value → Value → Sem Value} {r r' : R2} (h : OpR X f r) (k : ∀ x y H Q, r' x y H Q → r x y H Q) : OpR X f r' :=
  fun pins s σ H x y v u Q I rx ry q => h pins s σ H x y v u Q I rx ry (k x y H Q q)
theorem IxR.imp {X : Cx} {r r' : R2} (h : IxR X r) (k : ∀ x y H Q, r' x y H Q → r x y H Q) : IxR X r' :=
  fun value slice pins s σ H x y v u Q I rx ry q => h value slice pins s σ H x y v u Q I rx ry (k x y H Q q)

section
variable {K : PySem.W.Frag} {mg : Str → Option Value} {W : WX'} {σ : L2.St} {H : Hp}
theorem tg_2 {o : O2} {f g : Dn Out} {Q : VK} (h : Tg K mg (RO K mg) W (d2 o f g) σ H Q) :
    Tg K mg (RD K) W (stl f) σ H fun x H1 => Tg K mg (RD K) W (stl g) σ H1 fun y H2 => rOf K mg o x y H2 Q := by
  refine tg1 (R2 := RO K mg) (g := fun ρ a S1 => bnd (stl g ρ S1) fun b S2 => okv (o S2 a b) S2) sh_O h fun x _ H1 ρ S1 F1 m1 a sl ok1 rx A => ?_
  refine tgc (R2 := RO K mg) (g := fun _ b S2 => okv (o S2 a b) S2) sh_O (fun F m => Rep K F m x a) (fun F m F' m' e p r => Rep.mono e p a r) ⟨ρ, S1, F1, m1, rx, sl, ok1, A⟩ fun y _ H2 ρ S2 F2 m2 b rx sl ok2 ry A => ?_
  cases e : o S2 a b with
  | none => rw [e] at A; exact A.elim
  | some u =>
    rw [e] at A
    exact ⟨S2, F2, m2, a, b, u, ok2, rx, ry, e, fun v H' F' m' st k r => A v H' F' m' st k r⟩
end

/-- a bool-valued denotation as a test -/
def tst (f : Dn Out) : Dn Bool := fun ρ S => bnd (f ρ S) fun o S1 => match o with
  | .val (.bl c) => some (.ok c S1)
  | _ => none
theorem tg_tst {K : PySem.W.Frag} {mg : Str → Option Value} {W : WX'} {f : Dn Out} {σ : L2.St} {H : Hp} {Q : Bool → Hp → Prop} (h : Tg K mg RB W (tst f) σ H Q) :
    Tg K mg (RO K mg) W f σ H fun x H' => ∃ k, x = .bl k ∧ Q k H' := by
  refine tg1 (R2 := RB) (g := fun _ o S1 => match o with
    | .val (.bl c) => some (.ok c S1)
    | _ => none) sh_B h fun x _ H1 ρ S1 F1 m1 a sl ok1 rx A => ?_
  match a, rx, A with
  | .val (.bl c), rx, A =>
    cases rx
    exact ⟨c, rfl, A c H1 F1 m1 (Stp.refl ..) ok1 rfl⟩
  | .val .non, rx, A => exact A.elim
  | .val (.int _), rx, A => exact A.elim
  | .val (.str _), rx, A => exact A.elim
  | .val (.tup _), rx, A => exact A.elim
  | .val (.lst _), rx, A => exact A.elim
  | .val (.fls _), rx, A => exact A.elim
  | .val .emp, rx, A => exact A.elim
  | .val (.ref _), rx, A => exact A.elim
  | .own _, rx, A => exact A.elim

section
variable {X : Cx} {W : WX'} {a b c : Expr} {f g h : Dn Out} {pos : Pos}
theorem d_op {op : Operator} {o : O2} (ho : OpR X (binaryOp op) (rOf X.K X.mg o)) (ha : Pe X W a f) (hb : Pe X W b g) : Pe X W (.BinOp a op b pos) (d2 o f g) :=
  pe_imp (pe_op ho ha.d hb.d) fun _ _ _ q => tg_2 q
theorem d_cmp {op : CmpOp} {o : O2} (ho : OpR X (compareOp op) (rOf X.K X.mg o)) (ha : Pe X W a f) (hb : Pe X W b g) (hm : behindInMarks op b = false) : Pe X W (.Compare a [op] [b] pos) (d2 o f g) :=
  pe_imp (pe_cmpR ho ha.d hb.d hm) fun _ _ _ q => tg_2 q
theorem t_cmp {op : CmpOp} {o : O2} (ho : OpR X (compareOp op) (rOf X.K X.mg o)) (ha : Pe X W a f) (hb : Pe X W b g) (hm : behindInMarks op b = false) : Pt X W (.Compare a [op] [b] pos) (tst (d2 o f g)) :=
  pt_imp (pt_cmpR ho ha.d hb.d hm) fun _ _ _ q => tg_2 (tg_tst q)
/-- a op b op' c -/
def dChain (o o' : O2) (f g h : Dn Out) : Dn Out := fun ρ S => bnd (stl f ρ S) fun a S1 => bnd (stl g ρ S1) fun b S2 => match o S2 a b with
  | some (.val (.bl true)) => bnd (stl h ρ S2) fun c S3 => okv (o' S3 b c) S3
  | some (.val (.bl false)) => some (.ok (.val (.bl false)) S2)
  | _ => none
theorem tg_chain {K : PySem.W.Frag} {mg : Str → Option Value} {σ : L2.St} {H : Hp} {o o' : O2} {Q : VK} (q : Tg K mg (RO K mg) W (dChain o o' f g h) σ H Q) :
    tChain (rOf K mg o) (rOf K mg o') (Tg K mg (RD K) W (stl f)) (Tg K mg (RD K) W (stl g)) (Tg K mg (RD K) W (stl h)) σ H Q := by
  refine tg1 (R2 := RO K mg) (g := fun ρ a S1 => bnd (stl g ρ S1) fun b S2 => match o S2 a b with
    | some (.val (.bl true)) => bnd (stl h ρ S2) fun c S3 => okv (o' S3 b c) S3
    | some (.val (.bl false)) => some (.ok (.val (.bl false)) S2)
    | _ => none) sh_O q fun x _ H1 ρ S1 F1 m1 a sl ok1 rx A => ?_
  refine tgc (R2 := RO K mg) (g := fun ρ b S2 => match o S2 a b with
    | some (.val (.bl true)) => bnd (stl h ρ S2) fun c S3 => okv (o' S3 b c) S3
    | some (.val (.bl false)) => some (.ok (.val (.bl false)) S2)
    | _ => none) sh_O (fun F m => Rep K F m x a) (fun F m F' m' e p r => Rep.mono e p a r) ⟨ρ, S1, F1, m1, rx, sl, ok1, A⟩ fun y _ H2 ρ S2 F2 m2 b rx sl ok2 ry A => ?_
  match e : o S2 a b, A with
  | none, A => exact A.elim
  | some (.own _), A => exact A.elim
  | some (.val .non), A => exact A.elim
  | some (.val (.int _)), A => exact A.elim
  | some (.val (.str _)), A => exact A.elim
  | some (.val (.tup _)), A => exact A.elim
  | some (.val (.lst _)), A => exact A.elim
  | some (.val (.fls _)), A => exact A.elim
  | some (.val .emp), A => exact A.elim
  | some (.val (.ref _)), A => exact A.elim
  | some (.val (.bl false)), A =>
    refine ⟨S2, F2, m2, a, b, _, ok2, rx, ry, e, fun v H' F' m' st k r => ?_⟩
    cases r
    refine ⟨false, rfl, ?_⟩
    rw [if_neg (by simp)]
    exact A _ H' F' m' st k (.bl false)
  | some (.val (.bl true)), A =>
    refine ⟨S2, F2, m2, a, b, _, ok2, rx, ry, e, fun v H' F' m' st k r => ?_⟩
    cases r
    refine ⟨true, rfl, ?_⟩
    rw [if_pos rfl]
    refine tgc (R2 := RO K mg) (g := fun _ c S3 => okv (o' S3 b c) S3) sh_O (fun F m => Rep K F m y b) (fun F m F' m' e p r => Rep.mono e p b r)
      ⟨ρ, S2, F', m', Rep.mono st.fr st.pre b ry, sl.mono st.fr st.pre, k, Aft.shift sh_O st A⟩ fun z _ H3 ρ S3 F3 m3 c ry sl ok3 rz A => ?_
    cases e' : o' S3 b c with
    | none => rw [e'] at A; exact A.elim
    | some u =>
      rw [e'] at A
      exact ⟨S3, F3, m3, b, c, u, ok3, ry, rz, e', fun v H' F' m' st k r => A v H' F' m' st k r⟩
theorem d_chain {op op' : CmpOp} {o o' : O2} (ho : OpR X (compareOp op) (rOf X.K X.mg o)) (ho' : OpR X (compareOp op') (rOf X.K X.mg o')) (ha : Pe X W a f) (hb : Pe X W b g) (hc : Pe X W c h)
    (hm : lastMarks [op, op'] [b, c] = false := by with_unfolding_all rfl) : Pe X W (.Compare a [op, op'] [b, c] pos) (dChain o o' f g h) :=
  pe_imp (pe_chain ho ho' ha.d hb.d hc.d hm) fun _ _ _ q => tg_chain q
theorem t_chain {op op' : CmpOp} {o o' : O2} (ho : OpR X (compareOp op) (rOf X.K X.mg o)) (ho' : OpR X (compareOp op') (rOf X.K X.mg o')) (ha : Pe X W a f) (hb : Pe X W b g) (hc : Pe X W c h)
    (hm : lastMarks [op, op'] [b, c] = false := by with_unfolding_all rfl) : Pt X W (.Compare a [op, op'] [b, c] pos) (tst (dChain o o' f g h)) :=
  pt_imp (pt_chain ho ho' ha.d hb.d hc.d hm) fun _ _ _ q => tg_chain (tg_tst q)
end

/-! ### names and constants -/
def dVar (i : Nat) : Dn Out := fun ρ S => match ρ[i]? with
  | some (some d) => some (.ok (.val d) S)
  | _ => none
def dC (d : D) : Dn Out := fun _ S => some (.ok (.val d) S)
section
variable {X : Cx} {W : WX'}
theorem d_var (i : Nat) {x : Str} {pos : Pos} (hN : X.N[i]? = some x := by rfl) (hv : Vis X.env.scope x := by first | exact Or.inl rfl | exact Or.inr (Or.inl rfl) | exact Or.inr (Or.inr rfl)) (hd : (x == ("__debug__" : Str)) = false := by decide)
    (hcd : (x == ("__classdict__" : Str)) = false := by decide) : Pe X W (.Name x pos) (dVar i) := by
  refine pe_imp (pe_var hN hv hd hcd) fun σ H Q q => ?_
  obtain ⟨ρ, S, F, m, sl, ok, A⟩ := q
  unfold dVar at A
  match e : ρ[i]?, A with
  | none, A => exact A.elim
  | some none, A => exact A.elim
  | some (some d), A =>
    obtain ⟨v, h1, h2⟩ := sl.get i d e
    exact ⟨v, h1, A v H F m (Stp.refl ..) ok h2⟩
theorem tg_c {K : PySem.W.Frag} {mg : Str → Option Value} {σ : L2.St} {H : Hp} {Q : VK} {v : V} {d : D} (r : ∀ F m, Rep K F m v d) (q : Tg K mg (RO K mg) W (dC d) σ H Q) : tC v σ H Q := by
  obtain ⟨ρ, S, F, m, sl, ok, A⟩ := q
  exact A v H F m (Stp.refl ..) ok (r F m)
theorem d_int {i j pos} : Pe X W (.Constant (.int i) j pos) (dC (.int i)) := pe_imp pe_int fun _ _ _ q => tg_c (fun _ _ => .int i) q
theorem d_bl {b j pos} : Pe X W (.Constant (.bool b) j pos) (dC (.bl b)) := pe_imp pe_bl fun _ _ _ q => tg_c (fun _ _ => .bl b) q
theorem d_non {j pos} : Pe X W (.Constant .none j pos) (dC .non) := pe_imp pe_non fun _ _ _ q => tg_c (fun _ _ => .non) q
theorem d_str {x j pos} : Pe X W (.Constant (.str x) j pos) (dC (.str x)) := pe_imp pe_str fun _ _ _ q => tg_c (fun _ _ => .str x) q
/-- a module's constant -/
theorem d_glob {x : Str} {v : V} {u : Value} {d : D} {pos : Pos} (hg : Gl X x) (hm : X.mg x = some u) (r : RelV v u) (rd : ∀ F m, Rep X.K F m v d) (hd : (x == ("__debug__" : Str)) = false := by decide) : Pe X W (.Name x pos) (dC d) :=
  pe_imp (pe_glob hg hm r hd) fun _ _ _ q => tg_c rd q
end

/-! ### truth, and, or, not, if -/
def truthD (S : Sto) : D → Option Bool
  | .non => some false
  | .bl b => some b
  | .int i => some (i != 0)
  | .str s => if s.length ≤ sizeLine then some ((s.length : Int) != 0) else none
  | .tup ds => some (!ds.isEmpty)
  | .lst ds => some (!ds.isEmpty)
  | .fls ds => some (!ds.isEmpty)
  | .emp => some false
  | .ref n => match S[n]? with
    | some (.lst ds) => some (!ds.isEmpty)
    | some (.dct kvs) => some (!kvs.isEmpty)
    | _ => none
theorem RepL.isEmpty {K : PySem.W.Frag} {F : Hp} {m : List Addr} {vs : List V} {ds : List D} (h : RepL K F m vs ds) : vs.isEmpty = ds.isEmpty := by
  cases h <;> rfl
theorem truth_ok {K : PySem.W.Frag} {mg : Str → Option Value} {H F : Hp} {m : List Addr} {S : Sto} (ok : SOk K mg H F m S) {v : V} {d : D} {b : Bool} (r : Rep K F m v d) (h : truthD S d = some b) : TruV K v H b := by
  cases r with
  | non => cases h; rfl
  | bl c => cases h; rfl
  | int i => cases h; rfl
  | str s =>
    simp only [truthD] at h
    split at h
    · rename_i hs
      cases h
      exact ⟨hs, rfl⟩
    · cases h
  | tup h1 h2 =>
    cases h
    exact .inr (.inl ⟨_, same_t ok.sub h1, by rw [h2.isEmpty]⟩)
  | lst h1 h2 =>
    cases h
    exact .inl ⟨_, SqL.of (ok.sub _ _ h1), by rw [h2.isEmpty]⟩
  | fls h1 h2 =>
    cases h
    exact .inl ⟨_, same_l ok.sub h1, by rw [h2.isEmpty]⟩
  | emp h1 =>
    cases h
    exact .inr (.inr ⟨[], ok.sub _ _ h1, rfl⟩)
  | @ref a n h1 =>
    simp only [truthD] at h
    cases e : S[n]? with
    | none => rw [e] at h; cases h
    | some o =>
      rw [e] at h
      cases o with
      | lst es =>
        cases h
        obtain ⟨vs, h2, h3⟩ := ok.at h1 e
        exact .inl ⟨_, SqL.of h2, by rw [h3.isEmpty]⟩
      | dct kvs =>
        cases h
        obtain ⟨ks, h2, h3⟩ := ok.at h1 e
        exact .inr (.inr ⟨ks, h2, by cases h3 <;> rfl⟩)
      | _ => cases h

def dAnd (f g : Dn Out) : Dn Out := fun ρ S => bnd (stl f ρ S) fun a S1 => match truthD S1 a with
  | some true => g ρ S1
  | some false => some (.ok (.val a) S1)
  | none => none
def dOr (f g : Dn Out) : Dn Out := fun ρ S => bnd (stl f ρ S) fun a S1 => match truthD S1 a with
  | some true => some (.ok (.val a) S1)
  | some false => g ρ S1
  | none => none
def dNot (f : Dn Out) : Dn Out := fun ρ S => bnd (stl f ρ S) fun a S1 => match truthD S1 a with
  | some k => some (.ok (.val (.bl (!k))) S1)
  | none => none
def dTru (f : Dn Out) : Dn Bool := fun ρ S => bnd (stl f ρ S) fun a S1 => match truthD S1 a with
  | some k => some (.ok k S1)
  | none => none
def bAnd (f g : Dn Bool) : Dn Bool := fun ρ S => bnd (f ρ S) fun c S1 => if c = true then g ρ S1 else some (.ok false S1)
def bOr (f g : Dn Bool) : Dn Bool := fun ρ S => bnd (f ρ S) fun c S1 => if c = true then some (.ok true S1) else g ρ S1
def bNot (f : Dn Bool) : Dn Bool := fun ρ S => bnd (f ρ S) fun c S1 => some (.ok (!c) S1)
def dIf (c : Dn Bool) (f g : Dn Out) : Dn Out := fun ρ S => bnd (c ρ S) fun b S1 => if b = true then f ρ S1 else g ρ S1

section
variable {X : Cx} {W : WX'} {a b c : Expr} {rest : List Expr} {f g : Dn Out} {p q : Dn Bool} {pos : Pos}
theorem d_one {op} (h : Pe X W a f) : Pe X W (.BoolOp op [a] pos) f := pe_one h
theorem d_and (ha : Pe X W a f) (hb : Pe X W (.BoolOp .And (b :: rest) pos) g) : Pe X W (.BoolOp .And (a :: b :: rest) pos) (dAnd f g) := by
  refine pe_imp (pe_andT ha.d hb) fun σ H Q z => ?_
  refine tg1 (R2 := RO X.K X.mg) (g := fun ρ a S1 => match truthD S1 a with
    | some true => g ρ S1
    | some false => some (.ok (.val a) S1)
    | none => none) sh_O z fun x _ H1 ρ S1 F1 m1 d sl ok1 rx A => ?_
  match e : truthD S1 d, A with
  | none, A => exact A.elim
  | some true, A =>
    refine ⟨true, truth_ok ok1 rx e, ?_⟩
    rw [if_pos rfl]
    exact ⟨ρ, S1, F1, m1, sl, ok1, A⟩
  | some false, A =>
    refine ⟨false, truth_ok ok1 rx e, ?_⟩
    rw [if_neg (by simp)]
    exact A x H1 F1 m1 (Stp.refl ..) ok1 rx
theorem d_or (ha : Pe X W a f) (hb : Pe X W (.BoolOp .Or (b :: rest) pos) g) : Pe X W (.BoolOp .Or (a :: b :: rest) pos) (dOr f g) := by
  refine pe_imp (pe_orT ha.d hb) fun σ H Q z => ?_
  refine tg1 (R2 := RO X.K X.mg) (g := fun ρ a S1 => match truthD S1 a with
    | some true => some (.ok (.val a) S1)
    | some false => g ρ S1
    | none => none) sh_O z fun x _ H1 ρ S1 F1 m1 d sl ok1 rx A => ?_
  match e : truthD S1 d, A with
  | none, A => exact A.elim
  | some false, A =>
    refine ⟨false, truth_ok ok1 rx e, ?_⟩
    rw [if_neg (by simp)]
    exact ⟨ρ, S1, F1, m1, sl, ok1, A⟩
  | some true, A =>
    refine ⟨true, truth_ok ok1 rx e, ?_⟩
    rw [if_pos rfl]
    exact A x H1 F1 m1 (Stp.refl ..) ok1 rx
theorem d_not (ha : Pe X W a f) : Pe X W (.UnaryOp .Not a pos) (dNot f) := by
  refine pe_imp (pe_notT ha.d) fun σ H Q z => ?_
  refine tg1 (R2 := RO X.K X.mg) (g := fun ρ a S1 => match truthD S1 a with
    | some k => some (.ok (.val (.bl (!k))) S1)
    | none => none) sh_O z fun x _ H1 ρ S1 F1 m1 d sl ok1 rx A => ?_
  match e : truthD S1 d, A with
  | none, A => exact A.elim
  | some k, A =>
    exact ⟨k, truth_ok ok1 rx e, A _ H1 F1 m1 (Stp.refl ..) ok1 (.bl (!k))⟩
theorem t_tru (ha : Pe X W a f) (he : ∀ whole, isTrue a X.env whole = (do let v ← whole; standAt a.pos; holding [v] (truthy v)) := by intro _; rfl) : Pt X W a (dTru f) := by
  refine pt_imp (pt_truth ha.d he) fun σ H Q z => ?_
  refine tg1 (R2 := RB) (g := fun ρ a S1 => match truthD S1 a with
    | some k => some (.ok k S1)
    | none => none) sh_B z fun x _ H1 ρ S1 F1 m1 d sl ok1 rx A => ?_
  match e : truthD S1 d, A with
  | none, A => exact A.elim
  | some k, A =>
    exact ⟨k, truth_ok ok1 rx e, A _ H1 F1 m1 (Stp.refl ..) ok1 rfl⟩
theorem w_and1 (h : Pt X W a p) : Pw X W (.BoolOp .And [a] pos) p := pw_and1 h
theorem w_or1 (h : Pt X W a p) : Pw X W (.BoolOp .Or [a] pos) p := pw_or1 h
theorem w_and (ha : Pt X W a p) (hb : Pw X W (.BoolOp .And (b :: rest) pos) q) : Pw X W (.BoolOp .And (a :: b :: rest) pos) (bAnd p q) := by
  refine pw_imp (pw_and ha hb) fun σ H Q z => ?_
  refine tg1 (R2 := RB) (g := fun ρ c S1 => if c = true then q ρ S1 else some (.ok false S1)) sh_B z fun x _ H1 ρ S1 F1 m1 d sl ok1 rx A => ?_
  cases rx
  cases x with
  | true => exact ⟨ρ, S1, F1, m1, sl, ok1, A⟩
  | false => exact A false H1 F1 m1 (Stp.refl ..) ok1 rfl
theorem w_or (ha : Pt X W a p) (hb : Pw X W (.BoolOp .Or (b :: rest) pos) q) : Pw X W (.BoolOp .Or (a :: b :: rest) pos) (bOr p q) := by
  refine pw_imp (pw_or ha hb) fun σ H Q z => ?_
  refine tg1 (R2 := RB) (g := fun ρ c S1 => if c = true then some (.ok true S1) else q ρ S1) sh_B z fun x _ H1 ρ S1 F1 m1 d sl ok1 rx A => ?_
  cases rx
  cases x with
  | false => exact ⟨ρ, S1, F1, m1, sl, ok1, A⟩
  | true => exact A true H1 F1 m1 (Stp.refl ..) ok1 rfl
theorem t_w (h : Pw X W a p) : Pt X W a p := h.pt
theorem t_not (ha : Pt X W a p) : Pt X W (.UnaryOp .Not a pos) (bNot p) := by
  refine pt_imp (pt_not ha) fun σ H Q z => ?_
  refine tg1 (R2 := RB) (g := fun ρ c S1 => some (.ok (!c) S1)) sh_B z fun x _ H1 ρ S1 F1 m1 d sl ok1 rx A => ?_
  cases rx
  exact A (!x) H1 F1 m1 (Stp.refl ..) ok1 rfl
theorem d_if (hc : Pt X W c p) (ha : Pe X W a f) (hb : Pe X W b g) : Pe X W (.IfExp c a b pos) (dIf p f g) := by
  refine pe_imp (pe_ifExp hc ha hb) fun σ H Q z => ?_
  refine tg1 (R2 := RO X.K X.mg) (g := fun ρ c S1 => if c = true then f ρ S1 else g ρ S1) sh_O z fun x _ H1 ρ S1 F1 m1 d sl ok1 rx A => ?_
  cases rx
  cases x with
  | true => exact ⟨ρ, S1, F1, m1, sl, ok1, A⟩
  | false => exact ⟨ρ, S1, F1, m1, sl, ok1, A⟩
end

/-! ### argument lists, displays -/
def aNil : Dn (List D) := fun _ S => some (.ok [] S)
def aCons (f : Dn Out) (g : Dn (List D)) : Dn (List D) := fun ρ S => bnd (stl f ρ S) fun d S1 => bnd (g ρ S1) fun ds S2 => some (.ok (d :: ds) S2)
def dTup (g : Dn (List D)) : Dn Out := fun ρ S => bnd (g ρ S) fun ds S1 => if ds.length ≤ sizeLine then some (.ok (.val (.tup ds)) S1) else none
def dLst (g : Dn (List D)) : Dn Out := fun ρ S => bnd (g ρ S) fun ds S1 => if ds.length ≤ sizeLine then some (.ok (.own (.lst ds)) S1) else none
section
variable {X : Cx} {W : WX'} {e : Expr} {es : List Expr} {f : Dn Out} {g : Dn (List D)} {pos : Pos}
theorem a_nil : Pa X W [] aNil := by
  refine pa_imp pa_nil fun σ H Q q => ?_
  obtain ⟨ρ, S, F, m, sl, ok, A⟩ := q
  exact A [] H F m (Stp.refl ..) ok .nil
theorem a_cons (ha : Pe X W e f) (hr : Pa X W es g) (hs : starEach (e :: es) X.env = (false, eval e X.env) :: starEach es X.env := by rfl) : Pa X W (e :: es) (aCons f g) := by
  refine pa_imp (pa_cons ha.d hr hs) fun σ H Q q => ?_
  refine tg1 (R2 := RL X.K) (g := fun ρ d S1 => bnd (g ρ S1) fun ds S2 => some (.ok (d :: ds) S2)) sh_L q fun x _ H1 ρ S1 F1 m1 d sl ok1 rx A => ?_
  refine tgc (R2 := RL X.K) (g := fun _ ds S2 => some (.ok (d :: ds) S2)) sh_L (fun F m => Rep X.K F m x d) (fun F m F' m' e p r => Rep.mono e p d r) ⟨ρ, S1, F1, m1, rx, sl, ok1, A⟩ fun xs _ H2 ρ S2 F2 m2 ds rx sl ok2 rxs A => ?_
  exact A (x :: xs) H2 F2 m2 (Stp.refl ..) ok2 (.cons rx rxs)
theorem d_tup {x1} (h : Pa X W es g) : Pe X W (.Tuple es x1 pos) (dTup g) := by
  refine pe_imp (pe_tup h) fun σ H Q q => ?_
  refine tg1 (R2 := RO X.K X.mg) (g := fun ρ (ds : List D) S1 => if ds.length ≤ sizeLine then some (.ok (.val (.tup ds)) S1) else none) sh_O q fun xs _ H1 ρ S1 F1 m1 ds sl ok1 rx A => ?_
  by_cases hl : ds.length ≤ sizeLine
  · rw [if_pos hl] at A
    refine ⟨by rw [rx.length]; exact hl, fun p hp => ?_⟩
    obtain ⟨k, st, e⟩ := ok1.newF (o := .tup xs) hp
    exact A (.ref p) _ _ _ st k (.tup (.inl (.inl upd_same)) (RepL.mono e (Pre.refl _) ds rx))
  · rw [if_neg hl] at A
    exact A.elim
theorem d_lst (h : Pa X W es g) : Pe X W (.List es pos) (dLst g) := by
  refine pe_imp (pe_lst h) fun σ H Q q => ?_
  refine tg1 (R2 := RO X.K X.mg) (g := fun ρ (ds : List D) S1 => if ds.length ≤ sizeLine then some (.ok (.own (.lst ds)) S1) else none) sh_O q fun xs _ H1 ρ S1 F1 m1 ds sl ok1 rx A => ?_
  by_cases hl : ds.length ≤ sizeLine
  · rw [if_pos hl] at A
    refine ⟨by rw [rx.length]; exact hl, fun p hp => ?_⟩
    obtain ⟨k, st⟩ := ok1.new (o := .lst xs) hp
    exact A (.ref p) _ _ _ st k ⟨p, rfl, hp, ok1.fnone hp, ok1.notin hp, xs, upd_same, rx⟩
  · rw [if_neg hl] at A
    exact A.elim
end
end Sf
/-! Sf2: the operations. -/
namespace Sf
open L2 PySem PySem.Spec PyProof.Rows

theorem rof_val {K : PySem.W.Frag} {mg : Str → Option Value} {H F : Hp} {m : List Addr} {S : Sto} {Q : VK} {v : V} {d : D} (ok : SOk K mg H F m S)
    (q : ∀ v H' F' m', Stp H F m H' F' m' → SOk K mg H' F' m' S → OutR K mg H H' F' m' v (.val d) → Q v H') (r : Rep K F m v d) : Q v H := q v H F m (Stp.refl ..) ok r
theorem rof_tup {K : PySem.W.Frag} {mg : Str → Option Value} {H F : Hp} {m : List Addr} {S : Sto} {Q : VK} {ds : List D} {xs : List V} (ok : SOk K mg H F m S)
    (q : ∀ v H' F' m', Stp H F m H' F' m' → SOk K mg H' F' m' S → OutR K mg H H' F' m' v (.val (.tup ds)) → Q v H') (r : RepL K F m xs ds) : ∀ p, H p = none → Q (.ref p) (upd H p (.tup xs)) := fun p hp => by
  obtain ⟨k, st, e⟩ := ok.newF (o := .tup xs) hp
  exact q (.ref p) _ _ _ st k (.tup (.inl (.inl upd_same)) (RepL.mono e (Pre.refl _) ds r))
theorem rof_lst {K : PySem.W.Frag} {mg : Str → Option Value} {H F : Hp} {m : List Addr} {S : Sto} {Q : VK} {ds : List D} {xs : List V} (ok : SOk K mg H F m S)
    (q : ∀ v H' F' m', Stp H F m H' F' m' → SOk K mg H' F' m' S → OutR K mg H H' F' m' v (.own (.lst ds)) → Q v H') (r : RepL K F m xs ds) : ∀ p, H p = none → Q (.ref p) (upd H p (.lst xs)) := fun p hp => by
  obtain ⟨k, st⟩ := ok.new (o := .lst xs) hp
  exact q (.ref p) _ _ _ st k ⟨p, rfl, hp, ok.fnone hp, ok.notin hp, xs, upd_same, r⟩

def addD : O2 := fun S a b => match a, b with
  | .int i, .int j => some (.val (.int (i + j)))
  | .str s, .str t => if s.length + t.length ≤ sizeLine then some (.val (.str (s ++ t))) else none
  | .tup as, .tup bs => if as.length + bs.length ≤ sizeLine then some (.val (.tup (as ++ bs))) else none
  | a, b => match viewC S a, viewC S b with
    | some as, some bs => if as.length + bs.length ≤ sizeLine then some (.own (.lst (as ++ bs))) else none
    | _, _ => none
def subD : O2 := fun _ a b => match a, b with
  | .int i, .int j => some (.val (.int (i - j)))
  | _, _ => none
/-- products: one factor below 2 ^ 64, or both within bits -/
def mulOk (i j : Int) : Bool := decide ((-(2 ^ 64) < i ∧ i < 2 ^ 64) ∨ (-(2 ^ 64) < j ∧ j < 2 ^ 64))
def mulD : O2 := fun S a b => match a, b with
  | .int i, .int j => if mulOk i j = true then some (.val (.int (i * j))) else none
  | a, .int k => match viewC S a with
    | some as => if -(2 ^ 63) ≤ k ∧ k < 2 ^ 63 ∧ as.length * k.toNat ≤ sizeLine then some (.own (.lst (List.replicate k.toNat as).flatten)) else none
    | none => none
  | _, _ => none
/-- a product of great numbers -/
def mulWD : O2 := fun S a b => match a, b with
  | .int i, .int j => if i.natAbs.log2 + j.natAbs.log2 < 1000000 then some (.val (.int (i * j))) else none
  | _, _ => none
def modD : O2 := fun _ a b => match a, b with
  | .int i, .int j => if j ≠ 0 then some (.val (.int (i.fmod j))) else none
  | _, _ => none
def fdivD : O2 := fun _ a b => match a, b with
  | .int i, .int j => if j ≠ 0 ∧ j.natAbs < 1073741824 then some (.val (.int (i.fdiv j))) else none
  | _, _ => none
def powD : O2 := fun _ a b => match a, b with
  | .int i, .int j => if 0 ≤ j ∧ j ≤ 1000000 ∧ i.natAbs < 2 ^ 64 then some (.val (.int (i ^ j.toNat))) else none
  | _, _ => none
def strLt (s t : Str) : Bool := decide (s.cps.toList < t.cps.toList)
def ltD : O2 := fun _ a b => match a, b with
  | .int i, .int j => some (.val (.bl (decide (i < j))))
  | .str s, .str t => some (.val (.bl (strLt s t)))
  | _, _ => none
def leD : O2 := fun _ a b => match a, b with
  | .int i, .int j => some (.val (.bl (decide (i ≤ j))))
  | .str s, .str t => some (.val (.bl (!strLt t s)))
  | _, _ => none
def gtD : O2 := fun _ a b => match a, b with
  | .int i, .int j => some (.val (.bl (decide (j < i))))
  | .str s, .str t => some (.val (.bl (strLt t s)))
  | _, _ => none
def geD : O2 := fun _ a b => match a, b with
  | .int i, .int j => some (.val (.bl (decide (j ≤ i))))
  | .str s, .str t => some (.val (.bl (!strLt s t)))
  | _, _ => none

theorem mulOk_c {i j : Int} (h : mulOk i j = true) : CMul i j := by
  have h' := of_decide_eq_true (p := ((-(2 ^ 64) < i ∧ i < 2 ^ 64) ∨ (-(2 ^ 64) < j ∧ j < 2 ^ 64))) h
  exact h'

section
variable {X : Cx}
theorem op_addD : OpR X (binaryOp .Add) (rOf X.K X.mg addD) := by
  refine OpR.imp (OpR.or (OpR.or (OpR.or op_add op_add_str) op_catA) op_cat) fun x y H Q h => ?_
  obtain ⟨S, F, m, a, b, u, ok, ra, rb, ho, q⟩ := h
  unfold addD at ho
  split at ho
  · cases ra; cases rb; cases ho
    exact .inl (.inl (.inl ⟨_, _, rfl, rfl, rof_val ok q (.int _)⟩))
  · split at ho
    · rename_i hs
      cases ra; cases rb; cases ho
      exact .inl (.inl (.inr ⟨_, _, rfl, rfl, hs, rof_val ok q (.str _)⟩))
    · cases ho
  · split at ho
    · rename_i as bs hs
      cases ho
      obtain ⟨p, xs, rfl, h1, h2⟩ := viewT_ok ok ra rfl
      obtain ⟨p', ys, rfl, h3, h4⟩ := viewT_ok ok rb rfl
      refine .inl (.inr ⟨_, _, _, _, rfl, rfl, h1, h3, by rw [h2.length, h4.length]; exact hs, fun e => ?_, fun _ e => ?_, fun _ _ => rof_tup ok q (h2.append h4)⟩)
      · subst e
        cases h2
        exact rof_val ok q rb
      · subst e
        cases h4
        rw [List.append_nil] at q
        exact rof_val ok q ra
    · cases ho
  · split at ho
    · rename_i as bs e1 e2
      split at ho
      · rename_i hs
        cases ho
        obtain ⟨p, xs, rfl, h1, h2⟩ := viewC_ok ok ra e1
        obtain ⟨p', ys, rfl, h3, h4⟩ := viewC_ok ok rb e2
        exact .inr ⟨_, _, _, _, rfl, rfl, h1, h3, by rw [h2.length, h4.length]; exact hs, rof_lst ok q (h2.append h4)⟩
      · cases ho
    · cases ho
theorem opII {o : O2} {f : Value → Value → Sem Value} {C : Int → Int → Prop} {g : Int → Int → V} (ho : OpR X f (rI C g))
    (k : ∀ S a b u, o S a b = some u → ∃ i j d, a = .int i ∧ b = .int j ∧ C i j ∧ u = .val d ∧ ∀ F m, Rep X.K F m (g i j) d) : OpR X f (rOf X.K X.mg o) := by
  refine OpR.imp ho fun x y H Q h => ?_
  obtain ⟨S, F, m, a, b, u, ok, ra, rb, e, q⟩ := h
  obtain ⟨i, j, d, rfl, rfl, hc, rfl, hd⟩ := k S a b u e
  cases ra; cases rb
  exact ⟨i, j, rfl, rfl, hc, rof_val ok q (hd F m)⟩
theorem op_subD : OpR X (binaryOp .Sub) (rOf X.K X.mg subD) := by
  refine OpR.imp op_sub fun x y H Q h => ?_
  obtain ⟨S, F, m, a, b, u, ok, ra, rb, e, q⟩ := h
  unfold subD at e
  split at e
  · cases ra; cases rb; cases e
    exact ⟨_, _, rfl, rfl, rof_val ok q (.int _)⟩
  · cases e
theorem op_mulD : OpR X (binaryOp .Mult) (rOf X.K X.mg mulD) := by
  refine OpR.imp (OpR.or op_mul op_rep) fun x y H Q h => ?_
  obtain ⟨S, F, m, a, b, u, ok, ra, rb, e, q⟩ := h
  unfold mulD at e
  split at e
  · split at e
    · rename_i hc
      cases ra; cases rb; cases e
      exact .inl ⟨_, _, rfl, rfl, mulOk_c hc, rof_val ok q (.int _)⟩
    · cases e
  · split at e
    · rename_i as e1
      split at e
      · rename_i hs
        cases e
        cases rb
        obtain ⟨p, xs, rfl, h1, h2⟩ := viewC_ok ok ra e1
        refine .inr ⟨_, _, _, rfl, rfl, h1, hs.1, hs.2.1, by rw [h2.length]; exact hs.2.2, rof_lst ok q ?_⟩
        have : ∀ n, RepL X.K F m (List.replicate n xs).flatten (List.replicate n as).flatten := fun n => by
          induction n with
          | zero => exact .nil
          | succ n ih =>
            rw [List.replicate_succ, List.replicate_succ, List.flatten_cons, List.flatten_cons]
            exact h2.append ih
        exact this _
      · cases e
    · cases e
  · cases e
theorem op_mulWD : OpR X (binaryOp .Mult) (rOf X.K X.mg mulWD) := by
  refine opII op_mulW fun S a b u e => ?_
  unfold mulWD at e
  split at e
  · split at e
    · rename_i hc
      cases e
      exact ⟨_, _, _, rfl, rfl, hc, rfl, fun _ _ => .int _⟩
    · cases e
  · cases e
theorem op_modD : OpR X (binaryOp .Mod) (rOf X.K X.mg modD) := by
  refine opII op_modN fun S a b u e => ?_
  unfold modD at e
  split at e
  · split at e
    · rename_i hc
      cases e
      exact ⟨_, _, _, rfl, rfl, hc, rfl, fun _ _ => .int _⟩
    · cases e
  · cases e
theorem op_fdivD : OpR X (binaryOp .FloorDiv) (rOf X.K X.mg fdivD) := by
  refine opII op_fdivN fun S a b u e => ?_
  unfold fdivD at e
  split at e
  · split at e
    · rename_i hc
      cases e
      exact ⟨_, _, _, rfl, rfl, hc, rfl, fun _ _ => .int _⟩
    · cases e
  · cases e
theorem op_powD : OpR X (binaryOp .Pow) (rOf X.K X.mg powD) := by
  refine opII op_pow fun S a b u e => ?_
  unfold powD at e
  split at e
  · split at e
    · rename_i hc
      cases e
      exact ⟨_, _, _, rfl, rfl, hc, rfl, fun _ _ => .int _⟩
    · cases e
  · cases e
theorem op_ltD : OpR X (compareOp .Lt) (rOf X.K X.mg ltD) := by
  refine OpR.imp (OpR.or op_lt op_lt_str) fun x y H Q h => ?_
  obtain ⟨S, F, m, a, b, u, ok, ra, rb, e, q⟩ := h
  unfold ltD at e
  split at e
  · cases ra; cases rb; cases e
    exact .inl ⟨_, _, rfl, rfl, rof_val ok q (.bl _)⟩
  · cases ra; cases rb; cases e
    exact .inr ⟨_, _, rfl, rfl, rof_val ok q (.bl _)⟩
  · cases e
theorem op_leD : OpR X (compareOp .LtE) (rOf X.K X.mg leD) := by
  refine OpR.imp (OpR.or op_le op_le_str) fun x y H Q h => ?_
  obtain ⟨S, F, m, a, b, u, ok, ra, rb, e, q⟩ := h
  unfold leD at e
  split at e
  · cases ra; cases rb; cases e
    exact .inl ⟨_, _, rfl, rfl, rof_val ok q (.bl _)⟩
  · cases ra; cases rb; cases e
    exact .inr ⟨_, _, rfl, rfl, rof_val ok q (.bl _)⟩
  · cases e
theorem op_gtD : OpR X (compareOp .Gt) (rOf X.K X.mg gtD) := by
  refine OpR.imp (OpR.or op_gt op_gt_str) fun x y H Q h => ?_
  obtain ⟨S, F, m, a, b, u, ok, ra, rb, e, q⟩ := h
  unfold gtD at e
  split at e
  · cases ra; cases rb; cases e
    exact .inl ⟨_, _, rfl, rfl, rof_val ok q (.bl _)⟩
  · cases ra; cases rb; cases e
    exact .inr ⟨_, _, rfl, rfl, rof_val ok q (.bl _)⟩
  · cases e
theorem op_geD : OpR X (compareOp .GtE) (rOf X.K X.mg geD) := by
  refine OpR.imp (OpR.or op_ge op_ge_str) fun x y H Q h => ?_
  obtain ⟨S, F, m, a, b, u, ok, ra, rb, e, q⟩ := h
  unfold geD at e
  split at e
  · cases ra; cases rb; cases e
    exact .inl ⟨_, _, rfl, rfl, rof_val ok q (.bl _)⟩
  · cases ra; cases rb; cases e
    exact .inr ⟨_, _, rfl, rfl, rof_val ok q (.bl _)⟩
  · cases e
end

/-! ### data as PyData: ==, in, repr -/
mutual
def D.plain : D → Bool
  | .ref _ => false
  | .tup ds => plainL ds
  | .lst ds => plainL ds
  | .fls ds => plainL ds
  | _ => true
def plainL : List D → Bool
  | [] => true
  | d :: ds => d.plain && plainL ds
end
mutual
def D.py : D → PyData
  | .non => .none
  | .bl b => .bool b
  | .int i => .int i
  | .str s => .str s
  | .tup ds => .tuple (pyL ds)
  | .lst ds => .list (pyL ds)
  | .fls ds => .list (pyL ds)
  | .emp => .dict []
  | .ref _ => .none
def pyL : List D → List PyData
  | [] => []
  | d :: ds => d.py :: pyL ds
end
/-- the look through one box -/
def topd (S : Sto) : D → D
  | .ref n => match S[n]? with
    | some (.lst ds) => .lst ds
    | some (.dct []) => .emp
    | _ => .ref n
  | d => d
section
variable {X : Cx} {F : Hp} {m : List Addr} {pins : List (Addr × Obj)} {σ : L2.St} {H : Hp} {s : Shared} {S : Sto}
mutual
theorem rep_reads (I : Inv X pins σ H s) (sub : Same F H) : ∀ (d : D) (v : V) (u : Value), Rep X.K F m v d → d.plain = true → RelV v u → ∃ as, Reads s.heap u d.py as
  | .non, _, _, h, _, r => by
    cases h; cases r
    exact ⟨_, Reads.none⟩
  | .bl b, _, _, h, _, r => by
    cases h; cases r
    exact ⟨_, Reads.bool b⟩
  | .int i, _, _, h, _, r => by
    cases h
    obtain ⟨t, rfl⟩ := r
    exact ⟨_, Reads.int i t⟩
  | .str x, _, _, h, _, r => by
    cases h
    obtain ⟨t, rfl⟩ := r
    exact ⟨_, Reads.str x t⟩
  | .tup ds, _, _, h, p, r => by
    cases h with
    | tup hs ha =>
      cases r
      obtain ⟨its, rv, ⟨o, ho, hc, n, hd⟩, _⟩ := I.tuple (same_t sub hs)
      obtain ⟨as, hr⟩ := repl_reads I sub ds _ its ha p rv
      exact ⟨_, Reads.tuple ho hc hd hr⟩
  | .lst ds, _, _, h, p, r => by
    cases h with
    | lst hs ha =>
      cases r
      obtain ⟨its, rv, ⟨o, n, ho, hc, _, hd⟩, _⟩ := I.list (SqL.of (sub _ _ hs))
      obtain ⟨as, hr⟩ := repl_reads I sub ds _ its ha p rv
      exact ⟨_, Reads.list ho hc hd hr⟩
  | .fls ds, _, _, h, p, r => by
    cases h with
    | fls hs ha =>
      cases r
      obtain ⟨its, rv, ⟨o, n, ho, hc, _, hd⟩, _⟩ := I.list (same_l sub hs)
      obtain ⟨as, hr⟩ := repl_reads I sub ds _ its ha p rv
      exact ⟨_, Reads.list ho hc hd hr⟩
  | .emp, _, _, h, _, r => by
    cases h with
    | emp hs =>
      cases r
      obtain ⟨_, _, vs, rel, o, es, ep, ho, hx, hd, he⟩ := dk_of I.hok (sub _ _ hs)
      cases rel
      have e0 : es.toList = [] := by
        match es.toList, he.2.1 with
        | [], _ => rfl
        | _ :: _, z => cases z
      exact ⟨_, Reads.dict ho hx.1 hd (by rw [e0]; exact .nil) (by rw [e0]; exact .nil)⟩
  | .ref _, _, _, _, p, _ => by cases p
theorem repl_reads (I : Inv X pins σ H s) (sub : Same F H) : ∀ (ds : List D) (vs : List V) (us : List Value), RepL X.K F m vs ds → plainL ds = true → Vals vs us → ∃ as, ReadsAll s.heap us (pyL ds) as
  | [], _, _, h, _, r => by
    cases h; cases r
    exact ⟨_, ReadsAll.nil⟩
  | d :: ds, _, _, h, p, r => by
    cases h with
    | cons h1 h2 =>
      cases r with
      | cons r1 r2 =>
        simp only [plainL, Bool.and_eq_true] at p
        obtain ⟨as, q1⟩ := rep_reads I sub d _ _ h1 p.1 r1
        obtain ⟨bs, q2⟩ := repl_reads I sub ds _ _ h2 p.2 r2
        exact ⟨_, ReadsAll.cons q1 q2⟩
end
end

section
variable {K : PySem.W.Frag} {mg : Str → Option Value} {F : Hp} {m : List Addr} {H : Hp} {S : Sto}
/-- the look through a box is read at the whole heap -/
theorem topd_rep (ok : SOk K mg H F m S) {v : V} {d : D} (r : Rep K F m v d) : ∃ F', Same F' H ∧ Rep K F' m v (topd S d) := by
  by_cases hr : ∃ n, d = .ref n
  · obtain ⟨n, rfl⟩ := hr
    cases r with
    | @ref a n h1 =>
      have keep : ∃ F', Same F' H ∧ Rep K F' m (.ref a) (.ref n) := ⟨F, ok.sub, .ref h1⟩
      show ∃ F', Same F' H ∧ Rep K F' m (.ref a) (match S[n]? with
        | some (.lst ds) => .lst ds
        | some (.dct []) => .emp
        | _ => .ref n)
      cases e : S[n]? with
      | none => exact keep
      | some o =>
        cases o with
        | lst ds =>
          obtain ⟨vs, h2, h3⟩ := ok.at h1 e
          exact ⟨H, fun _ _ z => z, .lst h2 (RepL.mono ok.sub (Pre.refl m) ds h3)⟩
        | dct kvs =>
          cases kvs with
          | nil =>
            obtain ⟨ks, h2, h3⟩ := ok.at h1 e
            cases h3
            exact ⟨H, fun _ _ z => z, .emp h2⟩
          | cons p l => exact keep
        | dctT kvs => exact keep
        | ins c fs => exact keep
        | exc c fs => exact keep
  · have e : topd S d = d := by
      cases d <;> first | rfl | exact absurd ⟨_, rfl⟩ hr
    rw [e]
    exact ⟨F, ok.sub, r⟩
end

/-- == -/
def shp (d : D) : Bool := d.plain && SeqAt.shaped d.py
def eqB (S : Sto) (a b : D) : Option Bool :=
  match a, b with
  | .int i, .int j => some (decide (i = j))
  | .str s, .str t => some (decide (s = t))
  | a, b => if shp (topd S a) && shp (topd S b) then some (PyData.eqv (topd S a).py (topd S b).py) else none
def eqD : O2 := fun S a b => (eqB S a b).map fun c => .val (.bl c)
def neD : O2 := fun S a b => (eqB S a b).map fun c => .val (.bl (!c))
section
variable {X : Cx}
theorem opB_of {o : O2} {f : Value → Value → Sem Value} (h : ∀ (pins : List (Addr × Obj)) (s : Shared) (σ : L2.St) (H F : Hp) (m : List Addr) (S : Sto) (x y : V) (v u : Value) (a b : D) (r : Out) (Q : VK), Inv X pins σ H s → RelV x v → RelV y u →
    SOk X.K X.mg H F m S → Rep X.K F m x a → Rep X.K F m y b → o S a b = some r → ∃ c, r = .val (.bl c) ∧ (Q (.bl c) H → wpAny (model X.prog X.w) X.A (f v u) (EP X pins σ Q) X.xe s)) : OpR X f (rOf X.K X.mg o) := by
  intro pins s σ H x y v u Q I rx ry ⟨S, F, m, a, b, r, ok, ra, rb, e, q⟩
  obtain ⟨c, rfl, k⟩ := h pins s σ H F m S x y v u a b r Q I rx ry ok ra rb e
  exact k (q _ H F m (Stp.refl ..) ok (.bl c))
theorem op_eqD' (hu : X.A.units + 64 < cLine) : OpR X (compareOp .Eq) (rOf X.K X.mg eqD) := by
  refine opB_of fun pins s σ H F m S x y v u a b r Q I rx ry ok ra rb e => ?_
  unfold eqD at e
  cases e1 : eqB S a b with
  | none => rw [e1] at e; cases e
  | some c =>
    rw [e1] at e
    cases e
    refine ⟨c, rfl, fun q => ?_⟩
    unfold eqB at e1
    split at e1
    · cases ra; cases rb; cases e1
      refine op_eq pins s σ H _ _ v u Q I rx ry ⟨rfl, ?_⟩
      rename_i i j
      have : decide (V.int i = V.int j) = decide (i = j) := decide_eq_decide.mpr ⟨fun z => by injection z, fun z => by rw [z]⟩
      rw [this]
      exact q
    · cases ra; cases rb; cases e1
      refine op_eq pins s σ H _ _ v u Q I rx ry ⟨rfl, ?_⟩
      rename_i i j
      have : decide (V.str i = V.str j) = decide (i = j) := decide_eq_decide.mpr ⟨fun z => by injection z, fun z => by rw [z]⟩
      rw [this]
      exact q
    · split at e1
      · rename_i hc
        cases e1
        simp only [Bool.and_eq_true, shp] at hc
        obtain ⟨F1, s1, r1⟩ := topd_rep ok ra
        obtain ⟨F2, s2, r2⟩ := topd_rep ok rb
        obtain ⟨as, q1⟩ := rep_reads I s1 _ _ _ r1 hc.1.1 rx
        obtain ⟨bs, q2⟩ := rep_reads I s2 _ _ _ r2 hc.2.1 ry
        exact SeqAt.compareEq_shaped q1 q2 hc.1.2 hc.2.2 hu ⟨.bl _, H, I, rfl, q⟩
      · cases e1
theorem op_neD' (hu : X.A.units + 64 < cLine) : OpR X (compareOp .NotEq) (rOf X.K X.mg neD) := by
  refine opB_of fun pins s σ H F m S x y v u a b r Q I rx ry ok ra rb e => ?_
  unfold neD at e
  cases e1 : eqB S a b with
  | none => rw [e1] at e; cases e
  | some c =>
    rw [e1] at e
    cases e
    refine ⟨!c, rfl, fun q => ?_⟩
    unfold eqB at e1
    split at e1
    · cases ra; cases rb; cases e1
      refine op_ne pins s σ H _ _ v u Q I rx ry ⟨rfl, ?_⟩
      rename_i i j
      have : decide (V.int i = V.int j) = decide (i = j) := decide_eq_decide.mpr ⟨fun z => by injection z, fun z => by rw [z]⟩
      rw [this]
      exact q
    · cases ra; cases rb; cases e1
      refine op_ne pins s σ H _ _ v u Q I rx ry ⟨rfl, ?_⟩
      rename_i i j
      have : decide (V.str i = V.str j) = decide (i = j) := decide_eq_decide.mpr ⟨fun z => by injection z, fun z => by rw [z]⟩
      rw [this]
      exact q
    · split at e1
      · rename_i hc
        cases e1
        simp only [Bool.and_eq_true, shp] at hc
        obtain ⟨F1, s1, r1⟩ := topd_rep ok ra
        obtain ⟨F2, s2, r2⟩ := topd_rep ok rb
        obtain ⟨as, q1⟩ := rep_reads I s1 _ _ _ r1 hc.1.1 rx
        obtain ⟨bs, q2⟩ := rep_reads I s2 _ _ _ r2 hc.2.1 ry
        exact SeqAt.compareNe_shaped q1 q2 hc.1.2 hc.2.2 hu ⟨.bl _, H, I, rfl, q⟩
      · cases e1
/-- is None, is True, is False -/
def isB (a b : D) : Option Bool :=
  match b, a with
  | .non, .non => some true
  | .non, _ => some false
  | .bl c, .bl d => some (decide (d = c))
  | _, _ => none
def isD : O2 := fun _ a b => (isB a b).map fun c => .val (.bl c)
def isNotD : O2 := fun _ a b => (isB a b).map fun c => .val (.bl (!c))
theorem isB_ok {F : Hp} {m : List Addr} {x y : V} {a b : D} {c : Bool} (ra : Rep X.K F m x a) (rb : Rep X.K F m y b) (h : isB a b = some c) :
    (y = .non ∧ decide (x = .non) = c) ∨ ∃ p q, x = .bl p ∧ y = .bl q ∧ decide (p = q) = c := by
  unfold isB at h
  split at h
  · cases ra; cases rb; cases h
    exact .inl ⟨rfl, rfl⟩
  · rename_i hn
    cases rb; cases h
    refine .inl ⟨rfl, ?_⟩
    cases ra <;> first | rfl | exact absurd rfl hn
  · cases ra; cases rb; cases h
    exact .inr ⟨_, _, rfl, rfl, rfl⟩
  · cases h
theorem op_isD : OpR X (compareOp .Is) (rOf X.K X.mg isD) := by
  refine opB_of fun pins s σ H F m S x y v u a b r Q I rx ry ok ra rb e => ?_
  unfold isD at e
  cases e1 : isB a b with
  | none => rw [e1] at e; cases e
  | some c =>
    rw [e1] at e
    cases e
    refine ⟨c, rfl, fun q => ?_⟩
    rcases isB_ok ra rb e1 with ⟨h1, h2⟩ | ⟨p, p', h1, h2, h3⟩
    · exact op_isN pins s σ H x y v u Q I rx ry ⟨h1, by rw [h2]; exact q⟩
    · exact op_isBl pins s σ H x y v u Q I rx ry ⟨p, p', h1, h2, by rw [h3]; exact q⟩
theorem op_isNotD : OpR X (compareOp .IsNot) (rOf X.K X.mg isNotD) := by
  refine opB_of fun pins s σ H F m S x y v u a b r Q I rx ry ok ra rb e => ?_
  unfold isNotD at e
  cases e1 : isB a b with
  | none => rw [e1] at e; cases e
  | some c =>
    rw [e1] at e
    cases e
    refine ⟨!c, rfl, fun q => ?_⟩
    rcases isB_ok ra rb e1 with ⟨h1, h2⟩ | ⟨p, p', h1, h2, h3⟩
    · exact op_notN pins s σ H x y v u Q I rx ry ⟨h1, by rw [h2]; exact q⟩
    · exact op_notBl pins s σ H x y v u Q I rx ry ⟨p, p', h1, h2, by rw [h3]; exact q⟩

/-! ### in -/
def D.flat : D → Bool
  | .non => true
  | .bl _ => true
  | .int _ => true
  | .str _ => true
  | _ => false
def eqF : D → D → Bool
  | .non, .non => true
  | .bl a, .bl b => a == b
  | .bl a, .int b => (if a then 1 else 0) == b
  | .int a, .bl b => a == (if b then 1 else 0)
  | .int a, .int b => a == b
  | .str a, .str b => a == b
  | _, _ => false
def inB (S : Sto) (a b : D) : Option Bool :=
  match a, b with
  | .str ⟨⟨[c]⟩⟩, .str z => some (decide (c ∈ z.cps.toList))
  | .str s, .str z => some (!(Builtin.Str.occurrences z s 0 z.length 1).isEmpty)
  | a, b => match viewS S b with
    | some ds => if a.flat && ds.all D.flat then some (ds.any fun d => eqF d a) else
        (match view S b with
         | some _ => if shp a && SeqAt.shaped (.list (pyL ds)) && plainL ds then some (ds.any fun z => PyData.eqv z.py a.py) else none
         | none => none)
    | none => none
def inD : O2 := fun S a b => (inB S a b).map fun c => .val (.bl c)
def notInD : O2 := fun S a b => (inB S a b).map fun c => .val (.bl (!c))
theorem rep_flat {F : Hp} {m : List Addr} {x : V} {d : D} (r : Rep X.K F m x d) (h : d.flat = true) : flatV x = true := by
  cases r <;> first | rfl | cases h
theorem repl_flat {F : Hp} {m : List Addr} : ∀ {xs : List V} {ds : List D}, RepL X.K F m xs ds → ds.all D.flat = true → xs.all flatV = true
  | _, _, .nil, _ => rfl
  | _, _, .cons r t, h => by
    rw [List.all_cons, Bool.and_eq_true] at h
    rw [List.all_cons, rep_flat r h.1, repl_flat t h.2]
    rfl
theorem eqF_ok {F : Hp} {m : List Addr} {x y : V} {d e : D} (r : Rep X.K F m x d) (q : Rep X.K F m y e) (h : d.flat = true) (k : e.flat = true) : eqV x y = eqF d e := by
  cases r <;> cases q <;> first | rfl | cases h | cases k
theorem inV_ok {F : Hp} {m : List Addr} {x : V} {d : D} (q : Rep X.K F m x d) (k : d.flat = true) : ∀ {xs : List V} {ds : List D}, RepL X.K F m xs ds → ds.all D.flat = true → inV x xs = ds.any fun e => eqF e d
  | _, _, .nil, _ => rfl
  | _, _, .cons r t, h => by
    rw [List.all_cons, Bool.and_eq_true] at h
    have ih := inV_ok q k t h.2
    unfold inV at ih ⊢
    rw [List.any_cons, List.any_cons, eqF_ok r q h.1 k, ih]
theorem any_py {a : PyData} : ∀ ds : List D, (pyL ds).any (fun z => PyData.eqv z a) = ds.any fun z => PyData.eqv z.py a
  | [] => rfl
  | d :: ds => by
    show (_ || _) = (_ || _)
    rw [any_py ds]
theorem mem_core {S : Sto} {F : Hp} {m : List Addr} {H : Hp} {a b : D} {c : Bool} {x y : V} {neg : Bool} {op : CmpOp} (ho : OpR X (compareOp op) (rIn X.K neg))
    (hs : OpR X (compareOp op) (fun x y H Q => ∃ (c : Nat) (z : Str), x = .str ⟨#[c]⟩ ∧ y = .str z ∧ Q (.bl (if neg then !decide (c ∈ z.cps.toList) else decide (c ∈ z.cps.toList))) H))
    (ht : OpR X (compareOp op) (fun x y H Q => ∃ i j, x = .str i ∧ y = .str j ∧ Q (.bl (if neg then !(!(Builtin.Str.occurrences j i 0 j.length 1).isEmpty) else !(Builtin.Str.occurrences j i 0 j.length 1).isEmpty)) H))
    {s : Shared} {v u : Value} {Q' : Value → Shared → Prop} (hd : ∀ (d : PyData) (ds : List PyData) (as bs : List Addr), Reads s.heap u (.list ds) as → Reads s.heap v d bs → SeqAt.shaped d = true → SeqAt.shaped (.list ds) = true →
      Q' (.bool (if neg then !(ds.any fun z => PyData.eqv z d) else ds.any fun z => PyData.eqv z d)) s → wpAny (model X.prog X.w) X.A (compareOp op v u) Q' X.xe s)
    {pins : List (Addr × Obj)} {σ : L2.St} {Q : VK} (hQ : Q' = EP X pins σ Q) (I : Inv X pins σ H s) (rx : RelV x v) (ry : RelV y u) (ok : SOk X.K X.mg H F m S)
    (ra : Rep X.K F m x a) (rb : Rep X.K F m y b) (e : inB S a b = some c) (q : Q (.bl (if neg then !c else c)) H) : wpAny (model X.prog X.w) X.A (compareOp op v u) (EP X pins σ Q) X.xe s := by
  unfold inB at e
  split at e
  · cases ra; cases rb; cases e
    exact hs pins s σ H _ _ v u Q I rx ry ⟨_, _, rfl, rfl, q⟩
  · cases ra; cases rb; cases e
    exact ht pins s σ H _ _ v u Q I rx ry ⟨_, _, rfl, rfl, q⟩
  · split at e
    · rename_i ds e1
      split at e
      · rename_i hf
        cases e
        rw [Bool.and_eq_true] at hf
        obtain ⟨p, xs, rfl, h1, h2⟩ := viewS_ok ok rb e1
        refine ho pins s σ H _ _ v u Q I rx ry ⟨p, xs, rfl, h1, rep_flat ra hf.1, repl_flat h2 hf.2, ?_⟩
        rw [inV_ok ra hf.1 h2 hf.2]
        exact q
      · split at e
        · rename_i es e2
          split at e
          · rename_i hc
            cases e
            simp only [Bool.and_eq_true, shp] at hc
            obtain ⟨p, xs, rfl, h1, h2⟩ := view_ok ok rb e2
            have hds : es = ds := by
              have : viewS S b = some es := by
                cases b <;> first | exact e2 | cases e2
              rw [e1] at this
              cases this
              rfl
            subst hds
            obtain ⟨as, q1⟩ := rep_reads I ok.sub a x v ra hc.1.1.1 rx
            cases ry
            obtain ⟨its, rv, ⟨o, n, ho', hc', _, hd'⟩, _⟩ := I.list h1
            obtain ⟨bs, q2⟩ := repl_reads I ok.sub es xs its h2 hc.2 rv
            subst hQ
            refine hd a.py (pyL es) _ _ (Reads.list ho' hc' hd' q2) q1 hc.1.1.2 hc.1.2 ⟨.bl _, H, I, rfl, ?_⟩
            rw [any_py]
            exact q
          · cases e
        · cases e
    · cases e
theorem op_inD (hu : X.A.units + 65 < cLine) : OpR X (compareOp .In) (rOf X.K X.mg inD) := by
  refine opB_of fun pins s σ H F m S x y v u a b r Q I rx ry ok ra rb e => ?_
  unfold inD at e
  cases e1 : inB S a b with
  | none => rw [e1] at e; cases e
  | some c =>
    rw [e1] at e
    cases e
    exact ⟨c, rfl, fun q => mem_core (neg := false) op_in_seq op_in_sign op_in_str (fun d ds as bs r2 r1 sd se q => SeqAt.in_list_reads r2 r1 (SeqAt.canLay_of_shaped se) (SeqAt.canLay_of_shaped sd) (room_in_shaped sd hu) q) rfl I rx ry ok ra rb e1 q⟩
theorem op_notInD (hu : X.A.units + 65 < cLine) : OpR X (compareOp .NotIn) (rOf X.K X.mg notInD) := by
  refine opB_of fun pins s σ H F m S x y v u a b r Q I rx ry ok ra rb e => ?_
  unfold notInD at e
  cases e1 : inB S a b with
  | none => rw [e1] at e; cases e
  | some c =>
    rw [e1] at e
    cases e
    exact ⟨!c, rfl, fun q => mem_core (neg := true) op_notIn_seq op_notIn_sign op_notIn_str (fun d ds as bs r2 r1 sd se q => SeqAt.notIn_list_reads r2 r1 (SeqAt.canLay_of_shaped se) (SeqAt.canLay_of_shaped sd) (room_in_shaped sd hu) q) rfl I rx ry ok ra rb e1 q⟩
end
end Sf
/-! Sf3: subscripts, slices, built-in functions and methods. -/
namespace Sf
open L2 PySem PySem.Spec PyProof.Rows

theorem repl_at {K : PySem.W.Frag} {F : Hp} {m : List Addr} {vs : List V} {ds : List D} {i : Int} {d : D} (r : RepL K F m vs ds) (h : atI ds i = some d) : ∃ v, atI vs i = some v ∧ Rep K F m v d := by
  unfold atI at h ⊢
  rw [r.length]
  cases e : ixN ds.length i with
  | none => rw [e] at h; cases h
  | some j =>
    rw [e] at h
    exact r.get h
/-- x[i] -/
def ixD : O2 := fun S a b => match a, b with
  | .tup ds, .int i => (atI ds i).map .val
  | .str z, .int i => if z.length ≤ sizeLine then (atI z.cps.toList i).map fun c => .val (.str ⟨#[c]⟩) else none
  | a, .int i => match view S a with
    | some ds => (atI ds i).map .val
    | none => none
  | _, _ => none
theorem op_ixD {X : Cx} : IxR X (rOf X.K X.mg ixD) := by
  refine IxR.imp (ix_list.or (ix_tup.or ix_str)) fun x y H Q h => ?_
  obtain ⟨S, F, m, a, b, u, ok, ra, rb, e, q⟩ := h
  unfold ixD at e
  split at e
  · rename_i ds i
    cases e1 : atI ds i with
    | none => rw [e1] at e; cases e
    | some d =>
      rw [e1] at e
      cases e
      cases rb
      obtain ⟨p, xs, rfl, h1, h2⟩ := viewT_ok ok ra rfl
      obtain ⟨v, h3, h4⟩ := repl_at h2 e1
      exact .inr (.inl ⟨p, xs, i, v, rfl, rfl, h1, h3, rof_val ok q h4⟩)
  · rename_i z i
    split at e
    · rename_i hz
      cases e1 : atI z.cps.toList i with
      | none => rw [e1] at e; cases e
      | some c =>
        rw [e1] at e
        cases e
        cases ra; cases rb
        exact .inr (.inr ⟨z, i, c, rfl, rfl, hz, e1, rof_val ok q (.str _)⟩)
    · cases e
  · rename_i i _ _
    split at e
    · rename_i ds e0
      cases e1 : atI ds i with
      | none => rw [e1] at e; cases e
      | some d =>
        rw [e1] at e
        cases e
        cases rb
        obtain ⟨p, xs, rfl, h1, h2⟩ := view_ok ok ra e0
        obtain ⟨v, h3, h4⟩ := repl_at h2 e1
        exact .inl ⟨p, xs, i, v, rfl, rfl, h1, h3, rof_val ok q h4⟩
    · cases e
  · cases e
theorem d_ix {X : Cx} {W : WX'} {a b : Expr} {f g : Dn Out} {pos : Pos} (ha : Pe X W a f) (hb : Pe X W b g) (hs : PlainIx b := by exact fun _ _ => rfl) : Pe X W (.Subscript a b pos) (d2 ixD f g) :=
  pe_imp (pe_ix op_ixD ha.d hb.d hs) fun _ _ _ q => tg_2 q

/-! ### slices -/
def cutD (xs : List D) (lo hi : Option Int) : List D := (xs.drop (HT.sIx xs.length 0 lo)).take (HT.sIx xs.length xs.length hi - HT.sIx xs.length 0 lo)
def slD (S : Sto) (a : D) (lo hi : Option Int) : Option Out :=
  match a with
  | .tup ds => some (.val (.tup (cutD ds lo hi)))
  | .str z => if z.length ≤ sizeLine then some (.val (.str (cutS z lo hi))) else none
  | a => match view S a with
    | some ds => some (.own (.lst (cutD ds lo hi)))
    | none => none
def pNone : Dn (Option Int) := fun _ S => some (.ok none S)
def pSome (f : Dn Out) : Dn (Option Int) := fun ρ S => bnd (stl f ρ S) fun d S1 => match d with
  | .int i => some (.ok (some i) S1)
  | _ => none
def dSl (f : Dn Out) (g h : Dn (Option Int)) : Dn Out := fun ρ S => bnd (stl f ρ S) fun a S1 => bnd (g ρ S1) fun lo S2 => bnd (h ρ S2) fun hi S3 => okv (slD S3 a lo hi) S3
abbrev Po (X : Cx) (W : WX') (e : Option Expr) (f : Dn (Option Int)) : Prop := PO X e (Tg X.K X.mg RB W f)
theorem po_imp {X : Cx} {e : Option Expr} {t t' : TO} (h : PO X e t) (k : ∀ σ H Q, t' σ H Q → t σ H Q) : PO X e t' :=
  ⟨fun pins s σ H Q I q => h.run pins s σ H Q I (k σ H Q q)⟩
section
variable {X : Cx} {W : WX'} {e : Expr} {lo hi : Option Expr} {f : Dn Out} {g h : Dn (Option Int)} {pos p2 : Pos}
theorem p_none : Po X W none pNone := by
  refine po_imp po_none fun σ H Q q => ?_
  obtain ⟨ρ, S, F, m, sl, ok, A⟩ := q
  exact A none H F m (Stp.refl ..) ok rfl
theorem p_some (h : Pe X W e f) : Po X W (some e) (pSome f) := by
  refine po_imp (po_some h.d) fun σ H Q q => ?_
  refine tg1 (R2 := RB) (g := fun ρ (d : D) S1 => match d with
    | .int i => some (.ok (some i) S1)
    | _ => none) sh_B q fun x _ H1 ρ S1 F1 m1 d sl ok1 rx A => ?_
  match d, rx, A with
  | .int i, rx, A =>
    cases rx
    exact ⟨i, rfl, A (some i) H1 F1 m1 (Stp.refl ..) ok1 rfl⟩
  | .non, rx, A => exact A.elim
  | .bl _, rx, A => exact A.elim
  | .str _, rx, A => exact A.elim
  | .tup _, rx, A => exact A.elim
  | .lst _, rx, A => exact A.elim
  | .fls _, rx, A => exact A.elim
  | .emp, rx, A => exact A.elim
  | .ref _, rx, A => exact A.elim
theorem cut_rep {K : PySem.W.Frag} {F : Hp} {m : List Addr} {vs : List V} {ds : List D} {lo hi : Option Int} (r : RepL K F m vs ds) : RepL K F m (cutV vs lo hi) (cutD ds lo hi) := by
  unfold cutV cutD
  rw [r.length]
  exact (r.drop _).take _
theorem d_sl (ha : Pe X W e f) (hl : Po X W lo g) (hu : Po X W hi h) : Pe X W (.Subscript e (.Slice lo hi none p2) pos) (dSl f g h) := by
  refine pe_imp (pe_slice ((sl_list.or sl_tupA).or sl_str) ha.d hl hu) fun σ H Q q => ?_
  refine tg1 (R2 := RO X.K X.mg) (g := fun ρ a S1 => bnd (g ρ S1) fun lo S2 => bnd (h ρ S2) fun hi S3 => okv (slD S3 a lo hi) S3) sh_O q fun x _ H1 ρ S1 F1 m1 a sl ok1 rx A => ?_
  refine tgc (R2 := RO X.K X.mg) (g := fun ρ lo S2 => bnd (h ρ S2) fun hi S3 => okv (slD S3 a lo hi) S3) sh_O (fun F m => Rep X.K F m x a) (fun F m F' m' e p r => Rep.mono e p a r) ⟨ρ, S1, F1, m1, rx, sl, ok1, A⟩ fun l _ H2 ρ S2 F2 m2 lo rx sl ok2 rl A => ?_
  cases rl
  refine tgc (R2 := RO X.K X.mg) (g := fun ρ hi S3 => okv (slD S3 a l hi) S3) sh_O (fun F m => Rep X.K F m x a) (fun F m F' m' e p r => Rep.mono e p a r) ⟨ρ, S2, F2, m2, rx, sl, ok2, A⟩ fun u _ H3 ρ S3 F3 m3 hi rx sl ok3 ru A => ?_
  cases ru
  cases e : slD S3 a l u with
  | none => rw [e] at A; exact A.elim
  | some r =>
    rw [e] at A
    have q : ∀ v H' F' m', Stp H3 F3 m3 H' F' m' → SOk X.K X.mg H' F' m' S3 → OutR X.K X.mg H3 H' F' m' v r → Q v H' := A
    unfold slD at e
    split at e
    · cases e
      obtain ⟨p, xs, rfl, h1, h2⟩ := viewT_ok ok3 rx rfl
      refine .inl (.inr ⟨p, xs, rfl, h1, fun hw => ?_, fun _ => rof_tup ok3 q (cut_rep h2)⟩)
      refine rof_val ok3 q ?_
      have hc : ∀ ds, RepL X.K F3 m3 xs ds → cutD ds l u = ds := fun ds hr => by
        unfold cutD
        have e1 := hr.length
        rw [← e1, hw.1, hw.2, List.drop_zero, Nat.sub_zero, e1, List.take_length]
      rw [hc _ h2]
      exact rx
    · split at e
      · rename_i hz
        cases e
        cases rx
        exact .inr ⟨_, rfl, hz, rof_val ok3 q (.str _)⟩
      · cases e
    · split at e
      · rename_i ds e1
        cases e
        obtain ⟨p, xs, rfl, h1, h2⟩ := view_ok ok3 rx e1
        exact .inl (.inl ⟨p, xs, rfl, h1, rof_lst ok3 q (cut_rep h2)⟩)
      · cases e
end

/-! ### calls of built-ins -/
abbrev OC := Sto → List D → Option Out
def rCl (K : PySem.W.Frag) (mg : Str → Option Value) (o : OC) : List V → Hp → VK → Prop := fun xs H Q => ∃ S F m ds u, SOk K mg H F m S ∧ RepL K F m xs ds ∧ o S ds = some u ∧
  ∀ v H' F' m', Stp H F m H' F' m' → SOk K mg H' F' m' S → OutR K mg H H' F' m' v u → Q v H'
def dCl (o : OC) (g : Dn (List D)) : Dn Out := fun ρ S => bnd (g ρ S) fun ds S1 => okv (o S1 ds) S1
theorem tg_cl {K : PySem.W.Frag} {mg : Str → Option Value} {W : WX'} {o : OC} {g : Dn (List D)} {σ : L2.St} {H : Hp} {Q : VK} (h : Tg K mg (RO K mg) W (dCl o g) σ H Q) : Tg K mg (RL K) W g σ H fun xs H1 => rCl K mg o xs H1 Q := by
  refine tg1 (R2 := RO K mg) (g := fun _ ds S1 => okv (o S1 ds) S1) sh_O h fun xs _ H1 ρ S1 F1 m1 ds sl ok1 rx A => ?_
  cases e : o S1 ds with
  | none => rw [e] at A; exact A.elim
  | some u =>
    rw [e] at A
    exact ⟨S1, F1, m1, ds, u, ok1, rx, e, fun v H' F' m' st k r => A v H' F' m' st k r⟩
theorem CallR.imp {X : Cx} {f : Value} {r r' : List V → Hp → VK → Prop} (h : CallR X f r) (k : ∀ xs H Q, r' xs H Q → r xs H Q) : CallR X f r' :=
  fun pins s σ H xs us Q I rx q => h pins s σ H xs us Q I rx (k xs H Q q)
section
variable {X : Cx} {W : WX'} {x : Str} {e : Expr} {es : List Expr} {g : Dn (List D)} {o : OC} {p pos : Pos} {id T : String}
theorem d_callB (hc : CallR X (.builtin id) (rCl X.K X.mg o)) (hg : Gl X x) (hm : X.mg x = none) (hv : bootBuiltins x = some (.builtin id)) (ha : Pa X W (e :: es) g)
    (hn : x ≠ "__name__" := by decide) (hd : (x == ("__debug__" : Str)) = false := by decide) (hs : starEach (e :: es) X.env = (false, eval e X.env) :: starEach es X.env := by rfl)
    (hpl : (backTo pos (starEach es X.env)).any (·.1) = false := by rfl) : Pe X W (.Call (.Name x p) (e :: es) [] pos) (dCl o g) :=
  pe_imp (pe_callB hc hg hm hv ha hn hd hs hpl) fun _ _ _ q => tg_cl q
theorem d_callTy (hc : CallR X (.type T) (rCl X.K X.mg o)) (hg : Gl X x) (hm : X.mg x = none) (hv : bootBuiltins x = some (.type T)) (ha : Pa X W (e :: es) g)
    (hn : x ≠ "__name__" := by decide) (hd : (x == ("__debug__" : Str)) = false := by decide) (hs : starEach (e :: es) X.env = (false, eval e X.env) :: starEach es X.env := by rfl)
    (hpl : (backTo pos (starEach es X.env)).any (·.1) = false := by rfl) : Pe X W (.Call (.Name x p) (e :: es) [] pos) (dCl o g) :=
  pe_imp (pe_callTy hc hg hm hv ha hn hd hs hpl) fun _ _ _ q => tg_cl q
end

def strsD : List D → Option (List Str)
  | [] => some []
  | .str s :: r => (strsD r).map (s :: ·)
  | _ :: _ => none
def intsD : List D → Option (List Int)
  | [] => some []
  | .int s :: r => (intsD r).map (s :: ·)
  | _ :: _ => none
def blsD : List D → Option (List Bool)
  | [] => some []
  | .bl s :: r => (blsD r).map (s :: ·)
  | _ :: _ => none
section
variable {K : PySem.W.Frag} {F : Hp} {m : List Addr}
theorem strsD_ok : ∀ {ds : List D} {vs : List V} {ss : List Str}, RepL K F m vs ds → strsD ds = some ss → vs = ss.map V.str
  | [], _, _, h, e => by cases h; cases e; rfl
  | d :: ds, _, ss, h, e => by
    cases h with
    | cons h1 h2 =>
      cases h1 <;> first | cases e | skip
      cases e1 : strsD ds with
      | none => simp [strsD, e1] at e
      | some r =>
        simp [strsD, e1] at e
        subst e
        rw [strsD_ok h2 e1, List.map_cons]
theorem intsD_ok : ∀ {ds : List D} {vs : List V} {ss : List Int}, RepL K F m vs ds → intsD ds = some ss → vs = ss.map V.int
  | [], _, _, h, e => by cases h; cases e; rfl
  | d :: ds, _, ss, h, e => by
    cases h with
    | cons h1 h2 =>
      cases h1 <;> first | cases e | skip
      cases e1 : intsD ds with
      | none => simp [intsD, e1] at e
      | some r =>
        simp [intsD, e1] at e
        subst e
        rw [intsD_ok h2 e1, List.map_cons]
theorem blsD_ok : ∀ {ds : List D} {vs : List V} {ss : List Bool}, RepL K F m vs ds → blsD ds = some ss → vs = ss.map V.bl
  | [], _, _, h, e => by cases h; cases e; rfl
  | d :: ds, _, ss, h, e => by
    cases h with
    | cons h1 h2 =>
      cases h1 <;> first | cases e | skip
      cases e1 : blsD ds with
      | none => simp [blsD, e1] at e
      | some r =>
        simp [blsD, e1] at e
        subst e
        rw [blsD_ok h2 e1, List.map_cons]
end
def maxI : Int → List Int → Int
  | m, [] => m
  | m, n :: r => maxI (if n > m then n else m) r
theorem maxI_le : ∀ (r : List Int) (m : Int), m ≤ maxI m r ∧ ∀ y ∈ r, y ≤ maxI m r
  | [], m => ⟨Int.le_refl m, fun y hy => absurd hy (by simp)⟩
  | n :: r, m => by
    obtain ⟨h1, h2⟩ := maxI_le r (if n > m then n else m)
    have hm : m ≤ (if n > m then n else m) := by split <;> omega
    have hn : n ≤ (if n > m then n else m) := by split <;> omega
    refine ⟨Int.le_trans hm h1, fun y hy => ?_⟩
    rcases List.mem_cons.mp hy with rfl | hy
    · exact Int.le_trans hn h1
    · exact h2 y hy
theorem maxI_mem : ∀ (r : List Int) (m : Int), maxI m r = m ∨ maxI m r ∈ r
  | [], m => .inl rfl
  | n :: r, m => by
    rcases maxI_mem r (if n > m then n else m) with h | h
    · show maxI (if n > m then n else m) r = m ∨ maxI (if n > m then n else m) r ∈ n :: r
      rw [h]
      split
      · exact .inr List.mem_cons_self
      · exact .inl rfl
    · exact .inr (List.mem_cons_of_mem _ h)
/-- len -/
def lenD : OC := fun S ds => match ds with
  | [.str s] => if s.length ≤ sizeLine then some (.val (.int s.length)) else none
  | [d] => match viewS S d with
    | some es => some (.val (.int es.length))
    | none => none
  | _ => none
def allD : OC := fun S ds => match ds with
  | [d] => match (view S d).bind blsD with
    | some bs => some (.val (.bl (bs.all id)))
    | none => none
  | _ => none
def anyD : OC := fun S ds => match ds with
  | [d] => match (view S d).bind blsD with
    | some bs => some (.val (.bl (bs.any id)))
    | none => none
  | _ => none
def sumD : OC := fun S ds => match ds with
  | [d] => match (view S d).bind intsD with
    | some ns => some (.val (.int ns.sum))
    | none => none
  | _ => none
def maxD : OC := fun S ds => match ds with
  | [.int i, .int j] => some (.val (.int (if j > i then j else i)))
  | [d] => match (view S d).bind intsD with
    | some (n :: ns) => some (.val (.int (maxI n ns)))
    | _ => none
  | _ => none
def minD : OC := fun _ ds => match ds with
  | [.int i, .int j] => some (.val (.int (if j < i then j else i)))
  | _ => none
def absD : OC := fun _ ds => match ds with
  | [.int i] => some (.val (.int (if i < 0 then -i else i)))
  | _ => none
def intD : OC := fun _ ds => match ds with
  | [.int i] => some (.val (.int i))
  | [.bl k] => some (.val (.int (if k then 1 else 0)))
  | [.str s] => match PySem.intText? s with
    | some n => if s.length ≤ 640 then some (.val (.int n)) else none
    | none => none
  | _ => none
def strD : OC := fun _ ds => match ds with
  | [.int i] => if i.natAbs.log2 < 1920 then some (.val (.str (toString i))) else none
  | _ => none
def listD : OC := fun S ds => match ds with
  | [d] => match viewS S d with
    | some es => some (.own (.lst es))
    | none => none
  | _ => none
def tupleD : OC := fun S ds => match ds with
  | [.tup es] => some (.val (.tup es))
  | [d] => match view S d with
    | some es => some (.val (.tup es))
    | none => none
  | _ => none
def reprD : OC := fun S ds => match ds with
  | [d] => if d.flat = false ∧ (topd S d).plain = true ∧ (topd S d).py.showable = true ∧ (topd S d).py.hasDict = false ∧ (topd S d).py.depth ≤ 60 ∧ (topd S d).py.shown.length ≤ sizeLine then some (.val (.str (topd S d).py.shown)) else
    match d with
    | .int i => if i.natAbs.log2 < 1920 then some (.val (.str (toString i))) else none
    | _ => none
  | _ => none
section
variable {X : Cx}
theorem cl_len : CallR X (.builtin "len") (rCl X.K X.mg lenD) := by
  refine CallR.imp (CallR.or call_len_seq call_len_str) fun xs H Q h => ?_
  obtain ⟨S, F, m, ds, u, ok, r, e, q⟩ := h
  unfold lenD at e
  split at e
  · split at e
    · rename_i hs
      cases e
      cases r with
      | cons r1 r2 =>
        cases r1; cases r2
        exact .inr ⟨_, rfl, hs, rof_val ok q (.int _)⟩
    · cases e
  · split at e
    · rename_i es e1
      cases e
      cases r with
      | cons r1 r2 =>
        cases r2
        obtain ⟨p, xs, rfl, h1, h2⟩ := viewS_ok ok r1 e1
        refine .inl ⟨p, xs, rfl, h1, ?_⟩
        rw [h2.length]
        exact rof_val ok q (.int _)
    · cases e
  · cases e
theorem view_bind {K : PySem.W.Frag} {mg : Str → Option Value} {H F : Hp} {m : List Addr} {S : Sto} {α : Type} {k : List D → Option α} {d : D} {a : α} (h : (view S d).bind k = some a) : ∃ es, view S d = some es ∧ k es = some a := by
  cases e : view S d with
  | none => rw [e] at h; cases h
  | some es => rw [e] at h; exact ⟨es, rfl, h⟩
theorem cl_all (hc : X.calm = true) : CallR X (.builtin "all") (rCl X.K X.mg allD) := by
  refine CallR.imp (cr_all hc) fun xs H Q h => ?_
  obtain ⟨S, F, m, ds, u, ok, r, e, q⟩ := h
  unfold allD at e
  split at e
  · split at e
    · rename_i bs e1
      cases e
      cases r with
      | cons r1 r2 =>
        cases r2
        obtain ⟨es, e2, e3⟩ := view_bind (K := X.K) (mg := X.mg) (H := H) (F := F) (m := m) e1
        obtain ⟨p, xs, rfl, h1, h2⟩ := view_ok ok r1 e2
        have := blsD_ok h2 e3
        subst this
        exact ⟨p, bs, rfl, h1, rof_val ok q (.bl _)⟩
    · cases e
  · cases e
theorem cl_any (hc : X.calm = true) : CallR X (.builtin "any") (rCl X.K X.mg anyD) := by
  refine CallR.imp (cr_any hc) fun xs H Q h => ?_
  obtain ⟨S, F, m, ds, u, ok, r, e, q⟩ := h
  unfold anyD at e
  split at e
  · split at e
    · rename_i bs e1
      cases e
      cases r with
      | cons r1 r2 =>
        cases r2
        obtain ⟨es, e2, e3⟩ := view_bind (K := X.K) (mg := X.mg) (H := H) (F := F) (m := m) e1
        obtain ⟨p, xs, rfl, h1, h2⟩ := view_ok ok r1 e2
        have := blsD_ok h2 e3
        subst this
        exact ⟨p, bs, rfl, h1, rof_val ok q (.bl _)⟩
    · cases e
  · cases e
theorem cl_sum (hc : X.calm = true) : CallR X (.builtin "sum") (rCl X.K X.mg sumD) := by
  refine CallR.imp (cr_sum hc) fun xs H Q h => ?_
  obtain ⟨S, F, m, ds, u, ok, r, e, q⟩ := h
  unfold sumD at e
  split at e
  · split at e
    · rename_i bs e1
      cases e
      cases r with
      | cons r1 r2 =>
        cases r2
        obtain ⟨es, e2, e3⟩ := view_bind (K := X.K) (mg := X.mg) (H := H) (F := F) (m := m) e1
        obtain ⟨p, xs, rfl, h1, h2⟩ := view_ok ok r1 e2
        have := intsD_ok h2 e3
        subst this
        exact ⟨p, bs, rfl, h1, rof_val ok q (.int _)⟩
    · cases e
  · cases e
theorem cl_max (hc : X.calm = true) : CallR X (.builtin "max") (rCl X.K X.mg maxD) := by
  refine CallR.imp (CallR.or (cr_max hc) (call_max2 hc)) fun xs H Q h => ?_
  obtain ⟨S, F, m, ds, u, ok, r, e, q⟩ := h
  unfold maxD at e
  split at e
  · cases e
    cases r with
    | cons r1 r2 =>
      cases r2 with
      | cons r3 r4 =>
        cases r1; cases r3; cases r4
        exact .inr ⟨_, _, rfl, rof_val ok q (.int _)⟩
  · split at e
    · rename_i n ns e1
      cases e
      cases r with
      | cons r1 r2 =>
        cases r2
        obtain ⟨es, e2, e3⟩ := view_bind (K := X.K) (mg := X.mg) (H := H) (F := F) (m := m) e1
        obtain ⟨p, xs, rfl, h1, h2⟩ := view_ok ok r1 e2
        have := intsD_ok h2 e3
        subst this
        refine .inl ⟨p, n :: ns, rfl, h1, by simp, fun k hk hle => ?_⟩
        have e4 : k = maxI n ns := by
          obtain ⟨h3, h4⟩ := maxI_le ns n
          have h5 : k ≤ maxI n ns := by
            rcases List.mem_cons.mp hk with rfl | hk
            · exact h3
            · exact h4 k hk
          have h6 : maxI n ns ≤ k := by
            rcases maxI_mem ns n with h | h
            · rw [h]; exact hle n List.mem_cons_self
            · exact hle _ (List.mem_cons_of_mem _ h)
          omega
        subst e4
        exact rof_val ok q (.int _)
    · cases e
  · cases e
theorem cl_min (hc : X.calm = true) : CallR X (.builtin "min") (rCl X.K X.mg minD) := by
  refine CallR.imp (call_min2 hc) fun xs H Q h => ?_
  obtain ⟨S, F, m, ds, u, ok, r, e, q⟩ := h
  unfold minD at e
  split at e
  · cases e
    cases r with
    | cons r1 r2 =>
      cases r2 with
      | cons r3 r4 =>
        cases r1; cases r3; cases r4
        exact ⟨_, _, rfl, rof_val ok q (.int _)⟩
  · cases e
theorem cl_abs : CallR X (.builtin "abs") (rCl X.K X.mg absD) := by
  refine CallR.imp call_abs fun xs H Q h => ?_
  obtain ⟨S, F, m, ds, u, ok, r, e, q⟩ := h
  unfold absD at e
  split at e
  · cases e
    cases r with
    | cons r1 r2 =>
      cases r1; cases r2
      exact ⟨_, rfl, rof_val ok q (.int _)⟩
  · cases e
theorem cl_int : CallR X (.type "int") (rCl X.K X.mg intD) := by
  refine CallR.imp (CallR.or call_int1 call_int_str) fun xs H Q h => ?_
  obtain ⟨S, F, m, ds, u, ok, r, e, q⟩ := h
  unfold intD at e
  split at e
  · cases e
    cases r with
    | cons r1 r2 =>
      cases r1; cases r2
      exact .inl (.inl ⟨_, rfl, rof_val ok q (.int _)⟩)
  · cases e
    cases r with
    | cons r1 r2 =>
      cases r1; cases r2
      exact .inl (.inr ⟨_, rfl, rof_val ok q (.int _)⟩)
  · split at e
    · rename_i n e1
      split at e
      · rename_i hl
        cases e
        cases r with
        | cons r1 r2 =>
          cases r1; cases r2
          exact .inr ⟨_, n, rfl, e1, hl, rof_val ok q (.int _)⟩
      · cases e
    · cases e
  · cases e
theorem cl_str : CallR X (.type "str") (rCl X.K X.mg strD) := by
  refine CallR.imp call_str_int fun xs H Q h => ?_
  obtain ⟨S, F, m, ds, u, ok, r, e, q⟩ := h
  unfold strD at e
  split at e
  · split at e
    · rename_i hl
      cases e
      cases r with
      | cons r1 r2 =>
        cases r1; cases r2
        exact ⟨_, rfl, hl, rof_val ok q (.str _)⟩
    · cases e
  · cases e
theorem cl_list : CallR X (.type "list") (rCl X.K X.mg listD) := by
  refine CallR.imp call_list_of fun xs H Q h => ?_
  obtain ⟨S, F, m, ds, u, ok, r, e, q⟩ := h
  unfold listD at e
  split at e
  · split at e
    · rename_i es e1
      cases e
      cases r with
      | cons r1 r2 =>
        cases r2
        obtain ⟨p, xs, rfl, h1, h2⟩ := viewS_ok ok r1 e1
        exact ⟨p, xs, rfl, h1, rof_lst ok q h2⟩
    · cases e
  · cases e
theorem cl_tuple : CallR X (.type "tuple") (rCl X.K X.mg tupleD) := by
  refine CallR.imp call_tuple_of fun xs H Q h => ?_
  obtain ⟨S, F, m, ds, u, ok, r, e, q⟩ := h
  unfold tupleD at e
  split at e
  · cases e
    cases r with
    | cons r1 r2 =>
      cases r2
      obtain ⟨p, xs, rfl, h1, h2⟩ := viewT_ok ok r1 rfl
      exact ⟨p, xs, rfl, .inr ⟨h1, rof_val ok q r1⟩⟩
  · split at e
    · rename_i es e1
      cases e
      cases r with
      | cons r1 r2 =>
        cases r2
        obtain ⟨p, xs, rfl, h1, h2⟩ := view_ok ok r1 e1
        exact ⟨p, xs, rfl, .inl ⟨h1, rof_tup ok q h2⟩⟩
    · cases e
  · cases e
theorem cl_repr (hg : X.A.guards = some []) (hu : X.A.units + 64 < cLine) : CallR X (.builtin "repr") (rCl X.K X.mg reprD) := by
  intro pins s σ H xs us Q I rx ⟨S, F, m, ds, u, ok, r, e, q⟩
  unfold reprD at e
  split at e
  · cases r with
    | cons r1 r2 =>
      cases r2
      obtain ⟨u1, rfl, ru⟩ := vals1 rx
      split at e
      · rename_i hc
        cases e
        obtain ⟨h0, h1, h2, h3, h4, h5⟩ := hc
        have hq := rof_val ok q (.str _)
        obtain ⟨F', s1, r3⟩ := topd_rep ok r1
        obtain ⟨as, q1⟩ := rep_reads I s1 _ _ _ r3 h1 ru
        obtain ⟨a, rfl⟩ : ∃ a, u1 = Value.ref a := by
          cases r1 <;> first | exact ⟨_, ru⟩ | cases h0
        exact PySem.repr_of_reads' q1 h2 (fun z => by rw [h3] at z; cases z) hg (by omega) (fun _ _ z => z) (fun h' t tk hk => ⟨.str _, H, I.kept hk, ⟨t, rfl⟩, hq⟩) h5
      · split at e
        · split at e
          · rename_i hl
            cases e
            cases r1
            exact SkE.call_repr_int pins s σ H _ _ Q I rx ⟨_, rfl, hl, rof_val ok q (.str _)⟩
          · cases e
        · cases e
  · cases e
end
end Sf
/-! Sf4: methods, isinstance, defs and their calls. -/
namespace Sf
open L2 PySem PySem.Spec PyProof.Rows

/-! ### isinstance -/
def kindD (S : Sto) : D → Option String
  | .non => some "NoneType"
  | .bl _ => some "bool"
  | .int _ => some "int"
  | .str _ => some "str"
  | .tup _ => some "tuple"
  | .lst _ => some "list"
  | .fls _ => none
  | .emp => some "dict"
  | .ref n => match S[n]? with
    | some (.lst _) => some "list"
    | some (.dct _) => some "dict"
    | some (.dctT _) => some "dict"
    | _ => none
theorem kind_ok {K : PySem.W.Frag} {mg : Str → Option Value} {H F : Hp} {m : List Addr} {S : Sto} (ok : SOk K mg H F m S) {v : V} {d : D} {T : String} (r : Rep K F m v d) (h : kindD S d = some T) : TyX K H v (.type T) := by
  cases r with
  | non => cases h; exact .base .non
  | bl b => cases h; exact .base (.bl b)
  | int i => cases h; exact .base (.int i)
  | str s => cases h; exact .base (.str s)
  | tup h1 h2 =>
    cases h
    rcases same_t ok.sub h1 with (h3 | ⟨o, h3⟩) | ⟨o, its, n, h3, h4, _⟩
    · exact .base (.tup h3)
    · exact .fTuple h3
    · exact .kTuple h3 h4
  | lst h1 h2 =>
    cases h
    exact .base (.lst (ok.sub _ _ h1))
  | fls h1 h2 => cases h
  | emp h1 =>
    cases h
    exact .base (.dK (ok.sub _ _ h1))
  | @ref a n h1 =>
    simp only [kindD] at h
    cases e : S[n]? with
    | none => rw [e] at h; cases h
    | some o =>
      rw [e] at h
      cases o with
      | lst es =>
        cases h
        obtain ⟨vs, h2, h3⟩ := ok.at h1 e
        exact .base (.lst h2)
      | dct es =>
        cases h
        obtain ⟨vs, h2, h3⟩ := ok.at h1 e
        exact .base (.dK h2)
      | dctT es =>
        cases h
        obtain ⟨vs, h2, h3⟩ := ok.at h1 e
        exact .base (.dT h2)
      | ins c fs => cases h
      | exc c fs => cases h
def isiB (T : String) (k : String) : Bool := k == T || (k == "bool" && T == "int")
def dIsi (T : String) (f : Dn Out) : Dn Out := fun ρ S => bnd (stl f ρ S) fun d S1 => match kindD S1 d with
  | some k => some (.ok (.val (.bl (isiB T k))) S1)
  | none => none
/-- the kinds that stand, against T -/
def isiAll (T : String) : Bool := ["NoneType", "bool", "int", "str", "tuple", "list", "dict"].all fun k => kitB k T == some (isiB T k)
theorem kind_mem {S : Sto} {d : D} {k : String} (h : kindD S d = some k) : k ∈ ["NoneType", "bool", "int", "str", "tuple", "list", "dict"] := by
  cases d <;> simp only [kindD] at h <;> first | (cases h; simp; done) | (cases h; done) | skip
  split at h <;> first | (cases h; simp; done) | cases h
theorem d_isi {X : Cx} {W : WX'} {e : Expr} {f : Dn Out} {T : String} {p p2 pos : Pos} (hT : isiAll T = true) (he : Pe X W e f) (hg : Gl X "isinstance") (hm : X.mg "isinstance" = none) (hg2 : Gl X (Str.ofString T)) (hm2 : X.mg (Str.ofString T) = none)
    (hv : bootBuiltins (Str.ofString T) = some (.type T)) (hv2 : bootBuiltins "isinstance" = some (.builtin "isinstance")) (hn : Str.ofString T ≠ "__name__" := by decide) (hd : (Str.ofString T == ("__debug__" : Str)) = false := by decide)
    (hs : starEach [e, .Name (Str.ofString T) p2] X.env = (false, eval e X.env) :: starEach [.Name (Str.ofString T) p2] X.env := by rfl)
    (hs2 : starEach [.Name (Str.ofString T) p2] X.env = (false, eval (.Name (Str.ofString T) p2) X.env) :: starEach [] X.env := by rfl)
    (hpl : (backTo pos (starEach [.Name (Str.ofString T) p2] X.env)).any (·.1) = false := by rfl) :
    Pe X W (.Call (.Name "isinstance" p) [e, .Name (Str.ofString T) p2] [] pos) (dIsi T f) := by
  refine pe_imp (pe_callB call_isi hg hm hv2 (pa_cons he.d (pa_cons (pe_bltn (v := .ty T) hg2 hm2 hv rfl hn hd) pa_nil hs2) hs) (by decide) (by decide) hs hpl) fun σ H Q q => ?_
  refine tg1 (R2 := RO X.K X.mg) (g := fun _ d S1 => match kindD S1 d with
    | some k => some (.ok (.val (.bl (isiB T k))) S1)
    | none => none) sh_O q fun x _ H1 ρ S1 F1 m1 d sl ok1 rx A => ?_
  match e : kindD S1 d, A with
  | none, A => exact A.elim
  | some k, A =>
    have hk := List.all_eq_true.mp hT k (kind_mem e)
    exact ⟨x, .ty T, .type k, .type T, isiB T k, rfl, .ty T, kind_ok ok1 rx e, kit_ty (eq_of_beq hk), A _ H1 F1 m1 (Stp.refl ..) ok1 (.bl _)⟩

/-! ### methods of built-in types -/
abbrev OM := Sto → D → List D → Option (Out × Sto)
def rMt (K : PySem.W.Frag) (mg : Str → Option Value) (o : OM) : V → List V → Hp → VK → Prop := fun x xs H Q => ∃ S F m a ds u S', SOk K mg H F m S ∧ Rep K F m x a ∧ RepL K F m xs ds ∧ o S a ds = some (u, S') ∧
  ∀ v H' F' m', Stp H F m H' F' m' → SOk K mg H' F' m' S' → OutR K mg H H' F' m' v u → Q v H'
def tyB (T : String) (S : Sto) (d : D) : Bool := match d with
  | .str _ => T == "str"
  | .lst _ => T == "list"
  | .fls _ => T == "list"
  | .emp => T == "dict"
  | .ref n => match S[n]? with
    | some (.lst _) => T == "list"
    | some (.dct _) => T == "dict"
    | some (.dctT _) => T == "dict"
    | _ => false
  | _ => false
def okm (o : Option (Out × Sto)) : Option (Rz Out) := match o with
  | some (u, S) => some (.ok u S)
  | none => none
def dMt (T : String) (o : OM) (f : Dn Out) (g : Dn (List D)) : Dn Out := fun ρ S => bnd (stl f ρ S) fun a S1 => if tyB T S1 a = true then bnd (g ρ S1) fun ds S2 => okm (o S2 a ds) else none
theorem tyB_ok {K : PySem.W.Frag} {mg : Str → Option Value} {H F : Hp} {m : List Addr} {S : Sto} (ok : SOk K mg H F m S) {T : String} {v : V} {d : D} (r : Rep K F m v d) (h : tyB T S d = true) : tyV K T v H := by
  cases r with
  | str s => exact eq_of_beq h
  | lst h1 h2 => exact .inl ⟨eq_of_beq h, _, SqL.of (ok.sub _ _ h1)⟩
  | fls h1 h2 => exact .inl ⟨eq_of_beq h, _, same_l ok.sub h1⟩
  | emp h1 => exact .inr (.inr (.inl ⟨eq_of_beq h, .inl ⟨_, ok.sub _ _ h1⟩⟩))
  | @ref a n h1 =>
    simp only [tyB] at h
    cases e : S[n]? with
    | none => rw [e] at h; cases h
    | some o =>
      rw [e] at h
      cases o with
      | lst es =>
        obtain ⟨vs, h2, h3⟩ := ok.at h1 e
        exact .inl ⟨eq_of_beq h, _, SqL.of h2⟩
      | dct es =>
        obtain ⟨vs, h2, h3⟩ := ok.at h1 e
        exact .inr (.inr (.inl ⟨eq_of_beq h, .inl ⟨_, h2⟩⟩))
      | dctT es =>
        obtain ⟨vs, h2, h3⟩ := ok.at h1 e
        exact .inr (.inr (.inl ⟨eq_of_beq h, .inr ⟨_, h2⟩⟩))
      | ins c fs => cases h
      | exc c fs => cases h
  | _ => cases h
section
variable {X : Cx} {W : WX'} {a e : Expr} {es : List Expr} {f : Dn Out} {g : Dn (List D)} {o : OM} {name : Str} {apos cpos : Pos} {T id : String}
theorem tg_mt {K : PySem.W.Frag} {mg : Str → Option Value} {σ : L2.St} {H : Hp} {Q : VK} (h : Tg K mg (RO K mg) W (dMt T o f g) σ H Q) :
    tBM K T (rMt K mg o) (Tg K mg (RD K) W (stl f)) (Tg K mg (RL K) W g) σ H Q := by
  refine tg1 (R2 := RO K mg) (g := fun ρ a S1 => if tyB T S1 a = true then bnd (g ρ S1) fun ds S2 => okm (o S2 a ds) else none) sh_O h fun x _ H1 ρ S1 F1 m1 a sl ok1 rx A => ?_
  by_cases ht : tyB T S1 a = true
  · rw [if_pos ht] at A
    refine ⟨tyB_ok ok1 rx ht, ?_⟩
    refine tgc (R2 := RO K mg) (g := fun _ ds S2 => okm (o S2 a ds)) sh_O (fun F m => Rep K F m x a) (fun F m F' m' e p r => Rep.mono e p a r) ⟨ρ, S1, F1, m1, rx, sl, ok1, A⟩ fun xs _ H2 ρ S2 F2 m2 ds rx sl ok2 rxs A => ?_
    cases e : o S2 a ds with
    | none => rw [e] at A; exact A.elim
    | some p =>
      obtain ⟨u, S'⟩ := p
      rw [e] at A
      exact ⟨S2, F2, m2, a, ds, u, S', ok2, rx, rxs, e, fun v H' F' m' st k r => A v H' F' m' st k r⟩
  · rw [if_neg ht] at A
    exact A.elim
theorem d_mt (pa : PlainAttrs T) (slot : Slot T name id) (hty : typeOf (.builtin id) = pure (.type "method_descriptor")) (hm : MtR X id (rMt X.K X.mg o)) (ho : Pe X W a f) (ha : Pa X W (e :: es) g)
    (hbase : attributeBase a name X.env (eval a X.env) = eval a X.env := by rfl)
    (hfew : ((backTo cpos (starEach (e :: es) X.env)).all (fun x => !x.1) && (backToKw cpos (keywordEach [] X.env)).all (fun x => x.1.isSome)
      && decide ((e :: es).length + ([] : List Keyword).length + (if ([] : List Keyword).isEmpty then 0 else 1) < 30)) = true := by rfl)
    (hline : (apos.endLine == cpos.line) = true := by rfl) (hs : starEach (e :: es) X.env = (false, eval e X.env) :: starEach es X.env := by rfl) (hplain : (backTo cpos (starEach es X.env)).any (·.1) = false := by rfl) :
    Pe X W (.Call (.Attribute a name apos) (e :: es) [] cpos) (dMt T o f g) :=
  pe_imp (pe_bm pa slot hty hm ho.d ha hbase hfew hline hs hplain) fun _ _ _ q => tg_mt q
theorem d_mt0 (pa : PlainAttrs T) (slot : Slot T name id) (hty : typeOf (.builtin id) = pure (.type "method_descriptor")) (hm : MtR X id (rMt X.K X.mg o)) (ho : Pe X W a f)
    (hbase : attributeBase a name X.env (eval a X.env) = eval a X.env := by rfl) (hline : (apos.endLine == cpos.line) = true := by rfl) :
    Pe X W (.Call (.Attribute a name apos) [] [] cpos) (dMt T o f aNil) := by
  refine pe_imp (pe_bm0 pa slot hty hm ho.d hbase hline) fun σ H Q q => ?_
  have h := tg_mt q
  refine tg_imp h fun x H1 ⟨h1, ρ, S, F, m, sl, ok, A⟩ => ⟨h1, ?_⟩
  exact A [] H1 F m (Stp.refl ..) ok .nil
theorem MtR.imp {X : Cx} {id : String} {r r' : V → List V → Hp → VK → Prop} (h : MtR X id r) (k : ∀ x xs H Q, r' x xs H Q → r x xs H Q) : MtR X id r' :=
  fun pins s σ H x xs v us Q I rx rs q => h pins s σ H x xs v us Q I rx rs (k x xs H Q q)

/-- the object at place n changes -/
theorem SOk.put {K : PySem.W.Frag} {mg : Str → Option Value} {H F : Hp} {m : List Addr} {S : Sto} (ok : SOk K mg H F m S) {n : Nat} {p : Addr} {u : HO} {ob : Ob} (hn : m[n]? = some p) (hob : ObR K mg (upd H p u) F m p ob) :
    SOk K mg (upd H p u) F m (S.set n ob) ∧ Stp H F m (upd H p u) F m := by
  have hp : p ∈ m := List.mem_of_getElem? hn
  have keep : ∀ a o, a ≠ p → H a = some o → upd H p u a = some o := fun a o h q => by rw [upd_ne h]; exact q
  refine ⟨⟨fun a o h => keep a o (fun z => by rw [z, ok.off p hp] at h; cases h) (ok.sub a o h), by rw [ok.len, List.length_set], ok.nd, ok.off, fun k a o h1 h2 => ?_⟩, Same.refl F, (Stp.refl H F m).pr, fun _ _ h => .inl h, fun a o h hm => keep a o (fun z => hm (z ▸ hp)) h, fun a h => ?_⟩
  · by_cases hk : n = k
    · subst hk
      rw [hn] at h1
      cases h1
      have hl : n < S.length := by
        have := (List.getElem?_eq_some_iff.mp hn).1
        rw [← ok.len]; exact this
      rw [List.getElem?_set_self hl] at h2
      cases h2
      exact hob
    · rw [List.getElem?_set_ne hk] at h2
      have hne : a ≠ p := fun z => by
        subst z
        obtain ⟨h3, h4⟩ := List.getElem?_eq_some_iff.mp hn
        obtain ⟨h5, h6⟩ := List.getElem?_eq_some_iff.mp h1
        exact hk ((List.getElem_inj (h₀ := h3) (h₁ := h5) ok.nd).mp (h4.trans h6.symm))
      exact ObR.mono (Same.refl F) (Pre.refl m) (fun o q => keep a o hne q) o (ok.obj k a o h1 h2)
  · by_cases ha : a = p
    · rw [ha, upd_same] at h
      cases h
    · rw [upd_ne ha] at h
      exact h

def appD : OM := fun S a ds => match a, ds with
  | .ref n, [d] => match S[n]? with
    | some (.lst es) => if es.length < sizeLine then some (.val .non, S.set n (.lst (es ++ [d]))) else none
    | _ => none
  | _, _ => none
theorem mt_appD : MtR X "list.append" (rMt X.K X.mg appD) := by
  refine MtR.imp mt_append fun x xs H Q h => ?_
  obtain ⟨S, F, m, a, ds, u, S', ok, ra, rds, e, q⟩ := h
  unfold appD at e
  split at e
  · rename_i n d
    split at e
    · rename_i es e1
      split at e
      · rename_i hl
        cases e
        cases ra with
        | @ref p n h1 =>
          cases rds with
          | cons r1 r2 =>
            cases r2
            obtain ⟨vs, h2, h3⟩ := ok.at h1 e1
            refine ⟨_, _, _, rfl, rfl, h2, by rw [h3.length]; exact hl, ?_⟩
            obtain ⟨k, st⟩ := ok.put (u := .lst (vs ++ [_])) (ob := .lst (es ++ [d])) h1 ⟨_, upd_same, h3.append (.cons r1 .nil)⟩
            exact q _ _ _ _ st k .non
      · cases e
    · cases e
  · cases e
def extD : OM := fun S a ds => match a, ds with
  | .ref n, [d] => match S[n]?, viewC S d with
    | some (.lst es), some fs => if es.length + fs.length ≤ sizeLine then some (.val .non, S.set n (.lst (es ++ fs))) else none
    | _, _ => none
  | _, _ => none
theorem mt_extD : MtR X "list.extend" (rMt X.K X.mg extD) := by
  refine MtR.imp mt_extend fun x xs H Q h => ?_
  obtain ⟨S, F, m, a, ds, u, S', ok, ra, rds, e, q⟩ := h
  unfold extD at e
  split at e
  · rename_i n d
    split at e
    · rename_i es fs e1 e2
      split at e
      · rename_i hl
        cases e
        cases ra with
        | @ref p n h1 =>
          cases rds with
          | cons r1 r2 =>
            cases r2
            obtain ⟨vs, h2, h3⟩ := ok.at h1 e1
            obtain ⟨p2, ws, rfl, h4, h5⟩ := viewC_ok ok r1 e2
            refine ⟨_, _, _, _, rfl, rfl, h2, h4, by rw [h3.length, h5.length]; exact hl, ?_⟩
            obtain ⟨k, st⟩ := ok.put (u := .lst (vs ++ ws)) (ob := .lst (es ++ fs)) h1 ⟨_, upd_same, h3.append h5⟩
            exact q _ _ _ _ st k .non
      · cases e
    · cases e
  · cases e
def popD : OM := fun S a ds => match a, ds with
  | .ref n, [] => match S[n]? with
    | some (.lst es) => match es[es.length - 1]? with
      | some d => some (.val d, S.set n (.lst es.dropLast))
      | none => none
    | _ => none
  | _, _ => none
theorem RepL.dropLast {K : PySem.W.Frag} {F : Hp} {m : List Addr} : ∀ {vs : List V} {ds : List D}, RepL K F m vs ds → RepL K F m vs.dropLast ds.dropLast
  | _, _, .nil => .nil
  | _, _, .cons a .nil => .nil
  | _, _, .cons a (.cons b t) => .cons a (RepL.dropLast (.cons b t))
theorem mt_popD : MtR X "list.pop" (rMt X.K X.mg popD) := by
  refine MtR.imp mt_pop fun x xs H Q h => ?_
  obtain ⟨S, F, m, a, ds, u, S', ok, ra, rds, e, q⟩ := h
  unfold popD at e
  split at e
  · rename_i n
    split at e
    · rename_i es e1
      split at e
      · rename_i d e2
        cases e
        cases ra with
        | @ref p n h1 =>
          cases rds
          obtain ⟨vs, h2, h3⟩ := ok.at h1 e1
          obtain ⟨v, h4, h5⟩ := h3.get e2
          refine ⟨_, vs, v, rfl, rfl, h2, by rw [h3.length]; exact h4, ?_⟩
          obtain ⟨k, st⟩ := ok.put (u := .lst vs.dropLast) (ob := .lst es.dropLast) h1 ⟨_, upd_same, h3.dropLast⟩
          exact q _ _ _ _ st k h5
      · cases e
    · cases e
  · cases e
/-- methods of texts -/
def splitD : OM := fun S a ds => match a, ds with
  | .str a, [.str b] => if (b.length == 0) = false ∧ a.length + 2 ≤ sizeLine then some (.own (.lst ((Txt.split a b).map .str)), S) else none
  | _, _ => none
theorem repl_strs {K : PySem.W.Frag} {F : Hp} {m : List Addr} : ∀ ss : List Str, RepL K F m (ss.map V.str) (ss.map D.str)
  | [] => .nil
  | s :: r => .cons (.str s) (repl_strs r)
theorem mt_splitD : MtR X "str.split" (rMt X.K X.mg splitD) := by
  refine MtR.imp mt_split fun x xs H Q h => ?_
  obtain ⟨S, F, m, a, ds, u, S', ok, ra, rds, e, q⟩ := h
  unfold splitD at e
  split at e
  · split at e
    · rename_i hl
      cases e
      cases ra
      cases rds with
      | cons r1 r2 =>
        cases r1; cases r2
        exact ⟨_, _, rfl, rfl, hl.1, hl.2, rof_lst ok q (repl_strs _)⟩
    · cases e
  · cases e
def joinD : OM := fun S a ds => match a, ds with
  | .str a, [d] => match (viewS S d).bind strsD with
    | some ys => if (ys.map (·.length)).sum + ys.length * a.length ≤ 16777216 then some (.val (.str (Txt.join a ys)), S) else none
    | none => none
  | _, _ => none
theorem mt_joinD : MtR X "str.join" (rMt X.K X.mg joinD) := by
  refine MtR.imp mt_join fun x xs H Q h => ?_
  obtain ⟨S, F, m, a, ds, u, S', ok, ra, rds, e, q⟩ := h
  unfold joinD at e
  split at e
  · rename_i z d
    split at e
    · rename_i ys e1
      split at e
      · rename_i hl
        cases e
        cases ra
        cases rds with
        | cons r1 r2 =>
          cases r2
          cases e2 : viewS S d with
          | none => rw [e2] at e1; cases e1
          | some es =>
            rw [e2] at e1
            obtain ⟨p, vs, rfl, h1, h2⟩ := viewS_ok ok r1 e2
            have := strsD_ok h2 e1
            subst this
            exact ⟨_, _, ys, rfl, rfl, h1, hl, rof_val ok q (.str _)⟩
      · cases e
    · cases e
  · cases e
def upperD : OM := fun S a ds => match a, ds with
  | .str a, [] => if a.length ≤ 5592405 then some (.val (.str (Txt.upper a)), S) else none
  | _, _ => none
theorem mt_upperD : MtR X "str.upper" (rMt X.K X.mg upperD) := by
  refine MtR.imp mt_upper fun x xs H Q h => ?_
  obtain ⟨S, F, m, a, ds, u, S', ok, ra, rds, e, q⟩ := h
  unfold upperD at e
  split at e
  · split at e
    · rename_i hl
      cases e
      cases ra
      cases rds
      exact ⟨_, rfl, rfl, hl, rof_val ok q (.str _)⟩
    · cases e
  · cases e
end
end Sf
/-! Sf5: defs, calls, statements. -/
namespace Sf
open L2 PySem PySem.Spec PyProof.Rows

abbrev MD := List D → Sto → Option (Rz Out)
/-- what a def promises: its denotation -/
def GSp (K : PySem.W.Frag) (mg : Str → Option Value) (n : Nat) (m : MD) : Sp := fun vs H Q E =>
  vs.length = n ∧ ∃ ds S F mm, RepL K F mm vs ds ∧ SOk K mg H F mm S ∧ Aft K mg (RO K mg) E H F mm (m ds S) Q
/-- a def that keeps its denotation, wherever no repr is under way -/
structure FnG (P : Program) (w : World) (K : PySem.W.Frag) (mg : Str → Option Value) (base : Heap) (k : Nat) (f : Addr) (fd : FuncData) (ps : List Str) (m : MD) : Prop where
  go : ∀ (A : Around) (outer : List Env) (s : Shared) (H : Hp) (args : Args) (us : List Value) (vs : List V) (Q : VK) (E : XK), Room k A → A.guards = some [] → Env0 P w K mg base A outer s H → BindsTo s fd args (ps.zip us) → Vals vs us →
    GSp K mg ps.length m vs H Q E → codeAny (model P w) A (.call (.ref f) args) (CR (L2.CX P w) outer P w H s Q E) s
theorem FnG.up {P : Program} {w : World} {K : PySem.W.Frag} {mg : Str → Option Value} {base : Heap} {k j : Nat} {f : Addr} {fd : FuncData} {ps : List Str} {m : MD} (F : FnG P w K mg base k f fd ps m) (h : k ≤ j) : FnG P w K mg base j f fd ps m :=
  ⟨fun A outer s H args us vs Q E hr => F.go A outer s H args us vs Q E (hr.mono h)⟩

/-- where a body stands -/
structure Stand (X : Cx) (W : WX') (k : Nat) : Prop where
  room : Room k X.A
  guard : X.A.guards = some []
  take : Takes X W
  calm : X.calm = true
theorem Stand.hu {X : Cx} {W : WX'} {k : Nat} (s : Stand X W k) : X.A.units + 64 < cLine := s.room.units
theorem Stand.hu1 {X : Cx} {W : WX'} {k : Nat} (s : Stand X W k) : X.A.units + 65 < cLine := by have := s.room.un; omega
theorem Stand.hus {X : Cx} {W : WX'} {k : Nat} (s : Stand X W k) : X.A.units + 1 < cLine := by have := s.room.un; omega

def dFn (n : Nat) (m : MD) (g : Dn (List D)) : Dn Out := fun ρ S => bnd (g ρ S) fun ds S1 => if ds.length = n then m ds S1 else none
section
variable {X : Cx} {W : WX'} {x : Str} {e : Expr} {es : List Expr} {g : Dn (List D)} {p pos : Pos} {k j : Nat} {f : Addr} {fd : FuncData} {ps : List Str} {m : MD}
theorem run_g {pins : List (Addr × Obj)} {σ : L2.St} {H : Hp} {s : Shared} {Q : VK} {us : List Value} {vs : List V} (G : FnG X.prog X.w X.K X.mg X.base k f fd ps m) (Z : Stand X W j) (hj : k ≤ j) (hb : Binds X.K fd ps [])
    (I : Inv X pins σ H s) (r : Vals vs us) (h : GSp X.K X.mg ps.length m vs H Q (fun c d H' => W c d σ H')) : wpAny (model X.prog X.w) X.A (call (.ref f) us) (EP X pins σ Q) X.xe s := by
  have hl : us.length = ps.length := by
    rw [← r.length]
    exact h.1
  have bt := hb s us I.kIn (by rw [List.append_nil]; exact hl)
  rw [List.append_nil] at bt
  refine wpAny_call (codeAny_mono (G.go X.A X.stack s H ⟨us, []⟩ us vs Q _ (Z.room.mono hj) Z.guard I.env0 bt r h) fun fl s' q => ?_)
  match fl, q with
  | .error ev, q => exact passAt Z.take σ pins H s ev s' I q
  | .ok (.ret u), q => exact I.after q
  | .ok .next, q => exact q.elim
  | .ok .brk, q => exact q.elim
  | .ok .cont, q => exact q.elim
theorem tg_fn {K : PySem.W.Frag} {mg : Str → Option Value} {σ : L2.St} {H : Hp} {Q : VK} {n : Nat} (h : Tg K mg (RO K mg) W (dFn n m g) σ H Q) :
    Tg K mg (RL K) W g σ H fun vs H1 => GSp K mg n m vs H1 Q (fun c d H' => W c d σ H') := by
  refine tg1 (R2 := RO K mg) (g := fun _ (ds : List D) S1 => if ds.length = n then m ds S1 else none) sh_O h fun vs _ H1 ρ S1 F1 m1 ds sl ok1 rx A => ?_
  by_cases hl : ds.length = n
  · rw [if_pos hl] at A
    exact ⟨by rw [rx.length]; exact hl, ds, S1, F1, m1, rx, ok1, A⟩
  · rw [if_neg hl] at A
    exact A.elim
theorem d_fn (G : FnG X.prog X.w X.K X.mg X.base k f fd ps m) (Z : Stand X W j) (hg : Gl X x) (hm : X.mg x = some (.ref f)) (hk : PySem.W.keepIn X.K (.ref f) = true) (hb : Binds X.K fd ps []) (ha : Pa X W (e :: es) g) (hj : k ≤ j := by decide)
    (hdb : (x == ("__debug__" : Str)) = false := by decide) (he : starEach (e :: es) X.env = (false, eval e X.env) :: starEach es X.env := by rfl) (hpl : (backTo pos (starEach es X.env)).any (·.1) = false := by rfl) :
    Pe X W (.Call (.Name x p) (e :: es) [] pos) (dFn ps.length m g) := by
  refine ⟨fun pins s σ H Q I h => ?_⟩
  refine wpAny_Call_Name_kw (ld_glob I hg hm ?_ hdb)
  exact PySem.W.callWith_K (h₀ := X.base) I.ok.mod.kin hk (thn (ha.run pos pins s σ H _ I (tg_fn h)) fun us s1 ⟨vs, H1, I1, r, q⟩ => ⟨I1.kIn, run_g G Z hj hb I1 r q⟩) he hpl
theorem d_fn0 (G : FnG X.prog X.w X.K X.mg X.base k f fd ps m) (Z : Stand X W j) (hg : Gl X x) (hm : X.mg x = some (.ref f)) (hk : PySem.W.keepIn X.K (.ref f) = true) (hb : Binds X.K fd ps []) (hj : k ≤ j := by decide)
    (hdb : (x == ("__debug__" : Str)) = false := by decide) : Pe X W (.Call (.Name x p) [] [] pos) (dFn ps.length m aNil) := by
  refine ⟨fun pins s σ H Q I h => ?_⟩
  refine wpAny_Call_Name_kw (ld_glob I hg hm ?_ hdb)
  have q : GSp X.K X.mg ps.length m [] H Q (fun c d H' => W c d σ H') := by
    obtain ⟨ρ, S, F, mm, sl, ok, A⟩ := tg_fn h
    exact A [] H F mm (Stp.refl ..) ok .nil
  exact PySem.W.callWith_K0 I.kIn hk (run_g (us := []) G Z hj hb I .nil q)
end

/-! ### statements -/
inductive Fl where
  | nx (ρ : En) (S : Sto)
  | rt (o : Out) (S : Sto)
  | bk (ρ : En) (S : Sto)
  | ct (ρ : En) (S : Sto)
  | er (x : Xn) (ρ : En) (S : Sto)
abbrev Sn := En → Sto → Option Fl
def AftS (K : PySem.W.Frag) (mg : Str → Option Value) (W : WX') (H F : Hp) (m : List Addr) (r : Option Fl) (Dd : Ends) : Prop :=
  match r with
  | none => False
  | some (.nx ρ' S') => ∀ σ' H' F' m', Stp H F m H' F' m' → SOk K mg H' F' m' S' → SlR K F' m' σ' ρ' → Dd.nx σ' H'
  | some (.rt o S') => ∀ v H' F' m', Stp H F m H' F' m' → SOk K mg H' F' m' S' → OutR K mg H H' F' m' v o → Dd.rt v H'
  | some (.bk ρ' S') => ∀ σ' H' F' m', Stp H F m H' F' m' → SOk K mg H' F' m' S' → SlR K F' m' σ' ρ' → Dd.bk σ' H'
  | some (.ct ρ' S') => ∀ σ' H' F' m', Stp H F m H' F' m' → SOk K mg H' F' m' S' → SlR K F' m' σ' ρ' → Dd.ct σ' H'
  | some (.er x ρ' S') => ∀ c d σ' H' F' m', Stp H F m H' F' m' → SOk K mg H' F' m' S' → SlR K F' m' σ' ρ' → XnR K mg H' F' m' c d x → W c d σ' H'
def Ts (K : PySem.W.Frag) (mg : Str → Option Value) (W : WX') (f : Sn) : TS := fun Dd σ H => ∃ ρ S F m, SlR K F m σ ρ ∧ SOk K mg H F m S ∧ AftS K mg W H F m (f ρ S) Dd
theorem AftS.shift {K : PySem.W.Frag} {mg : Str → Option Value} {W : WX'} {H F H1 F1 : Hp} {m m1 : List Addr} {r : Option Fl} {Dd : Ends} (st : Stp H F m H1 F1 m1) (h : AftS K mg W H F m r Dd) : AftS K mg W H1 F1 m1 r Dd := by
  match r, h with
  | none, h => exact h
  | some (.nx ρ' S'), h => exact fun σ' H' F' m' s k q => h σ' H' F' m' (st.trans s) k q
  | some (.rt o S'), h => exact fun v H' F' m' s k q => h v H' F' m' (st.trans s) k (sh_O _ _ _ _ _ _ _ st.dm q)
  | some (.bk ρ' S'), h => exact fun σ' H' F' m' s k q => h σ' H' F' m' (st.trans s) k q
  | some (.ct ρ' S'), h => exact fun σ' H' F' m' s k q => h σ' H' F' m' (st.trans s) k q
  | some (.er x ρ' S'), h => exact fun c d σ' H' F' m' s k q => h c d σ' H' F' m' (st.trans s) k q
abbrev Ps (X : Cx) (W : WX') (s : Stmt) (f : Sn) : Prop := PS X s (Ts X.K X.mg W f)
abbrev Pss (X : Cx) (W : WX') (s : List Stmt) (f : Sn) : Prop := PSs X s (Ts X.K X.mg W f)

/-- an expression's result, then a statement's flow -/
def bnS {α : Type} (r : Option (Rz α)) (ρ : En) (k : α → Sto → Option Fl) : Option Fl :=
  match r with
  | none => none
  | some (.ok a S) => k a S
  | some (.er x S) => some (.er x ρ S)
theorem ts1 {K : PySem.W.Frag} {mg : Str → Option Value} {α β : Type} {R1 : Rel α β} {W : WX'} {σ : L2.St} {H : Hp} {f : Dn α} {g : En → α → Sto → Option Fl} {Dd : Ends} {Q' : β → Hp → Prop}
    (h : Ts K mg W (fun ρ S => bnS (f ρ S) ρ (g ρ)) Dd σ H)
    (k : ∀ x H0 H1 ρ S1 F1 m1 a, SlR K F1 m1 σ ρ → SOk K mg H1 F1 m1 S1 → R1 H0 H1 F1 m1 x a → AftS K mg W H1 F1 m1 (g ρ a S1) Dd → (∀ b, H1 b = none → H0 b = none) → Stp H0 H0 [] H0 H0 [] → Q' x H1) : Tg K mg R1 W f σ H Q' := by
  obtain ⟨ρ, S, F, m, sl, ok, A⟩ := h
  refine ⟨ρ, S, F, m, sl, ok, ?_⟩
  have A : AftS K mg W H F m (bnS (f ρ S) ρ (g ρ)) Dd := A
  match f ρ S, A with
  | none, A => exact A
  | some (.ok a S'), A =>
    intro x H1 F1 m1 st ok1 r1
    exact k x H H1 ρ S' F1 m1 a (sl.mono st.fr st.pre) ok1 r1 (AftS.shift st A) st.dm (Stp.refl ..)
  | some (.er x S'), A => exact fun c d H' F' m' st k q => A c d σ H' F' m' st k (sl.mono st.fr st.pre) q

def sSeq (f g : Sn) : Sn := fun ρ S => match f ρ S with
  | some (.nx ρ' S') => g ρ' S'
  | r => r
def sNext : Sn := fun ρ S => some (.nx ρ S)
def sAsg (i : Nat) (f : Dn Out) : Sn := fun ρ S => bnS (stl f ρ S) ρ fun d S1 => some (.nx (ρ.set i (some d)) S1)
def sAsgB (i : Nat) (f : Dn Out) : Sn := fun ρ S => bnS (bxd f ρ S) ρ fun d S1 => some (.nx (ρ.set i (some d)) S1)
def sRet (f : Dn Out) : Sn := fun ρ S => bnS (f ρ S) ρ fun o S1 => some (.rt o S1)
def sRetN : Sn := fun _ S => some (.rt (.val .non) S)
def sDrop (f : Dn Out) : Sn := fun ρ S => bnS (f ρ S) ρ fun _ S1 => some (.nx ρ S1)
def sIf (c : Dn Bool) (f g : Sn) : Sn := fun ρ S => bnS (c ρ S) ρ fun b S1 => if b = true then f ρ S1 else g ρ S1
def sNever : Sn := fun _ _ => none

section
variable {X : Cx} {W : WX'} {e : Expr} {f : Dn Out} {c : Dn Bool} {p q : Sn} {st : Stmt} {body body2 : List Stmt} {pos : Pos}
theorem ss_nil : Pss X W [] sNext := by
  refine pss_imp pss_nil fun Dd σ H h => ?_
  obtain ⟨ρ, S, F, m, sl, ok, A⟩ := h
  exact A σ H F m (Stp.refl ..) ok sl
theorem ss_cons (h : Ps X W st p) (k : Pss X W body q) : Pss X W (st :: body) (sSeq p q) := by
  refine pss_imp (pss_cons h k) fun Dd σ H z => ?_
  obtain ⟨ρ, S, F, m, sl, ok, A⟩ := z
  refine ⟨ρ, S, F, m, sl, ok, ?_⟩
  unfold sSeq at A
  match p ρ S, A with
  | none, A => exact A
  | some (.nx ρ' S'), A => exact fun σ' H' F' m' s k q => ⟨ρ', S', F', m', q, k, AftS.shift s A⟩
  | some (.rt o S'), A => exact A
  | some (.bk ρ' S'), A => exact A
  | some (.ct ρ' S'), A => exact A
  | some (.er x ρ' S'), A => exact A
theorem ss_one (h : Ps X W st p) : Pss X W [st] p := by
  refine pss_imp (pss_one h) fun Dd σ H z => z
theorem s_asg {x : Str} {px : Pos} {i : Nat} (nd : X.N.Nodup) (hi : X.N[i]? = some x) (hl : Loc X.env.scope x) (he : Pe X W e f)
    (hs : swapsWith e (some (.Name x px)) pos.line X.env = pure false := by rfl) (hf : X.fn x = true ∨ X.env.scope.names.lookup x = some .local := by first | exact .inl rfl | exact .inr rfl | assumption) : Ps X W (.Assign [.Name x px] e pos) (sAsg i f) := by
  refine ps_imp (ps_set (i := i) nd hi hl he.d hs hf) fun Dd σ H z => ?_
  exact ts1 (R1 := RD X.K) (g := fun ρ (d : D) S1 => some (.nx (ρ.set i (some d)) S1)) z fun v _ H1 ρ S1 F1 m1 d sl ok r A _ _ => A _ H1 F1 m1 (Stp.refl ..) ok (sl.put i r)
theorem s_asgB {x : Str} {px : Pos} {i : Nat} (nd : X.N.Nodup) (hi : X.N[i]? = some x) (hl : Loc X.env.scope x) (he : Pe X W e f)
    (hs : swapsWith e (some (.Name x px)) pos.line X.env = pure false := by rfl) (hf : X.fn x = true ∨ X.env.scope.names.lookup x = some .local := by first | exact .inl rfl | exact .inr rfl | assumption) : Ps X W (.Assign [.Name x px] e pos) (sAsgB i f) := by
  refine ps_imp (ps_set (i := i) nd hi hl he.b hs hf) fun Dd σ H z => ?_
  exact ts1 (R1 := RD X.K) (g := fun ρ (d : D) S1 => some (.nx (ρ.set i (some d)) S1)) z fun v _ H1 ρ S1 F1 m1 d sl ok r A _ _ => A _ H1 F1 m1 (Stp.refl ..) ok (sl.put i r)
theorem s_ret (he : Pe X W e f) : Ps X W (.Return (some e) pos) (sRet f) := by
  refine ps_imp (ps_ret he) fun Dd σ H z => ?_
  obtain ⟨ρ, S, F, m, sl, ok, A⟩ := z
  refine ⟨ρ, S, F, m, sl, ok, ?_⟩
  unfold sRet at A
  match f ρ S, A with
  | none, A => exact A
  | some (.ok a S'), A => exact A
  | some (.er x S'), A => exact fun c d H' F' m' st k q => A c d σ H' F' m' st k (sl.mono st.fr st.pre) q
theorem s_retN : Ps X W (.Return none pos) sRetN := by
  refine ps_imp ps_retN fun Dd σ H z => ?_
  obtain ⟨ρ, S, F, m, sl, ok, A⟩ := z
  exact A .non H F m (Stp.refl ..) ok .non
theorem s_drop (he : Pe X W e f) (hs : swapsWith e none pos.line X.env = pure false := by rfl) : Ps X W (.Expr e pos) (sDrop f) := by
  refine ps_imp (ps_expr he hs) fun Dd σ H z => ?_
  exact ts1 (R1 := RO X.K X.mg) (g := fun ρ (_ : Out) S1 => some (.nx ρ S1)) z fun v _ H1 ρ S1 F1 m1 d sl ok r A _ _ => A _ H1 F1 m1 (Stp.refl ..) ok sl
theorem s_if {t : Expr} (hc : Pt X W t c) (h1 : Pss X W body p) (h2 : Pss X W body2 q) : Ps X W (.If t body body2 pos) (sIf c p q) := by
  refine ps_imp (ps_if hc h1 h2) fun Dd σ H z => ?_
  refine ts1 (R1 := RB) (g := fun ρ (b : Bool) S1 => if b = true then p ρ S1 else q ρ S1) z fun b _ H1 ρ S1 F1 m1 d sl ok r A _ _ => ?_
  cases r
  cases b with
  | true => exact ⟨ρ, S1, F1, m1, sl, ok, A⟩
  | false => exact ⟨ρ, S1, F1, m1, sl, ok, A⟩
theorem s_never : Ps X W st sNever := by
  refine ps_imp ps_never fun Dd σ H z => ?_
  obtain ⟨ρ, S, F, m, sl, ok, A⟩ := z
  exact A
theorem s_pass : Ps X W (.Pass pos) sNext := by
  refine ps_imp ps_pass fun Dd σ H z => ?_
  obtain ⟨ρ, S, F, m, sl, ok, A⟩ := z
  exact A σ H F m (Stp.refl ..) ok sl
theorem s_break : Ps X W (.Break pos) (fun ρ S => some (.bk ρ S)) := by
  refine ps_imp ps_break fun Dd σ H z => ?_
  obtain ⟨ρ, S, F, m, sl, ok, A⟩ := z
  exact A σ H F m (Stp.refl ..) ok sl
theorem s_cont : Ps X W (.Continue pos) (fun ρ S => some (.ct ρ S)) := by
  refine ps_imp ps_continue fun Dd σ H z => ?_
  obtain ⟨ρ, S, F, m, sl, ok, A⟩ := z
  exact A σ H F m (Stp.refl ..) ok sl
end
end Sf
/-! Sf6: what is walked, targets, for, comprehensions. -/
namespace Sf
open L2 PySem PySem.Spec PyProof.Rows

/-- an iterator whose items are the data xs, whatever else goes on -/
def Wk (K : PySem.W.Frag) (mg : Str → Option Value) (J : It) (H F : Hp) (m : List Addr) (xs : List D) : Prop :=
  ∀ (i : Nat) (H1 F1 : Hp) (m1 : List Addr) (S1 : Sto), Stp H F m H1 F1 m1 → SOk K mg H1 F1 m1 S1 →
    (i < xs.length → J.go i H1 ∧ ∀ x H2, J.yld i H1 x H2 → ∃ F2 d, xs[i]? = some d ∧ Stp H1 F1 m1 H2 F2 m1 ∧ SOk K mg H2 F2 m1 S1 ∧ Rep K F2 m1 x d) ∧ (xs.length ≤ i → J.stop i H1)
abbrev RW (K : PySem.W.Frag) (mg : Str → Option Value) : Rel (List D) It := fun _ H F m J xs => Wk K mg J H F m xs
abbrev Pi (X : Cx) (W : WX') (tg iter : Expr) (f : Dn (List D)) : Prop := PI X tg iter (Tg X.K X.mg (RW X.K X.mg) W f)
theorem pi_imp {X : Cx} {tg e : Expr} {t t' : TI} (h : PI X tg e t) (k : ∀ σ H Q, t' σ H Q → t σ H Q) : PI X tg e t' :=
  ⟨fun pins s σ H Q I q => h.run pins s σ H Q I (k σ H Q q)⟩

/-- a list or a tuple that is walked as it stands -/
def iSeq (K : PySem.W.Frag) (tl : TE) : TI := fun σ H R => tl σ H fun x H1 => ∃ a, x = .ref a ∧ ((∃ xs, SqL K H1 a xs) ∧ R (Itl K a) H1 ∨ (∃ xs, SqT K H1 a xs) ∧ R (Itt K a) H1)
theorem pi_seq {X : Cx} {tg l : Expr} {tl : TE} (hl : PE X l tl) : PI X tg l (iSeq X.K tl) := by
  constructor
  intro pins s σ H R I h
  refine thn (hl.run pins s σ H _ I h) ?_
  rintro v s1 ⟨x, H1, I1, r1, a, rfl, hc⟩
  cases r1
  have fp : ∀ b ∈ [s1.heap.objs.size], FpOk X pins H1 b := fun b hb => by
    rw [List.mem_singleton.mp hb]
    exact I1.fpOk (Nat.le_refl _) (I1.hok.fresh (Nat.le_refl _))
  rcases hc with ⟨⟨xs, hq⟩, q⟩ | ⟨⟨xs, hq⟩, q⟩
  · obtain ⟨its, rv, pl, _⟩ := I1.list hq
    exact wpAny_pyIter_list pl.isList ⟨_, [s1.heap.objs.size], _, _, H1, rfl, I1.kept (t' := s1.toks) (fun b o e => Heap.get?_push_of_some _ e), turn_list a _, ⟨_, Heap.get?_push_size _ rfl, rfl, rfl⟩, fp, q⟩
  · obtain ⟨its, rv, pl, _⟩ := I1.tuple hq
    exact wpAny_pyIter_tuple (show s1.heap.IsTuple a its.toArray from pl) ⟨_, [s1.heap.objs.size], _, _, H1, rfl, I1.kept (t' := s1.toks) (fun b o e => Heap.get?_push_of_some _ e), turn_tuple a _, ⟨_, Heap.get?_push_size _ rfl, rfl, rfl⟩, fp, q⟩

def fixed : D → Option (List D)
  | .tup ds => some ds
  | .lst ds => some ds
  | .fls ds => some ds
  | _ => none
def itSeq (f : Dn Out) : Dn (List D) := fun ρ S => bnd (stl f ρ S) fun d S1 => match fixed d with
  | some ds => some (.ok ds S1)
  | none => none
theorem sq_wkL {K : PySem.W.Frag} {mg : Str → Option Value} {H F : Hp} {m : List Addr} {a : Addr} {xs : List V} {ds : List D} (hs : SqL K F a xs) (hr : RepL K F m xs ds) : Wk K mg (Itl K a) H F m ds := by
  intro i H1 F1 m1 S1 st ok
  have h1 : SqL K H1 a xs := same_l ok.sub (same_l st.fr hs)
  have h2 := RepL.mono st.fr st.pre ds hr
  refine ⟨fun hi => ?_, fun hi => ⟨xs, h1, by rw [hr.length]; exact hi⟩⟩
  obtain ⟨v, h3, h4⟩ := h2.get (List.getElem?_eq_getElem hi)
  refine ⟨⟨xs, v, h1, h3⟩, fun x H2 y => ?_⟩
  obtain ⟨e, y⟩ := y
  subst e
  have := y xs h1
  rw [h3] at this
  cases this
  exact ⟨F1, ds[i], List.getElem?_eq_getElem hi, Stp.refl .., ok, h4⟩
theorem sq_wkT {K : PySem.W.Frag} {mg : Str → Option Value} {H F : Hp} {m : List Addr} {a : Addr} {xs : List V} {ds : List D} (hs : SqT K F a xs) (hr : RepL K F m xs ds) : Wk K mg (Itt K a) H F m ds := by
  intro i H1 F1 m1 S1 st ok
  have h1 : SqT K H1 a xs := same_t ok.sub (same_t st.fr hs)
  have h2 := RepL.mono st.fr st.pre ds hr
  refine ⟨fun hi => ?_, fun hi => ⟨xs, h1, by rw [hr.length]; exact hi⟩⟩
  obtain ⟨v, h3, h4⟩ := h2.get (List.getElem?_eq_getElem hi)
  refine ⟨⟨xs, v, h1, h3⟩, fun x H2 y => ?_⟩
  obtain ⟨e, y⟩ := y
  subst e
  have := y xs h1
  rw [h3] at this
  cases this
  exact ⟨F1, ds[i], List.getElem?_eq_getElem hi, Stp.refl .., ok, h4⟩
section
variable {X : Cx} {W : WX'} {tg e : Expr} {f : Dn Out} {g : Dn (List D)} {p pos : Pos}
theorem i_seq (he : Pe X W e f) : Pi X W tg e (itSeq f) := by
  refine pi_imp (pi_seq he.d) fun σ H Q q => ?_
  refine tg1 (R2 := RW X.K X.mg) (g := fun _ d S1 => match fixed d with
    | some ds => some (.ok ds S1)
    | none => none) (fun _ _ _ _ _ _ _ _ h => h) q fun x _ H1 ρ S1 F1 m1 d sl ok1 rx A => ?_
  match d, rx, A with
  | .tup ds, rx, A =>
    cases rx with
    | tup h1 h2 => exact ⟨_, rfl, .inr ⟨⟨_, same_t ok1.sub h1⟩, A _ H1 F1 m1 (Stp.refl ..) ok1 (sq_wkT h1 h2)⟩⟩
  | .lst ds, rx, A =>
    cases rx with
    | lst h1 h2 => exact ⟨_, rfl, .inl ⟨⟨_, SqL.of (ok1.sub _ _ h1)⟩, A _ H1 F1 m1 (Stp.refl ..) ok1 (sq_wkL (SqL.of h1) h2)⟩⟩
  | .fls ds, rx, A =>
    cases rx with
    | fls h1 h2 => exact ⟨_, rfl, .inl ⟨⟨_, same_l ok1.sub h1⟩, A _ H1 F1 m1 (Stp.refl ..) ok1 (sq_wkL h1 h2)⟩⟩
  | .non, rx, A => exact A.elim
  | .bl _, rx, A => exact A.elim
  | .int _, rx, A => exact A.elim
  | .str _, rx, A => exact A.elim
  | .emp, rx, A => exact A.elim
  | .ref _, rx, A => exact A.elim
/-- a range -/
def rangeL (lo : Int) (n : Nat) : List D := (List.range n).map fun (i : Nat) => .int (lo + (i : Int))
theorem rg_wk {K : PySem.W.Frag} {mg : Str → Option Value} {H F : Hp} {m : List Addr} (lo : Int) (n : Nat) : Wk K mg (Itr lo n) H F m (rangeL lo n) := by
  intro i H1 F1 m1 S1 st ok
  have hl : (rangeL lo n).length = n := by unfold rangeL; rw [List.length_map, List.length_range]
  rw [hl]
  refine ⟨fun hi => ⟨hi, fun x H2 y => ?_⟩, fun hi => hi⟩
  obtain ⟨e, y⟩ := y
  subst e y
  refine ⟨F1, .int (lo + i), ?_, Stp.refl .., ok, .int _⟩
  unfold rangeL
  rw [List.getElem?_map, List.getElem?_range hi]
  rfl
def range1D (ds : List D) : Option (List D) := match ds with
  | [.int j] => if -(2 ^ 62) ≤ j ∧ j < 2 ^ 62 then some (rangeL 0 j.toNat) else none
  | _ => none
def range2D (ds : List D) : Option (List D) := match ds with
  | [.int i, .int j] => if -(2 ^ 62) ≤ i ∧ i < 2 ^ 62 ∧ -(2 ^ 62) ≤ j ∧ j < 2 ^ 62 then some (rangeL i (j - i).toNat) else none
  | _ => none
def itA (r : List D → Option (List D)) (g : Dn (List D)) : Dn (List D) := fun ρ S => bnd (g ρ S) fun ds S1 => match r ds with
  | some xs => some (.ok xs S1)
  | none => none
theorem tg_itA {K : PySem.W.Frag} {mg : Str → Option Value} {σ : L2.St} {H : Hp} {Q : It → Hp → Prop} {r : List D → Option (List D)} (h : Tg K mg (RW K mg) W (itA r g) σ H Q) :
    Tg K mg (RL K) W g σ H fun vs H1 => ∃ F m ds xs S, SOk K mg H1 F m S ∧ RepL K F m vs ds ∧ r ds = some xs ∧ ∀ J H' F' m', Stp H1 F m H' F' m' → SOk K mg H' F' m' S → Wk K mg J H' F' m' xs → Q J H' := by
  refine tg1 (R2 := RW K mg) (g := fun _ (ds : List D) S1 => match r ds with
    | some xs => some (.ok xs S1)
    | none => none) (fun _ _ _ _ _ _ _ _ h => h) h fun vs _ H1 ρ S1 F1 m1 ds sl ok1 rx A => ?_
  match e : r ds, A with
  | none, A => exact A.elim
  | some xs, A => exact ⟨F1, m1, ds, xs, S1, ok1, rx, e, fun J H' F' m' st k q => A J H' F' m' st k q⟩
theorem i_range1 {a : Expr} (hg : Gl X "range") (hm : X.mg "range" = none) (ha : Pa X W [a] g) (hs : starEach [a] X.env = [(false, eval a X.env)] := by rfl) : Pi X W tg (.Call (.Name "range" p) [a] [] pos) (itA range1D g) := by
  refine pi_imp (pi_range1 hg hm ha hs) fun σ H Q q => ?_
  refine tg_imp (tg_itA q) fun vs H1 ⟨F, m, ds, xs, S, ok, rx, e, k⟩ => ?_
  unfold range1D at e
  split at e
  · split at e
    · rename_i hb
      cases e
      cases rx with
      | cons r1 r2 =>
        cases r1; cases r2
        exact ⟨_, rfl, hb.1, hb.2, k _ H1 F m (Stp.refl ..) ok (rg_wk _ _)⟩
    · cases e
  · cases e
theorem i_range2 {a b : Expr} (hg : Gl X "range") (hm : X.mg "range" = none) (ha : Pa X W [a, b] g) (hs : starEach [a, b] X.env = [(false, eval a X.env), (false, eval b X.env)] := by rfl) (hs2 : starEach [b] X.env = [(false, eval b X.env)] := by rfl) :
    Pi X W tg (.Call (.Name "range" p) [a, b] [] pos) (itA range2D g) := by
  refine pi_imp (pi_range2 hg hm ha hs hs2) fun σ H Q q => ?_
  refine tg_imp (tg_itA q) fun vs H1 ⟨F, m, ds, xs, S, ok, rx, e, k⟩ => ?_
  unfold range2D at e
  split at e
  · split at e
    · rename_i hb
      cases e
      cases rx with
      | cons r1 r2 =>
        cases r2 with
        | cons r3 r4 =>
          cases r1; cases r3; cases r4
          exact ⟨_, _, rfl, hb, k _ H1 F m (Stp.refl ..) ok (rg_wk _ _)⟩
    · cases e
  · cases e
/-- a text, sign by sign -/
def signsL (x : Str) : List D := x.cps.toList.map fun c => .str ⟨#[c]⟩
def itStr (f : Dn Out) : Dn (List D) := fun ρ S => bnd (stl f ρ S) fun d S1 => match d with
  | .str x => some (.ok (signsL x) S1)
  | _ => none
theorem i_str (he : Pe X W e f) : Pi X W tg e (itStr f) := by
  refine pi_imp (pi_str he.d) fun σ H Q q => ?_
  refine tg1 (R2 := RW X.K X.mg) (g := fun _ (d : D) S1 => match d with
    | .str x => some (.ok (signsL x) S1)
    | _ => none) (fun _ _ _ _ _ _ _ _ h => h) q fun v _ H1 ρ S1 F1 m1 d sl ok1 rx A => ?_
  split at A
  · rename_i x
    cases rx
    refine ⟨x, rfl, A _ H1 F1 m1 (Stp.refl ..) ok1 ?_⟩
    intro i H2 F2 m2 S2 st ok
    have hl : (signsL x).length = x.cps.size := by unfold signsL; rw [List.length_map, Array.length_toList]
    rw [hl]
    refine ⟨fun hi => ⟨hi, fun y H3 z => ?_⟩, fun hi => hi⟩
    obtain ⟨e, c, hc, e2⟩ := z
    subst e e2
    refine ⟨F2, .str ⟨#[c]⟩, ?_, Stp.refl .., ok, .str _⟩
    unfold signsL
    rw [List.getElem?_map, Array.getElem?_toList, hc]
    rfl
  · exact A.elim
/-- enumerate(a list) -/
def enumL (k : Nat) : List D → List D
  | [] => []
  | d :: r => .tup [.int k, d] :: enumL (k + 1) r
theorem enumL_get : ∀ (ds : List D) (k i : Nat), (enumL k ds)[i]? = ds[i]?.map fun d => .tup [.int ((k + i : Nat) : Int), d]
  | [], _, i => by simp [enumL]
  | d :: r, k, 0 => by simp [enumL]
  | d :: r, k, i + 1 => by
    show (enumL (k + 1) r)[i]? = r[i]?.map _
    rw [enumL_get r (k + 1) i]
    have : k + 1 + i = k + (i + 1) := by omega
    rw [this]
theorem enumL_length : ∀ (ds : List D) (k : Nat), (enumL k ds).length = ds.length
  | [], _ => rfl
  | d :: r, k => by rw [enumL, List.length_cons, List.length_cons, enumL_length r]
def enumD (ds : List D) : Option (List D) := match ds with
  | [.lst es] => some (enumL 0 es)
  | [.fls es] => some (enumL 0 es)
  | _ => none
theorem en_wk {K : PySem.W.Frag} {mg : Str → Option Value} {H F : Hp} {m : List Addr} {a : Addr} {xs : List V} {ds : List D} (hs : SqL K F a xs) (hr : RepL K F m xs ds) : Wk K mg (Ite K a) H F m (enumL 0 ds) := by
  intro i H1 F1 m1 S1 st ok
  have h1 : SqL K H1 a xs := same_l ok.sub (same_l st.fr hs)
  have h2 := RepL.mono st.fr st.pre ds hr
  rw [enumL_length]
  refine ⟨fun hi => ?_, fun hi => ⟨xs, h1, by rw [hr.length]; exact hi⟩⟩
  obtain ⟨v, h3, h4⟩ := h2.get (List.getElem?_eq_getElem hi)
  refine ⟨⟨xs, v, h1, h3⟩, fun x H2 y => ?_⟩
  obtain ⟨T, z, rfl, hT, rfl, y⟩ := y
  have := y xs h1
  rw [h3] at this
  cases this
  obtain ⟨k, st', e⟩ := ok.newF (o := .tup [.int (i : Nat), v]) hT
  refine ⟨_, .tup [.int ((0 + i : Nat) : Int), ds[i]], by rw [enumL_get, List.getElem?_eq_getElem hi]; rfl, st', k, .tup (.inl (.inl upd_same)) (.cons ?_ (.cons (Rep.mono e (Pre.refl _) _ h4) .nil))⟩
  rw [Nat.zero_add]
  exact .int _
theorem i_enum {elts : List Expr} {kk : Nat} {tpos : Pos} (hg : Gl X "enumerate") (hm : X.mg "enumerate" = none) (ha : Pa X W [e] g) (hs : starEach [e] X.env = [(false, eval e X.env)] := by rfl) :
    Pi X W (.Tuple elts kk tpos) (.Call (.Name "enumerate" p) [e] [] pos) (itA enumD g) := by
  refine pi_imp (pi_enum hg hm ha hs) fun σ H Q q => ?_
  refine tg_imp (tg_itA q) fun vs H1 ⟨F, m, ds, xs, S, ok, rx, e, k⟩ => ?_
  unfold enumD at e
  split at e
  · cases e
    cases rx with
    | cons r1 r2 =>
      cases r2
      cases r1 with
      | lst h1 h2 => exact ⟨_, _, rfl, SqL.of (ok.sub _ _ h1), k _ H1 F m (Stp.refl ..) ok (en_wk (SqL.of h1) h2)⟩
  · cases e
    cases rx with
    | cons r1 r2 =>
      cases r2
      cases r1 with
      | fls h1 h2 => exact ⟨_, _, rfl, same_l ok.sub h1, k _ H1 F m (Stp.refl ..) ok (en_wk h1 h2)⟩
  · cases e
/-- zip of two lists, of two tuples -/
def zipL : List D → List D → List D
  | a :: r, b :: s => .tup [a, b] :: zipL r s
  | _, _ => []
theorem zipL_get : ∀ (xs ys : List D) (i : Nat) (a b : D), xs[i]? = some a → ys[i]? = some b → (zipL xs ys)[i]? = some (.tup [a, b])
  | [], _, _, _, _, h, _ => by simp at h
  | _ :: _, [], _, _, _, _, h => by simp at h
  | x :: xs, y :: ys, 0, a, b, h, k => by
    simp at h k
    subst h k
    rfl
  | x :: xs, y :: ys, i + 1, a, b, h, k => by
    show (zipL xs ys)[i]? = _
    exact zipL_get xs ys i a b (by simpa using h) (by simpa using k)
theorem zipL_length : ∀ (xs ys : List D), (zipL xs ys).length = min xs.length ys.length
  | [], ys => by simp [zipL]
  | _ :: _, [] => by simp [zipL]
  | x :: xs, y :: ys => by
    rw [zipL, List.length_cons, List.length_cons, List.length_cons, zipL_length xs ys]
    omega
def zipD (ds : List D) : Option (List D) := match ds with
  | [.tup as, .tup bs] => some (zipL as bs)
  | [a, b] => match fixed a, fixed b with
    | some as, some bs => match a, b with
      | .tup _, _ => none
      | _, .tup _ => none
      | _, _ => some (zipL as bs)
    | _, _ => none
  | _ => none
theorem zp_wkT {K : PySem.W.Frag} {mg : Str → Option Value} {H F : Hp} {m : List Addr} {a b : Addr} {xs ys : List V} {ds es : List D} (hs : SqT K F a xs) (hr : RepL K F m xs ds) (hs' : SqT K F b ys) (hr' : RepL K F m ys es) :
    Wk K mg (RZ.ItzT K a b) H F m (zipL ds es) := by
  intro i H1 F1 m1 S1 st ok
  have h1 : SqT K H1 a xs := same_t ok.sub (same_t st.fr hs)
  have h1' : SqT K H1 b ys := same_t ok.sub (same_t st.fr hs')
  have h2 := RepL.mono st.fr st.pre ds hr
  have h2' := RepL.mono st.fr st.pre es hr'
  rw [zipL_length]
  refine ⟨fun hi => ?_, fun hi => ⟨xs, ys, h1, h1', by rw [hr.length, hr'.length]; omega⟩⟩
  have ha : i < ds.length := by omega
  have hb : i < es.length := by omega
  obtain ⟨v, h3, h4⟩ := h2.get (List.getElem?_eq_getElem ha)
  obtain ⟨v', h3', h4'⟩ := h2'.get (List.getElem?_eq_getElem hb)
  refine ⟨⟨xs, ys, v, v', h1, h1', h3, h3'⟩, fun x H2 y => ?_⟩
  obtain ⟨T, z, z', rfl, hT, rfl, y, y'⟩ := y
  have := y xs h1
  rw [h3] at this
  cases this
  have := y' ys h1'
  rw [h3'] at this
  cases this
  obtain ⟨k, st', e⟩ := ok.newF (o := .tup [v, v']) hT
  exact ⟨_, _, zipL_get ds es i _ _ (List.getElem?_eq_getElem ha) (List.getElem?_eq_getElem hb), st', k, .tup (.inl (.inl upd_same)) (.cons (Rep.mono e (Pre.refl _) _ h4) (.cons (Rep.mono e (Pre.refl _) _ h4') .nil))⟩
theorem zp_wkL {K : PySem.W.Frag} {mg : Str → Option Value} {H F : Hp} {m : List Addr} {a b : Addr} {xs ys : List V} {ds es : List D} (hs : SqL K F a xs) (hr : RepL K F m xs ds) (hs' : SqL K F b ys) (hr' : RepL K F m ys es) :
    Wk K mg (Itz K a b) H F m (zipL ds es) := by
  intro i H1 F1 m1 S1 st ok
  have h1 : SqL K H1 a xs := same_l ok.sub (same_l st.fr hs)
  have h1' : SqL K H1 b ys := same_l ok.sub (same_l st.fr hs')
  have h2 := RepL.mono st.fr st.pre ds hr
  have h2' := RepL.mono st.fr st.pre es hr'
  rw [zipL_length]
  refine ⟨fun hi => ?_, fun hi => ⟨xs, ys, h1, h1', by rw [hr.length, hr'.length]; omega⟩⟩
  have ha : i < ds.length := by omega
  have hb : i < es.length := by omega
  obtain ⟨v, h3, h4⟩ := h2.get (List.getElem?_eq_getElem ha)
  obtain ⟨v', h3', h4'⟩ := h2'.get (List.getElem?_eq_getElem hb)
  refine ⟨⟨xs, ys, v, v', h1, h1', h3, h3'⟩, fun x H2 y => ?_⟩
  obtain ⟨T, z, z', rfl, hT, rfl, y, y'⟩ := y
  have := y xs h1
  rw [h3] at this
  cases this
  have := y' ys h1'
  rw [h3'] at this
  cases this
  obtain ⟨k, st', e⟩ := ok.newF (o := .tup [v, v']) hT
  exact ⟨_, _, zipL_get ds es i _ _ (List.getElem?_eq_getElem ha) (List.getElem?_eq_getElem hb), st', k, .tup (.inl (.inl upd_same)) (.cons (Rep.mono e (Pre.refl _) _ h4) (.cons (Rep.mono e (Pre.refl _) _ h4') .nil))⟩
theorem fixed_l {K : PySem.W.Frag} {F : Hp} {m : List Addr} {v : V} {d : D} {ds : List D} (r : Rep K F m v d) (h : fixed d = some ds) (hn : ∀ es, d ≠ .tup es) : ∃ a xs, v = .ref a ∧ SqL K F a xs ∧ RepL K F m xs ds := by
  cases r with
  | tup h1 h2 => exact absurd rfl (hn _)
  | lst h1 h2 =>
    cases h
    exact ⟨_, _, rfl, SqL.of h1, h2⟩
  | fls h1 h2 =>
    cases h
    exact ⟨_, _, rfl, h1, h2⟩
  | _ => cases h
theorem i_zip {e2 : Expr} {elts : List Expr} {kk : Nat} {tpos : Pos} (hg : Gl X "zip") (hm : X.mg "zip" = none) (ha : Pa X W [e, e2] g) (hs : starEach [e, e2] X.env = (false, eval e X.env) :: starEach [e2] X.env := by rfl)
    (hpl : (backTo pos (starEach [e2] X.env)).any (·.1) = false := by rfl) : Pi X W (.Tuple elts kk tpos) (.Call (.Name "zip" p) [e, e2] [] pos) (itA zipD g) := by
  refine pi_imp (RZ.pi_zipA hg hm ha hs hpl) fun σ H Q q => ?_
  refine tg_imp (tg_itA q) fun vs H1 ⟨F, m, ds, xs, S, ok, rx, e, k⟩ => ?_
  unfold zipD at e
  split at e
  · cases e
    cases rx with
    | cons r1 r2 =>
      cases r2 with
      | cons r3 r4 =>
        cases r4
        cases r1 with
        | tup h1 h2 =>
          cases r3 with
          | tup h3 h4 => exact ⟨_, _, _, _, rfl, .inr ⟨same_t ok.sub h1, same_t ok.sub h3, k _ H1 F m (Stp.refl ..) ok (zp_wkT h1 h2 h3 h4)⟩⟩
  · split at e
    · rename_i as bs e1 e2
      split at e
      · cases e
      · cases e
      · rename_i hn1 hn2
        cases e
        cases rx with
        | cons r1 r2 =>
          cases r2 with
          | cons r3 r4 =>
            cases r4
            obtain ⟨a, us, rfl, h1, h2⟩ := fixed_l r1 e1 (fun es z => hn1 es z)
            obtain ⟨b, ws, rfl, h3, h4⟩ := fixed_l r3 e2 (fun es z => hn2 es z)
            exact ⟨_, _, _, _, rfl, .inl ⟨same_l ok.sub h1, same_l ok.sub h3, k _ H1 F m (Stp.refl ..) ok (zp_wkL h1 h2 h3 h4)⟩⟩
    · cases e
  · cases e
end
end Sf
/-! Sf7: targets, for, comprehensions, the body of a def. -/
namespace Sf
open L2 PySem PySem.Spec PyProof.Rows

/-! ### targets -/
abbrev Tn := En → D → Option En
def Tt (K : PySem.W.Frag) (js : List Nat) (t : Tn) : TG := fun v σ H Q => ∃ ρ F m d ρ', SlR K F m σ ρ ∧ Same F H ∧ Rep K F m v d ∧ t ρ d = some ρ' ∧
  ∀ σ', SlR K F m σ' ρ' → (∀ vs, (∀ j ∈ js, j ∈ vs) → wipe σ' vs = wipe σ vs) → Q σ' H
theorem wipe_set : ∀ (vs : List Nat) (σ : L2.St) (j : Nat) (x : Option V), j ∈ vs → wipe (σ.set j x) vs = wipe σ vs
  | [], _, _, _, h => absurd h (by simp)
  | v :: vs, σ, j, x, h => by
    show (wipe (σ.set j x) vs).set v none = (wipe σ vs).set v none
    by_cases hj : j ∈ vs
    · rw [wipe_set vs σ j x hj]
    · have hv : j = v := by
        rcases List.mem_cons.mp h with h | h
        · exact h
        · exact absurd h hj
      subst hv
      have : ∀ (ws : List Nat), j ∉ ws → wipe (σ.set j x) ws = (wipe σ ws).set j x := fun ws => by
        induction ws with
        | nil => intro _; rfl
        | cons w ws ih =>
          intro hw
          have h1 : j ≠ w := fun z => hw (z ▸ List.mem_cons_self)
          have h2 : j ∉ ws := fun z => hw (List.mem_cons_of_mem _ z)
          show (wipe (σ.set j x) ws).set w none = ((wipe σ ws).set w none).set j x
          rw [ih h2, List.set_comm _ _ h1]
      rw [this vs hj, List.set_set]
def tName (i : Nat) : Tn := fun ρ d => some (ρ.set i (some d))
abbrev Tns := En → List D → Option En
def tsNil : Tns := fun ρ ds => match ds with
  | [] => some ρ
  | _ => none
def tsCons (t : Tn) (u : Tns) : Tns := fun ρ ds => match ds with
  | d :: r => match t ρ d with
    | some ρ1 => u ρ1 r
    | none => none
  | _ => none
def tTup (u : Tns) : Tn := fun ρ d => match d with
  | .tup ds => u ρ ds
  | _ => none
def Tts (K : PySem.W.Frag) (js : List Nat) (t : Tns) : TGs := fun vs σ H Q => ∃ ρ F m ds ρ', SlR K F m σ ρ ∧ Same F H ∧ RepL K F m vs ds ∧ t ρ ds = some ρ' ∧
  ∀ σ', SlR K F m σ' ρ' → (∀ vs, (∀ j ∈ js, j ∈ vs) → wipe σ' vs = wipe σ vs) → Q σ' H
theorem pg_imp {X : Cx} {e : Expr} {t t' : TG} (h : PG X e t) (k : ∀ v σ H Q, t' v σ H Q → t v σ H Q) : PG X e t' :=
  ⟨fun pins s σ H v u Q I r q => h.run pins s σ H v u Q I r (k v σ H Q q)⟩
theorem pgs_imp {X : Cx} {e : List Expr} {t t' : TGs} (h : PGs X e t) (k : ∀ v σ H Q, t' v σ H Q → t v σ H Q) : PGs X e t' :=
  ⟨fun pins s σ H v u Q I r q => h.run pins s σ H v u Q I r (k v σ H Q q)⟩
section
variable {X : Cx} {W : WX'} {x : Str} {px pos : Pos} {i n : Nat} {js ks : List Nat} {e : Expr} {es : List Expr} {t : Tn} {u : Tns}
theorem g_name (nd : X.N.Nodup) (hi : X.N[i]? = some x) (hl : Loc X.env.scope x) (hf : X.fn x = true ∨ X.env.scope.names.lookup x = some .local := by first | exact .inl rfl | exact .inr rfl | assumption) : PG X (.Name x px) (Tt X.K [i] (tName i)) := by
  refine pg_imp (pg_name nd hi hl hf) fun v σ H Q ⟨ρ, F, m, d, ρ', sl, sub, r, e, k⟩ => ?_
  cases e
  exact k _ (sl.put i r) fun vs hv => wipe_set vs σ i _ (hv i List.mem_cons_self)
theorem gs_nil : PGs X [] (Tts X.K [] tsNil) := by
  refine pgs_imp pgs_nil fun vs σ H Q ⟨ρ, F, m, ds, ρ', sl, sub, r, e, k⟩ => ?_
  unfold tsNil at e
  split at e
  · cases e
    cases r
    exact ⟨rfl, k σ sl fun _ _ => rfl⟩
  · cases e
theorem gs_cons (h1 : PG X e (Tt X.K js t)) (h2 : PGs X es (Tts X.K ks u)) (hs : (assignEach (e :: es) X.env).map (·.2) = assign e X.env :: (assignEach es X.env).map (·.2) := by rfl) : PGs X (e :: es) (Tts X.K (js ++ ks) (tsCons t u)) := by
  refine pgs_imp (pgs_cons h1 h2 hs) fun vs σ H Q ⟨ρ, F, m, ds, ρ', sl, sub, r, e, k⟩ => ?_
  unfold tsCons at e
  split at e
  · split at e
    · rename_i d r' _ ρ1 e1
      cases r with
      | cons r1 r2 =>
        refine ⟨_, _, rfl, ρ, F, m, d, ρ1, sl, sub, r1, e1, fun σ1 sl1 w1 => ⟨ρ1, F, m, r', ρ', sl1, sub, r2, e, fun σ2 sl2 w2 => k σ2 sl2 fun vs hv => ?_⟩⟩
        rw [w2 vs fun j hj => hv j (List.mem_append_right _ hj), w1 vs fun j hj => hv j (List.mem_append_left _ hj)]
    · cases e
  · cases e
theorem g_tup {kk : Nat} (hc : X.calm = true) (h : PGs X es (Tts X.K js u)) (hlen : ∀ ρ ds ρ', u ρ ds = some ρ' → ds.length = n) (hn : (assignEach es X.env).length = n := by rfl) (hst : (assignEach es X.env).findIdx? (·.1) = none := by rfl) :
    PG X (.Tuple es kk pos) (Tt X.K js (tTup u)) := by
  refine pg_imp (pg_tup hc h hn hst) fun v σ H Q ⟨ρ, F, m, d, ρ', sl, sub, r, e, k⟩ => ?_
  unfold tTup at e
  split at e
  · cases r with
    | tup h1 h2 => exact ⟨_, _, rfl, same_t sub h1, by rw [h2.length]; exact hlen _ _ _ e, ρ, F, m, _, ρ', sl, sub, h2, e, k⟩
  · cases e
end
theorem len_nil {ρ : En} {ds : List D} {ρ' : En} (h : tsNil ρ ds = some ρ') : ds.length = 0 := by
  unfold tsNil at h
  split at h
  · rfl
  · cases h
theorem len_cons {t : Tn} {u : Tns} {n : Nat} (hu : ∀ ρ ds ρ', u ρ ds = some ρ' → ds.length = n) : ∀ ρ ds ρ', tsCons t u ρ ds = some ρ' → ds.length = n + 1 := fun ρ ds ρ' h => by
  unfold tsCons at h
  split at h
  · split at h
    · rw [List.length_cons, hu _ _ _ h]
    · cases h
  · cases h

/-- target = e, any target -/
def sTgt (t : Tn) (f : Dn Out) : Sn := fun ρ S => bnS (stl f ρ S) ρ fun d S1 => match t ρ d with
  | some ρ' => some (.nx ρ' S1)
  | none => none
theorem s_tgt {X : Cx} {W : WX'} {tg e : Expr} {js : List Nat} {t : Tn} {f : Dn Out} {pos : Pos} (he : Pe X W e f) (hg : PG X tg (Tt X.K js t)) (hs : swappedStores [tg] e X.env = pure none := by rfl) (hw : swapsWithSole [tg] e pos.line X.env = pure false := by rfl)
    (ha : (assignEach [tg] X.env).map (·.2) = [assign tg X.env] := by rfl) : Ps X W (.Assign [tg] e pos) (sTgt t f) := by
  refine ps_imp (ps_asg he.d hg hw hs ha) fun Dd σ H z => ?_
  refine ts1 (R1 := RD X.K) (g := fun ρ (d : D) S1 => match t ρ d with
    | some ρ' => some (.nx ρ' S1)
    | none => none) z fun v _ H1 ρ S1 F1 m1 d sl ok r A _ _ => ?_
  match e : t ρ d, A with
  | none, A => exact A.elim
  | some ρ', A => exact ⟨ρ, F1, m1, d, ρ', sl, ok.sub, r, e, fun σ' sl' _ => A σ' H1 F1 m1 (Stp.refl ..) ok sl'⟩

/-! ### for -/
def loopS (t : Tn) (body : Sn) : List D → En → Sto → Option Fl
  | [], ρ, S => some (.nx ρ S)
  | d :: r, ρ, S => match t ρ d with
    | none => none
    | some ρ1 => match body ρ1 S with
      | some (.nx ρ' S') => loopS t body r ρ' S'
      | some (.ct ρ' S') => loopS t body r ρ' S'
      | some (.bk ρ' S') => some (.nx ρ' S')
      | o => o
def sFor (f : Dn (List D)) (t : Tn) (body : Sn) : Sn := fun ρ S => bnS (f ρ S) ρ fun xs S1 => loopS t body xs ρ S1
theorem s_for {X : Cx} {W : WX'} {tg iter : Expr} {js : List Nat} {t : Tn} {f : Dn (List D)} {body : List Stmt} {p : Sn} {pos : Pos} (hp : PassesOwn (model X.prog X.w) X.A X.env X.xe) (hc : X.calm = true) (hi : Pi X W tg iter f)
    (hg : PG X tg (Tt X.K js t)) (hb : Pss X W body p) (hs : ∀ x, foldedSetIterable iter X.env x = pure x := by intro _; rfl) : Ps X W (.For tg iter body [] pos) (sFor f t p) := by
  refine ps_imp (ps_for hp hc hi hg hb hs) fun Dd σ H z => ?_
  refine ts1 (R1 := RW X.K X.mg) (g := fun ρ xs S1 => loopS t p xs ρ S1) z fun J _ H1 ρ S1 F1 m1 xs sl ok wk A _ _ => ?_
  refine ⟨fun i m σ H => ∃ ρ S F mm, SlR X.K F mm σ ρ ∧ SOk X.K X.mg H F mm S ∧ Stp H1 F1 m1 H F mm ∧ m = xs.length - i ∧ i ≤ xs.length ∧ AftS X.K X.mg W H F mm (loopS t p (xs.drop i) ρ S) Dd, ⟨_, ρ, S1, F1, m1, sl, ok, Stp.refl .., rfl, Nat.zero_le _, A⟩, ?_⟩
  rintro i m σ2 H2 ⟨ρ2, S2, F2, m2, sl2, ok2, st2, rfl, hi, A2⟩
  obtain ⟨go, stop⟩ := wk i H2 F2 m2 S2 st2 ok2
  by_cases hlt : i < xs.length
  · obtain ⟨g1, g2⟩ := go hlt
    refine .inr ⟨g1, fun σ' H' => ∃ ρ S F mm, SlR X.K F mm σ' ρ ∧ SOk X.K X.mg H' F mm S ∧ Stp H1 F1 m1 H' F mm ∧ AftS X.K X.mg W H' F mm (loopS t p (xs.drop (i + 1)) ρ S) Dd, fun σ' H' ⟨ρ, S, F, mm, a, b, c, d⟩ => ⟨xs.length - (i + 1), by omega, ρ, S, F, mm, a, b, c, rfl, hlt, d⟩, fun x H3 y => ?_⟩
    obtain ⟨F3, d, hd, st3, ok3, r3⟩ := g2 x H3 y
    rw [List.drop_eq_getElem_cons hlt] at A2
    have hd' : xs[i] = d := by
      rw [List.getElem?_eq_getElem hlt] at hd
      exact Option.some.inj hd
    rw [hd'] at A2
    unfold loopS at A2
    split at A2
    · exact A2.elim
    · rename_i ρ3 e3
      refine ⟨ρ2, F3, m2, d, ρ3, sl2.mono st3.fr (Pre.refl _), ok3.sub, r3, e3, fun σ4 sl4 _ => ⟨ρ3, S2, F3, m2, sl4, ok3, ?_⟩⟩
      match p ρ3 S2, A2 with
      | none, A2 => exact A2
      | some (.nx ρ' S'), A2 => exact fun σ' H' F' m' st k q => ⟨ρ', S', F', m', q, k, (st2.trans st3).trans st, AftS.shift (st3.trans st) A2⟩
      | some (.ct ρ' S'), A2 => exact fun σ' H' F' m' st k q => ⟨ρ', S', F', m', q, k, (st2.trans st3).trans st, AftS.shift (st3.trans st) A2⟩
      | some (.bk ρ' S'), A2 => exact fun σ' H' F' m' st k q => A2 σ' H' F' m' (st3.trans st) k q
      | some (.rt o S'), A2 => exact AftS.shift st3 (r := some (.rt o S')) A2
      | some (.er x ρ' S'), A2 => exact AftS.shift st3 (r := some (.er x ρ' S')) A2
  · have e : i = xs.length := by omega
    subst e
    rw [List.drop_length] at A2
    exact .inl ⟨stop (Nat.le_refl _), A2 σ2 H2 F2 m2 (Stp.refl ..) ok2 sl2⟩

/-! ### comprehensions -/
abbrev W0 : WX' := fun _ _ _ _ => False
def wipeE (ρ : En) : List Nat → En
  | [] => ρ
  | v :: vs => (wipeE ρ vs).set v none
theorem SlR.wipe {K : PySem.W.Frag} {F : Hp} {m : List Addr} {σ : L2.St} {ρ : En} (h : SlR K F m σ ρ) : ∀ vs, SlR K F m (L2.wipe σ vs) (wipeE ρ vs)
  | [] => h
  | v :: vs => by
    have ih := h.wipe vs
    refine ⟨by show ((L2.wipe σ vs).set v none).length = ((wipeE ρ vs).set v none).length; rw [List.length_set, List.length_set, ih.len], fun i d q => ?_⟩
    have q : ((wipeE ρ vs).set v none)[i]? = some (some d) := q
    by_cases hv : v = i
    · subst hv
      rw [List.getElem?_set] at q
      split at q
      · split at q
        · cases q
        · cases q
      · rename_i hn
        exact absurd rfl hn
    · rw [List.getElem?_set_ne hv] at q
      obtain ⟨w, h1, h2⟩ := ih.get i d q
      exact ⟨w, by show ((L2.wipe σ vs).set v none)[i]? = _; rw [List.getElem?_set_ne hv]; exact h1, h2⟩
/-- the elements of a comprehension; k were made before -/
def loopC (t : Tn) (c : Dn Bool) (f : Dn Out) (ρ : En) : List D → Nat → Sto → Option (List D × Sto)
  | [], _, S => some ([], S)
  | d :: r, k, S => match t ρ d with
    | none => none
    | some ρ1 => match c ρ1 S with
      | some (.ok true S1) => match stl f ρ1 S1 with
        | some (.ok y S2) => if k < sizeLine then (loopC t c f ρ r (k + 1) S2).map fun p => (y :: p.1, p.2) else none
        | _ => none
      | some (.ok false S1) => loopC t c f ρ r k S1
      | _ => none
def dComp (g : Dn (List D)) (t : Tn) (c : Dn Bool) (f : Dn Out) (vs : List Nat) : Dn Out := fun ρ S => bnd (g ρ S) fun xs S1 => match loopC t c f (wipeE ρ vs) xs 0 S1 with
  | some (ys, S2) => some (.ok (.own (.lst ys)) S2)
  | none => none
abbrev bYes : Dn Bool := fun _ S => some (.ok true S)
abbrev Pts (X : Cx) (W : WX') (ifs : List Expr) (c : Dn Bool) : Prop := PTs X ifs (Tg X.K X.mg RB W c)
theorem ts_nil {X : Cx} {W : WX'} : Pts X W [] bYes := ⟨fun pins s σ H Q I h => pts_nil.run pins s σ H Q I (by
  obtain ⟨ρ, S, F, m, sl, ok, A⟩ := h
  exact A true H F m (Stp.refl ..) ok rfl)⟩
theorem ts_one {X : Cx} {W : WX'} {e : Expr} {c : Dn Bool} (h : Pt X W e c) : Pts X W [e] c := pts_one h
theorem own_keep {H F H' F' : Hp} {m m' : List Addr} {a : Addr} {o : HO} (st : Stp H F m H' F' m') (h1 : H a = some o) (h2 : F a = none) (h3 : a ∉ m) : H' a = some o ∧ F' a = none ∧ a ∉ m' := by
  refine ⟨st.kp a o h1 h3, ?_, fun z => ?_⟩
  · cases q : F' a with
    | none => rfl
    | some u =>
      rcases st.nw a u q with z | z
      · rw [h2] at z; cases z
      · rw [h1] at z; cases z
  · obtain ⟨l, e, hl⟩ := st.pr
    rw [e] at z
    rcases List.mem_append.mp z with z | z
    · exact h3 z
    · have := hl a z
      rw [h1] at this
      cases this
theorem tg_comp {K : PySem.W.Frag} {mg : Str → Option Value} {W : WX'} {g : Dn (List D)} {t : Tn} {c : Dn Bool} {f : Dn Out} {js vs : List Nat} (hv : ∀ j ∈ js, j ∈ vs) {σ : L2.St} {H : Hp} {Q : VK} (h : Tg K mg (RO K mg) W (dComp g t c f vs) σ H Q) :
    tLc (Tg K mg (RW K mg) W g) (Tt K js t) (Tg K mg RB W0 c) (Tg K mg (RO K mg) W0 f) vs σ H Q := by
  refine tg1 (R2 := RO K mg) (g := fun ρ (xs : List D) S1 => match loopC t c f (wipeE ρ vs) xs 0 S1 with
    | some (ys, S2) => some (.ok (.own (.lst ys)) S2)
    | none => none) sh_O h fun J _ H1 ρ S1 F1 m1 xs sl ok1 wk A => ?_
  intro Da hDa
  obtain ⟨okD, stD⟩ := ok1.new (o := .lst []) hDa
  have fD := ok1.fnone hDa
  have mD := ok1.notin hDa
  -- behind i items: the list holds acc, of ys; what is left gives the rest
  refine ⟨fun i n H => ∃ S F m acc ys r, SOk K mg H F m S ∧ Stp H1 F1 m1 H F m ∧ (H Da = some (.lst acc) ∧ F Da = none ∧ Da ∉ m) ∧ RepL K F m acc ys ∧ n = xs.length - i ∧ i ≤ xs.length ∧
    loopC t c f (wipeE ρ vs) (xs.drop i) ys.length S = some r ∧
    Aft K mg (RO K mg) (fun c d H' => W c d σ H') H1 F1 m1 (some (.ok (.own (.lst (ys ++ r.1))) r.2)) Q, ?_, ?_⟩
  · match e : loopC t c f (wipeE ρ vs) xs 0 S1, A with
    | none, A => exact A.elim
    | some (ys, S2), A => exact ⟨_, S1, F1, m1, [], [], (ys, S2), okD, stD, ⟨upd_same, fD, mD⟩, .nil, rfl, Nat.zero_le _, e, A⟩
  · rintro i n H2 ⟨S2, F2, m2, acc, ys, r, ok2, st2, hacc, racc, rfl, hi, e2, A2⟩
    obtain ⟨go, stop⟩ := wk i H2 F2 m2 S2 st2 ok2
    by_cases hlt : i < xs.length
    · obtain ⟨g1, g2⟩ := go hlt
      refine .inr ⟨g1, fun H => ∃ S F m acc ys r, SOk K mg H F m S ∧ Stp H1 F1 m1 H F m ∧ (H Da = some (.lst acc) ∧ F Da = none ∧ Da ∉ m) ∧ RepL K F m acc ys ∧
        loopC t c f (wipeE ρ vs) (xs.drop (i + 1)) ys.length S = some r ∧ Aft K mg (RO K mg) (fun c d H' => W c d σ H') H1 F1 m1 (some (.ok (.own (.lst (ys ++ r.1))) r.2)) Q,
        fun H' ⟨S, F, m, acc, ys, r, a1, a2, a3, a4, a5, a6⟩ => ⟨xs.length - (i + 1), by omega, S, F, m, acc, ys, r, a1, a2, a3, a4, rfl, hlt, a5, a6⟩, fun x H3 y => ?_⟩
      obtain ⟨F3, d, hd, st3, ok3, r3⟩ := g2 x H3 y
      rw [List.drop_eq_getElem_cons hlt] at e2
      have hd' : xs[i] = d := by
        rw [List.getElem?_eq_getElem hlt] at hd
        exact Option.some.inj hd
      rw [hd'] at e2
      unfold loopC at e2
      split at e2
      · cases e2
      · rename_i ρ4 e4
        have slw := (sl.mono st2.fr st2.pre).wipe vs
        refine ⟨wipeE ρ vs, F3, m2, d, ρ4, slw.mono st3.fr (Pre.refl _), ok3.sub, r3, e4, fun σ4 sl4 w4 => ⟨?_, ?_⟩⟩
        · rw [w4 vs hv]
          have : ∀ (ws us : List Nat) (σ : L2.St), (∀ j ∈ ws, j ∈ us) → L2.wipe (L2.wipe σ ws) us = L2.wipe σ us := fun ws us σ hw => by
            induction ws with
            | nil => rfl
            | cons w ws ih =>
              show L2.wipe ((L2.wipe σ ws).set w none) us = _
              rw [wipe_set us _ w none (hw w List.mem_cons_self)]
              exact ih fun j hj => hw j (List.mem_cons_of_mem _ hj)
          exact this vs vs σ fun _ hj => hj
        · have acc3 := own_keep st3 hacc.1 hacc.2.1 hacc.2.2
          refine ⟨ρ4, S2, F3, m2, sl4, ok3, ?_⟩
          split at e2
          · rename_i S5 e5
            rw [e5]
            intro b H5 F5 m5 st5 ok5 hb
            have hb' : b = true := hb
            subst hb'
            rw [if_pos rfl]
            have acc5 := own_keep st5 acc3.1 acc3.2.1 acc3.2.2
            refine ⟨ρ4, S5, F5, m5, sl4.mono st5.fr st5.pre, ok5, ?_⟩
            unfold stl at e2
            match e6 : f ρ4 S5, e2 with
            | none, e2 => cases e2
            | some (.er x S6), e2 => cases e2
            | some (.ok o S6), e2 =>
              intro v H6 F6 m6 st6 ok6 r6
              obtain ⟨F7, m7, st7, ok7, r7⟩ := settle_ok st6 ok6 r6
              have acc7 := own_keep st7 acc5.1 acc5.2.1 acc5.2.2
              have e2 : (if ys.length < sizeLine then (loopC t c f (wipeE ρ vs) (xs.drop (i + 1)) (ys.length + 1) (settle o S6).2).map (fun p => ((settle o S6).1 :: p.1, p.2)) else none) = some r := e2
              by_cases hk : ys.length < sizeLine
              · rw [if_pos hk] at e2
                cases e8 : loopC t c f (wipeE ρ vs) (xs.drop (i + 1)) (ys.length + 1) (settle o S6).2 with
                | none => rw [e8] at e2; cases e2
                | some r' =>
                  rw [e8] at e2
                  cases e2
                  refine ⟨acc, acc7.1, by rw [racc.length]; exact hk, ?_⟩
                  have st17 : Stp H1 F1 m1 H6 F7 m7 := ((st2.trans st3).trans st5).trans st7
                  have keep : ∀ a u, a ≠ Da → H6 a = some u → upd H6 Da (.lst (acc ++ [v])) a = some u := fun a u h q => by rw [upd_ne h]; exact q
                  refine ⟨(settle o S6).2, F7, m7, acc ++ [v], ys ++ [(settle o S6).1], r', ⟨fun a u q => keep a u (fun z => by rw [z, acc7.2.1] at q; cases q) (ok7.sub a u q), ok7.len, ok7.nd, ok7.off, fun n a u h1 h2 => ?_⟩, ?_, ⟨upd_same, acc7.2.1, acc7.2.2⟩, ?_, ?_, ?_⟩
                  · exact ObR.mono (Same.refl _) (Pre.refl _) (fun u q => keep a u (fun z => acc7.2.2 (z ▸ List.mem_of_getElem? h1)) q) u (ok7.obj n a u h1 h2)
                  · refine ⟨st17.fr, st17.pr, st17.nw, fun a u q hn => keep a u (fun z => by rw [z, hDa] at q; cases q) (st17.kp a u q hn), fun a q => ?_⟩
                    by_cases ha : a = Da
                    · rw [ha, upd_same] at q; cases q
                    · rw [upd_ne ha] at q
                      exact st17.dm a q
                  · exact (RepL.mono (((st3.fr.trans st5.fr)).trans st7.fr) ((st3.pre.trans st5.pre).trans st7.pre) ys racc).append (.cons r7 .nil)
                  · rw [List.length_append, List.length_singleton]
                    exact e8
                  · rw [List.append_assoc]
                    exact A2
              · rw [if_neg hk] at e2
                cases e2
          · rename_i S5 e5
            rw [e5]
            intro b H5 F5 m5 st5 ok5 hb
            have hb' : b = false := hb
            subst hb'
            rw [if_neg (by simp)]
            exact ⟨S5, F5, m5, acc, ys, r, ok5, (st2.trans st3).trans st5, own_keep st5 acc3.1 acc3.2.1 acc3.2.2, RepL.mono (st3.fr.trans st5.fr) (st3.pre.trans st5.pre) ys racc, e2, A2⟩
          · cases e2
    · have e : i = xs.length := by omega
      subst e
      rw [List.drop_length] at e2
      cases e2
      refine .inl ⟨stop (Nat.le_refl _), A2 (.ref Da) H2 F2 m2 st2 ok2 ⟨Da, rfl, hDa, hacc.2.1, hacc.2.2, acc, hacc.1, ?_⟩⟩
      rw [List.append_nil]
      exact racc
theorem Stand.blk {X : Cx} {W : WX'} {k : Nat} (Z : Stand X W k) {s : Shared} {H : Hp} {scope : Scope} {cenv : Env} {fp : List Addr} : Stand (X.blk s H scope cenv fp) W0 k :=
  ⟨Z.room, Z.guard, takes0, Z.calm⟩
section
variable {X : Cx} {W : WX'} {elt tg iter : Expr} {ifs : List Expr} {scope : Scope} {own : List (Str × Nat)} {pos : Pos} {g : Dn (List D)} {t : Tn} {c : Dn Bool} {f : Dn Out} {js : List Nat}
theorem d_comp (hc : X.calm = true) (hN : X.N.Nodup) (hi : Pi X W tg iter g) (ok : BlkOk X.N X.env.scope scope own)
    (hg : ∀ (s : Shared) (H : Hp) (C : Addr) (cl : List (Str × Addr)) (fp : List Addr), PG (X.blk s H scope (compEnvC scope cl C X.env) fp) tg (Tt X.K js t)) (ht : ∀ (s : Shared) (H : Hp) (C : Addr) (cl : List (Str × Addr)) (fp : List Addr), Pts (X.blk s H scope (compEnvC scope cl C X.env) fp) W0 ifs c)
    (he : ∀ (s : Shared) (H : Hp) (C : Addr) (cl : List (Str × Addr)) (fp : List Addr), Pe (X.blk s H scope (compEnvC scope cl C X.env) fp) W0 elt f) (hj : ∀ j ∈ js, j ∈ own.map (·.2)) (hs : ∀ x, foldedSetIterable iter X.env x = pure x := by intro _; rfl) :
    Pe X W (.ListComp elt [⟨tg, iter, ifs, 0⟩] scope pos) (dComp g t c f (own.map (·.2))) :=
  pe_imp (pe_lc hc hN hi ok hg ht he hs) fun _ _ _ q => tg_comp hj q
/-- name = [..]: frozen, or into the store -/
theorem s_comp {i : Nat} {y : Str} {py spos : Pos} (hc : X.calm = true) (hN : X.N.Nodup) (hy : X.N[i]? = some y) (hyl : X.env.scope.names.lookup y = some .local)
    (hsw : swapsWith (.ListComp elt [⟨tg, iter, ifs, 0⟩] scope pos) (some (.Name y py)) spos.line X.env = pure true) (hi : Pi X W tg iter g) (ok : BlkOk X.N X.env.scope scope own)
    (hg : ∀ (s : Shared) (H : Hp) (C : Addr) (cl : List (Str × Addr)) (fp : List Addr), PG (X.blk s H scope (compEnvC scope cl C X.env) fp) tg (Tt X.K js t)) (ht : ∀ (s : Shared) (H : Hp) (C : Addr) (cl : List (Str × Addr)) (fp : List Addr), Pts (X.blk s H scope (compEnvC scope cl C X.env) fp) W0 ifs c)
    (he : ∀ (s : Shared) (H : Hp) (C : Addr) (cl : List (Str × Addr)) (fp : List Addr), Pe (X.blk s H scope (compEnvC scope cl C X.env) fp) W0 elt f) (hj : ∀ j ∈ js, j ∈ own.map (·.2)) (hs : ∀ x, foldedSetIterable iter X.env x = pure x := by intro _; rfl) :
    Ps X W (.Assign [.Name y py] (.ListComp elt [⟨tg, iter, ifs, 0⟩] scope pos) spos) (sAsg i (dComp g t c f (own.map (·.2)))) := by
  refine ps_imp (ps_setLc (i := i) (tt := Tg X.K X.mg RB W0 c) (te := Tg X.K X.mg (RO X.K X.mg) W0 f) hc hN hy hyl hsw hi ok hg ht he hs) fun Dd σ H z => ?_
  have z2 : Tg X.K X.mg (RO X.K X.mg) W (dComp g t c f (own.map (·.2))) σ H fun v H1 => Dd.nx (σ.set i (some v)) H1 := by
    refine tg_stl ?_
    exact ts1 (R1 := RD X.K) (g := fun ρ (d : D) S1 => some (.nx (ρ.set i (some d)) S1)) z fun v _ H1 ρ S1 F1 m1 d sl ok r A _ _ => A _ H1 F1 m1 (Stp.refl ..) ok (sl.put i r)
  exact tg_comp hj z2
theorem s_compB {i : Nat} {y : Str} {py spos : Pos} (hc : X.calm = true) (hN : X.N.Nodup) (hy : X.N[i]? = some y) (hyl : X.env.scope.names.lookup y = some .local)
    (hsw : swapsWith (.ListComp elt [⟨tg, iter, ifs, 0⟩] scope pos) (some (.Name y py)) spos.line X.env = pure true) (hi : Pi X W tg iter g) (ok : BlkOk X.N X.env.scope scope own)
    (hg : ∀ (s : Shared) (H : Hp) (C : Addr) (cl : List (Str × Addr)) (fp : List Addr), PG (X.blk s H scope (compEnvC scope cl C X.env) fp) tg (Tt X.K js t)) (ht : ∀ (s : Shared) (H : Hp) (C : Addr) (cl : List (Str × Addr)) (fp : List Addr), Pts (X.blk s H scope (compEnvC scope cl C X.env) fp) W0 ifs c)
    (he : ∀ (s : Shared) (H : Hp) (C : Addr) (cl : List (Str × Addr)) (fp : List Addr), Pe (X.blk s H scope (compEnvC scope cl C X.env) fp) W0 elt f) (hj : ∀ j ∈ js, j ∈ own.map (·.2)) (hs : ∀ x, foldedSetIterable iter X.env x = pure x := by intro _; rfl) :
    Ps X W (.Assign [.Name y py] (.ListComp elt [⟨tg, iter, ifs, 0⟩] scope pos) spos) (sAsgB i (dComp g t c f (own.map (·.2)))) := by
  refine ps_imp (ps_setLc (i := i) (tt := Tg X.K X.mg RB W0 c) (te := Tg X.K X.mg (RO X.K X.mg) W0 f) hc hN hy hyl hsw hi ok hg ht he hs) fun Dd σ H z => ?_
  have z2 : Tg X.K X.mg (RO X.K X.mg) W (dComp g t c f (own.map (·.2))) σ H fun v H1 => Dd.nx (σ.set i (some v)) H1 := by
    refine tg_bxd ?_
    exact ts1 (R1 := RD X.K) (g := fun ρ (d : D) S1 => some (.nx (ρ.set i (some d)) S1)) z fun v _ H1 ρ S1 F1 m1 d sl ok r A _ _ => A _ H1 F1 m1 (Stp.refl ..) ok (sl.put i r)
  exact tg_comp hj z2
end
end Sf
/-! Sf8: dicts, while, op=, the body of a def, the law's end. -/
namespace Sf
open L2 PySem PySem.Spec PyProof.Rows

/-! ### dicts -/
def keyD : D → Option Key
  | .int i => some (.inl i)
  | .str s => some (.inr s)
  | _ => none
theorem key_ok {K : PySem.W.Frag} {F : Hp} {m : List Addr} {v : V} {d : D} {k : Key} (r : Rep K F m v d) (h : keyD d = some k) : v = kV k := by
  cases r <;> first | (cases h; rfl) | cases h
def getD' (kvs : List (Key × D)) (k : Key) : Option D := (kvs.find? fun kv => decide (kv.1 = k)).map (·.2)
def putD (kvs : List (Key × D)) (k : Key) (d : D) : List (Key × D) :=
  if (kvs.any fun kv => decide (kv.1 = k)) = true then kvs.map (fun kv => if kv.1 = k then (kv.1, d) else kv) else kvs ++ [(k, d)]
section
variable {K : PySem.W.Frag} {F : Hp} {m : List Addr}
abbrev PR (K : PySem.W.Frag) (F : Hp) (m : List Addr) : List (Key × V) → List (Key × D) → Prop := Paired (fun p q => p.1 = q.1 ∧ Rep K F m p.2 q.2)
theorem pr_get : ∀ {ks : List (Key × V)} {ls : List (Key × D)} (k : Key), PR K F m ks ls → (valV ks k = none ∧ getD' ls k = none) ∨ ∃ v d, valV ks k = some v ∧ getD' ls k = some d ∧ Rep K F m v d
  | _, _, k, .nil => .inl ⟨rfl, rfl⟩
  | p :: _, q :: _, k, .cons h t => by
    by_cases e : p.1 = k
    · have e' : q.1 = k := h.1 ▸ e
      refine .inr ⟨p.2, q.2, ?_, ?_, h.2⟩
      · unfold valV
        rw [List.find?_cons_of_pos (by simpa using e)]
        rfl
      · unfold getD'
        rw [List.find?_cons_of_pos (by simpa using e')]
        rfl
    · have e' : ¬ q.1 = k := h.1 ▸ e
      have ih := pr_get k t
      unfold valV getD' at ih ⊢
      rw [List.find?_cons_of_neg (by simpa using e), List.find?_cons_of_neg (by simpa using e')]
      exact ih
theorem pr_any : ∀ {ks : List (Key × V)} {ls : List (Key × D)} (k : Key), PR K F m ks ls → (ks.any fun kv => decide (kv.1 = k)) = ls.any fun kv => decide (kv.1 = k)
  | _, _, k, .nil => rfl
  | p :: _, q :: _, k, .cons h t => by
    rw [List.any_cons, List.any_cons, pr_any k t, h.1]
theorem pr_map {v : V} {d : D} (r : Rep K F m v d) : ∀ {ks : List (Key × V)} {ls : List (Key × D)} (k : Key), PR K F m ks ls → PR K F m (ks.map fun kv => if kv.1 = k then (kv.1, v) else kv) (ls.map fun kv => if kv.1 = k then (kv.1, d) else kv)
  | _, _, k, .nil => .nil
  | p :: _, q :: _, k, .cons h t => by
    refine .cons ?_ (pr_map r k t)
    show (if p.1 = k then (p.1, v) else p).1 = (if q.1 = k then (q.1, d) else q).1 ∧ Rep K F m (if p.1 = k then (p.1, v) else p).2 (if q.1 = k then (q.1, d) else q).2
    by_cases e : p.1 = k
    · have e' : q.1 = k := h.1 ▸ e
      rw [if_pos e, if_pos e']
      exact ⟨h.1, r⟩
    · have e' : ¬ q.1 = k := h.1 ▸ e
      rw [if_neg e, if_neg e']
      exact h
theorem pr_app : ∀ {ks : List (Key × V)} {ls : List (Key × D)} {ks' : List (Key × V)} {ls' : List (Key × D)}, PR K F m ks ls → PR K F m ks' ls' → PR K F m (ks ++ ks') (ls ++ ls')
  | _, _, _, _, .nil, h => h
  | _, _, _, _, .cons a t, h => .cons a (pr_app t h)
theorem pr_put {ks : List (Key × V)} {ls : List (Key × D)} {v : V} {d : D} (k : Key) (h : PR K F m ks ls) (r : Rep K F m v d) : PR K F m (putK ks k v) (putD ls k d) := by
  unfold putK putD
  rw [pr_any k h]
  split
  · exact pr_map r k h
  · exact pr_app h (.cons ⟨rfl, r⟩ .nil)
theorem pr_length {ks : List (Key × V)} {ls : List (Key × D)} (h : PR K F m ks ls) : ks.length = ls.length := Paired.length h
end
/-- the dict that is seen -/
def viewD (S : Sto) : D → Option (List (Key × D))
  | .emp => some []
  | .ref n => match S[n]? with
    | some (.dct kvs) => some kvs
    | _ => none
  | _ => none
theorem viewD_ok {K : PySem.W.Frag} {mg : Str → Option Value} {H F : Hp} {m : List Addr} {S : Sto} (ok : SOk K mg H F m S) {v : V} {d : D} {ls : List (Key × D)} (r : Rep K F m v d) (h : viewD S d = some ls) : ∃ a ks, v = .ref a ∧ H a = some (.dK ks) ∧ PR K F m ks ls := by
  cases r with
  | emp h1 =>
    cases h
    exact ⟨_, [], rfl, ok.sub _ _ h1, .nil⟩
  | @ref a n h1 =>
    simp only [viewD] at h
    cases e : S[n]? with
    | none => rw [e] at h; cases h
    | some o =>
      rw [e] at h
      cases o with
      | dct kvs =>
        cases h
        obtain ⟨ks, h2, h3⟩ := ok.at h1 e
        exact ⟨_, ks, rfl, h2, h3⟩
      | _ => cases h
  | _ => cases h
/-- d[k] -/
def dgD : O2 := fun S a b => match viewD S a, keyD b with
  | some kvs, some k => (getD' kvs k).map .val
  | _, _ => none
theorem op_dgD {X : Cx} (hu : X.A.units + 1 < cLine) : IxR X (rOf X.K X.mg dgD) := by
  intro value slice pins s σ H x y v u Q I rx ry ⟨S, F, m, a, b, w, ok, ra, rb, e, q⟩ hs
  unfold dgD at e
  split at e
  · rename_i kvs k e1 e2
    obtain ⟨p, ks, rfl, h1, h2⟩ := viewD_ok ok ra e1
    have := key_ok rb e2
    subst this
    rcases pr_get k h2 with ⟨_, h3⟩ | ⟨v', d, h3, h4, h5⟩
    · rw [h3] at e; cases e
    · rw [h4] at e
      cases e
      cases rx
      have g : DGet H p (kV k) (some v') := by rw [← h3]; exact DGet.k h1
      exact tail_any (dict_typeIs I g) PySem.F.slot_dict_getitem.lookup (d_getItem hu I g ry fun w' s' I' rw' => ⟨v', H, I', rw', rof_val ok q h5⟩) hs
  · cases e
theorem d_dg {X : Cx} {W : WX'} {a b : Expr} {f g : Dn Out} {pos : Pos} (hu : X.A.units + 1 < cLine) (ha : Pe X W a f) (hb : Pe X W b g) (hs : PlainIx b := by exact fun _ _ => rfl) : Pe X W (.Subscript a b pos) (d2 dgD f g) :=
  pe_imp (pe_ix (op_dgD hu) ha.d hb.d hs) fun _ _ _ q => tg_2 q
/-- k in d -/
def dinB (S : Sto) (a b : D) : Option Bool := match viewD S b, keyD a with
  | some kvs, some k => some (getD' kvs k).isSome
  | _, _ => none
def dinD : O2 := fun S a b => (dinB S a b).map fun c => .val (.bl c)
def dnotinD : O2 := fun S a b => (dinB S a b).map fun c => .val (.bl (!c))
theorem dinB_ok {K : PySem.W.Frag} {mg : Str → Option Value} {H F : Hp} {m : List Addr} {S : Sto} (ok : SOk K mg H F m S) {x y : V} {a b : D} {c : Bool} (ra : Rep K F m x a) (rb : Rep K F m y b) (h : dinB S a b = some c) :
    ∃ p o, y = .ref p ∧ DGet H p x o ∧ o.isSome = c := by
  unfold dinB at h
  split at h
  · rename_i kvs k e1 e2
    cases h
    obtain ⟨p, ks, rfl, h1, h2⟩ := viewD_ok ok rb e1
    have := key_ok ra e2
    subst this
    refine ⟨p, _, rfl, DGet.k h1, ?_⟩
    rcases pr_get k h2 with ⟨h3, h4⟩ | ⟨v', d, h3, h4, h5⟩
    · rw [h3, h4]
      rfl
    · rw [h3, h4]
      rfl
  · cases h
section
variable {X : Cx}
theorem op_dinD (hu : X.A.units + 1 < cLine) : OpR X (compareOp .In) (rOf X.K X.mg dinD) := by
  refine opB_of fun pins s σ H F m S x y v u a b r Q I rx ry ok ra rb e => ?_
  unfold dinD at e
  cases e1 : dinB S a b with
  | none => rw [e1] at e; cases e
  | some c =>
    rw [e1] at e
    cases e
    refine ⟨c, rfl, fun q => ?_⟩
    obtain ⟨p, o, rfl, g, hc⟩ := dinB_ok ok ra rb e1
    cases ry
    exact d_in hu I g rx fun s' I' => ⟨.bl c, H, I', by rw [hc]; rfl, q⟩
theorem op_dnotinD (hu : X.A.units + 1 < cLine) : OpR X (compareOp .NotIn) (rOf X.K X.mg dnotinD) := by
  refine opB_of fun pins s σ H F m S x y v u a b r Q I rx ry ok ra rb e => ?_
  unfold dnotinD at e
  cases e1 : dinB S a b with
  | none => rw [e1] at e; cases e
  | some c =>
    rw [e1] at e
    cases e
    refine ⟨!c, rfl, fun q => ?_⟩
    obtain ⟨p, o, rfl, g, hc⟩ := dinB_ok ok ra rb e1
    cases ry
    exact d_notIn hu I g rx fun s' I' => ⟨.bl (!c), H, I', by rw [hc]; rfl, q⟩
end
/-- d[k] = e -/
def dputS (S : Sto) (a b d : D) : Option Sto := match a, keyD b with
  | .ref n, some k => match S[n]? with
    | some (.dct kvs) => if kvs.length < sizeLine then some (S.set n (.dct (putD kvs k d))) else none
    | _ => none
  | _, _ => none
def sDput (f g h : Dn Out) : Sn := fun ρ S => bnS (stl h ρ S) ρ fun d S1 => bnS (stl f ρ S1) ρ fun a S2 => bnS (stl g ρ S2) ρ fun b S3 => match dputS S3 a b d with
  | some S4 => some (.nx ρ S4)
  | none => none
theorem tsc {K : PySem.W.Frag} {mg : Str → Option Value} {α β : Type} {R1 : Rel α β} {W : WX'} {σ : L2.St} {H : Hp} {f : Dn α} {g : En → α → Sto → Option Fl} {Dd : Ends} {Q' : β → Hp → Prop} (C : Hp → List Addr → Prop)
    (mono : ∀ F m F' m', Same F F' → Pre m m' → C F m → C F' m')
    (h : ∃ ρ S F m, C F m ∧ SlR K F m σ ρ ∧ SOk K mg H F m S ∧ AftS K mg W H F m (bnS (f ρ S) ρ (g ρ)) Dd)
    (k : ∀ x H0 H1 ρ S1 F1 m1 a, C F1 m1 → SlR K F1 m1 σ ρ → SOk K mg H1 F1 m1 S1 → R1 H0 H1 F1 m1 x a → AftS K mg W H1 F1 m1 (g ρ a S1) Dd → Q' x H1) : Tg K mg R1 W f σ H Q' := by
  obtain ⟨ρ, S, F, m, hC, sl, ok, A⟩ := h
  refine ⟨ρ, S, F, m, sl, ok, ?_⟩
  match f ρ S, A with
  | none, A => exact A
  | some (.ok a S'), A =>
    intro x H1 F1 m1 st ok1 r1
    exact k x H H1 ρ S' F1 m1 a (mono _ _ _ _ st.fr st.pre hC) (sl.mono st.fr st.pre) ok1 r1 (AftS.shift st A)
  | some (.er x S'), A => exact fun c d H' F' m' st k q => A c d σ H' F' m' st k (sl.mono st.fr st.pre) q
theorem s_dput {X : Cx} {W : WX'} {o i value : Expr} {f g h : Dn Out} {pos pos' : Pos} (hu : X.A.units + 1 < cLine) (ho : Pe X W o f) (hi : Pe X W i g) (hv : Pe X W value h) (hs : swapsWith value (some (.Subscript o i pos')) pos.line X.env = pure false := by rfl) :
    Ps X W (.Assign [.Subscript o i pos'] value pos) (sDput f g h) := by
  refine ps_imp (ps_dput hu ho.d hi.d hv.d hs) fun Dd σ H z => ?_
  obtain ⟨ρ0, S0, F0, m0, sl0, ok0, A0⟩ := z
  refine tsc (R1 := RD X.K) (g := fun ρ d S1 => bnS (stl f ρ S1) ρ fun a S2 => bnS (stl g ρ S2) ρ fun b S3 => match dputS S3 a b d with
    | some S4 => some (.nx ρ S4)
    | none => none) (fun _ _ => True) (fun _ _ _ _ _ _ h => h) ⟨ρ0, S0, F0, m0, trivial, sl0, ok0, A0⟩ fun v _ H1 ρ1 S1 F1 m1 d _ sl1 ok1 rv A1 => ?_
  refine tsc (R1 := RD X.K) (g := fun ρ a S2 => bnS (stl g ρ S2) ρ fun b S3 => match dputS S3 a b d with
    | some S4 => some (.nx ρ S4)
    | none => none) (fun F m => Rep X.K F m v d) (fun F m F' m' e p r => Rep.mono e p d r) ⟨ρ1, S1, F1, m1, rv, sl1, ok1, A1⟩ fun x _ H2 ρ2 S2 F2 m2 a rv sl2 ok2 rx A2 => ?_
  refine tsc (R1 := RD X.K) (g := fun ρ b S3 => match dputS S3 a b d with
    | some S4 => some (.nx ρ S4)
    | none => none) (fun F m => Rep X.K F m v d ∧ Rep X.K F m x a) (fun F m F' m' e p r => ⟨Rep.mono e p d r.1, Rep.mono e p a r.2⟩) ⟨ρ2, S2, F2, m2, ⟨rv, rx⟩, sl2, ok2, A2⟩ fun y _ H3 ρ3 S3 F3 m3 b rr sl3 ok3 ry A3 => ?_
  match e : dputS S3 a b d, A3 with
  | none, A3 => exact A3.elim
  | some S4, A3 =>
    unfold dputS at e
    split at e
    · rename_i n k e1
      split at e
      · rename_i kvs e2
        split at e
        · rename_i hl
          cases e
          have := key_ok ry e1
          subst this
          cases rr.2 with
          | @ref p n h1 =>
            obtain ⟨ks, h2, h3⟩ := ok3.at h1 e2
            obtain ⟨k4, st4⟩ := ok3.put (u := .dK (putK ks k v)) (ob := .dct (putD kvs k d)) h1 ⟨_, upd_same, pr_put k h3 rr.1⟩
            exact ⟨p, _, rfl, DPut.k h2 (by rw [pr_length h3]; exact hl), A3 σ _ _ _ st4 k4 sl3⟩
        · cases e
      · cases e
    · cases e
/-- {"a": e, ..}, unlike text keys -/
def vals : List (Dn Out) → Dn (List D)
  | [] => aNil
  | f :: r => aCons f (vals r)
def dDisp (l : List (Str × Dn Out)) : Dn Out := fun ρ S => bnd (vals (l.map (·.2)) ρ S) fun ds S1 => some (.ok (.own (.dct ((l.map fun p => (Sum.inr p.1 : Key)).zip ds))) S1)
theorem pairs_ok {K : PySem.W.Frag} {mg : Str → Option Value} {W : WX'} {σ : L2.St} {p : Addr} {o : HO} : ∀ (l : List (Str × Dn Out)) {H : Hp} {Q : List (V × V) → Hp → Prop} {ρ : En} {S : Sto} {F : Hp} {m : List Addr}, SlR K F m σ ρ → SOk K mg H F m S →
    (H p = some o ∧ F p = none ∧ p ∉ m) →
    (match vals (l.map (·.2)) ρ S with
      | none => False
      | some (.er x S') => ∀ c d H' F' m', Stp H F m H' F' m' → SOk K mg H' F' m' S' → XnR K mg H' F' m' c d x → W c d σ H'
      | some (.ok ds S') => ∀ vs H' F' m', Stp H F m H' F' m' → SOk K mg H' F' m' S' → RepL K F' m' vs ds → (H' p = some o ∧ F' p = none ∧ p ∉ m') → Q ((l.map fun q => V.str q.1).zip vs) H') →
    tPairs (l.map fun q => (tC (.str q.1), Tg K mg (RD K) W (stl q.2))) σ H Q
  | [], H, Q, ρ, S, F, m, sl, ok, hp, h => h [] H F m (Stp.refl ..) ok .nil hp
  | (k, f) :: l, H, Q, ρ, S, F, m, sl, ok, hp, h => by
    show Tg K mg (RD K) W (stl f) σ H fun y H2 => tPairs _ σ H2 fun ps H3 => Q ((V.str k, y) :: ps) H3
    refine ⟨ρ, S, F, m, sl, ok, ?_⟩
    have h : match bnd (stl f ρ S) fun d S1 => bnd (vals (l.map (·.2)) ρ S1) fun ds S2 => some (.ok (d :: ds) S2) with
      | none => False
      | some (.er x S') => ∀ c d H' F' m', Stp H F m H' F' m' → SOk K mg H' F' m' S' → XnR K mg H' F' m' c d x → W c d σ H'
      | some (.ok ds S') => ∀ vs H' F' m', Stp H F m H' F' m' → SOk K mg H' F' m' S' → RepL K F' m' vs ds → (H' p = some o ∧ F' p = none ∧ p ∉ m') → Q ((V.str k :: l.map fun q => V.str q.1).zip vs) H' := h
    match stl f ρ S, h with
    | none, h => exact h
    | some (.er x S'), h => exact h
    | some (.ok d S'), h =>
      intro y H1 F1 m1 st ok1 ry
      refine pairs_ok l (sl.mono st.fr st.pre) ok1 (own_keep st hp.1 hp.2.1 hp.2.2) ?_
      have h : match bnd (vals (l.map (·.2)) ρ S') fun ds S2 => some (Rz.ok (d :: ds) S2) with
        | none => False
        | some (.er x S') => ∀ c d H' F' m', Stp H F m H' F' m' → SOk K mg H' F' m' S' → XnR K mg H' F' m' c d x → W c d σ H'
        | some (.ok ds S') => ∀ vs H' F' m', Stp H F m H' F' m' → SOk K mg H' F' m' S' → RepL K F' m' vs ds → (H' p = some o ∧ F' p = none ∧ p ∉ m') → Q ((V.str k :: l.map fun q => V.str q.1).zip vs) H' := h
      generalize vals (l.map (·.2)) ρ S' = rv at h ⊢
      match rv, h with
      | none, h => exact h
      | some (.er x S2), h => exact fun c d H' F' m' s k q => h c d H' F' m' (st.trans s) k q
      | some (.ok ds S2), h => exact fun vs H' F' m' s k q hp' => h (y :: vs) H' F' m' (st.trans s) k (.cons (Rep.mono s.fr s.pre d ry) q) hp'
theorem merge_new : ∀ (kvs acc : List (Key × V)), (kvs.map (·.1)).Nodup → (∀ p ∈ kvs, ∀ q ∈ acc, q.1 ≠ p.1) → mergeK acc kvs = acc ++ kvs
  | [], acc, _, _ => by simp [mergeK]
  | p :: r, acc, nd, hn => by
    have e : putK acc p.1 p.2 = acc ++ [p] := by
      unfold putK
      have : (acc.any fun kv => decide (kv.1 = p.1)) = false := by
        rw [List.any_eq_false]
        intro q hq
        simpa using hn p List.mem_cons_self q hq
      rw [this]
      rfl
    show mergeK (putK acc p.1 p.2) r = _
    rw [e]
    rw [List.map_cons, List.nodup_cons] at nd
    rw [merge_new r (acc ++ [p]) nd.2 fun q hq z hz => ?_, List.append_assoc]
    · rfl
    · rcases List.mem_append.mp hz with hz | hz
      · exact hn q (List.mem_cons_of_mem _ hq) z hz
      · rw [List.mem_singleton.mp hz]
        exact fun e => nd.1 (e ▸ List.mem_map_of_mem hq)
theorem pr_zip {K : PySem.W.Frag} {F : Hp} {m : List Addr} : ∀ (ks : List Key) {vs : List V} {ds : List D}, RepL K F m vs ds → PR K F m (ks.zip vs) (ks.zip ds)
  | [], _, _, _ => .nil
  | k :: ks, _, _, .nil => .nil
  | k :: ks, _, _, .cons h t => .cons ⟨rfl, h⟩ (pr_zip ks t)
theorem d_disp {X : Cx} {W : WX'} {pos : Pos} {keys : List (Option Expr)} {values : List Expr} (l : List (Str × Dn Out)) (h : PPs X pos keys values (l.map fun q => (tC (.str q.1), Tg X.K X.mg (RD X.K) W (stl q.2)))) (hall : keys.all (·.isSome) = true) (hl : keys.length = values.length) (h0 : keys ≠ [])
    (h15 : keys.length ≤ 15) (hll : l.length ≤ 15) (nd : (l.map fun p => (Sum.inr p.1 : Key)).Nodup) : Pe X W (.Dict keys values pos) (dDisp l) := by
  refine pe_imp (pe_disp h hall hl h0 h15) fun σ H Q q => ?_
  obtain ⟨ρ, S, F, m, sl, ok, A⟩ := q
  intro p hp
  obtain ⟨okD, stD⟩ := ok.new (o := .dK []) hp
  refine pairs_ok (o := .dK []) l sl okD ⟨upd_same, ok.fnone hp, ok.notin hp⟩ ?_
  unfold dDisp at A
  generalize vals (l.map (·.2)) ρ S = rv at A ⊢
  match rv, A with
  | none, A => exact A
  | some (.er x S'), A => exact fun c d H' F' m' s k q => A c d H' F' m' (stD.trans s) k q
  | some (.ok ds S'), A =>
    intro vs H2 F2 m2 st2 ok2 rvs hp2
    have ez : ∀ (l : List (Str × Dn Out)) (vs : List V), (l.map fun q => V.str q.1).zip vs = ((l.map fun p => (Sum.inr p.1 : Key)).zip vs).map fun kv => (kV kv.1, kv.2) := fun l => by
      induction l with
      | nil => intro vs; rfl
      | cons a l ih =>
        intro vs
        cases vs with
        | nil => rfl
        | cons v vs =>
          exact congrArg (List.cons (V.str a.1, v)) (ih vs)
    refine ⟨hp2.1, _, ez l vs, ?_, ?_⟩
    · rw [List.length_zip, List.length_map]
      omega
    · have nd' : (((l.map fun p => (Sum.inr p.1 : Key)).zip vs).map (·.1)).Nodup := by
        have : ∀ (ks : List Key) (vs : List V), (ks.zip vs).map (·.1) = ks.take vs.length := fun ks => by
          induction ks with
          | nil => intro vs; simp
          | cons a ks ih =>
            intro vs
            cases vs with
            | nil => rfl
            | cons v vs => simp [ih]
        rw [this]
        exact nd.sublist (List.take_sublist _ _)
      rw [merge_new _ [] nd' (fun _ _ q hq => absurd hq (by simp)), List.nil_append]
      have keep : ∀ a u, a ≠ p → H2 a = some u → upd H2 p (.dK ((l.map fun p => (Sum.inr p.1 : Key)).zip vs)) a = some u := fun a u h q => by rw [upd_ne h]; exact q
      have st : Stp H F m H2 F2 m2 := stD.trans st2
      refine A (.ref p) _ F2 m2 ⟨st.fr, st.pr, st.nw, fun a u q hn => keep a u (fun z => by rw [z, hp] at q; cases q) (st.kp a u q hn), fun a q => ?_⟩
        ⟨fun a u q => keep a u (fun z => by rw [z, hp2.2.1] at q; cases q) (ok2.sub a u q), ok2.len, ok2.nd, ok2.off, fun n a u h1 h2 => ObR.mono (Same.refl _) (Pre.refl _) (fun u q => keep a u (fun z => hp2.2.2 (z ▸ List.mem_of_getElem? h1)) q) u (ok2.obj n a u h1 h2)⟩
        ⟨p, rfl, hp, hp2.2.1, hp2.2.2, _, upd_same, pr_zip _ rvs⟩
      by_cases ha : a = p
      · rw [ha]; exact hp
      · rw [upd_ne ha] at q
        exact st.dm a q
theorem d_dnew {X : Cx} {W : WX'} {pos : Pos} : Pe X W (.Dict [] [] pos) (fun _ S => some (.ok (.own (.dct [])) S)) := by
  refine pe_imp pe_dnewK fun σ H Q q => ?_
  obtain ⟨ρ, S, F, m, sl, ok, A⟩ := q
  intro p hp
  obtain ⟨k, st⟩ := ok.new (o := .dK []) hp
  exact A (.ref p) _ _ _ st k ⟨p, rfl, hp, ok.fnone hp, ok.notin hp, [], upd_same, .nil⟩
end Sf
/-! Sf9: a def keeps its denotation; the law's end. -/
namespace Sf
open L2 PySem PySem.Spec PyProof.Rows

def startE (n : Nat) (ds : List D) : En := ds.map some ++ List.replicate (n - ds.length) none
/-- what a body computes -/
def defD (n : Nat) (f : Sn) : MD := fun ds S => match f (startE n ds) S with
  | some (.nx _ S') => some (.ok (.val .non) S')
  | some (.rt o S') => some (.ok o S')
  | some (.er x _ S') => some (.er x S')
  | _ => none
theorem slr_start {K : PySem.W.Frag} {F : Hp} {m : List Addr} {N : List Str} {vs : List V} {ds : List D} (r : RepL K F m vs ds) : SlR K F m (L2.start N vs) (startE N.length ds) := by
  refine ⟨by unfold L2.start startE; rw [List.length_append, List.length_append, List.length_map, List.length_map, List.length_replicate, List.length_replicate, r.length], fun i d q => ?_⟩
  unfold startE at q
  by_cases hi : i < ds.length
  · rw [List.getElem?_append_left (by rw [List.length_map]; exact hi), List.getElem?_map] at q
    cases e : ds[i]? with
    | none => rw [e] at q; cases q
    | some d' =>
      rw [e] at q
      cases q
      obtain ⟨v, h1, h2⟩ := r.get e
      refine ⟨v, ?_, h2⟩
      unfold L2.start
      rw [List.getElem?_append_left (by rw [List.length_map, r.length]; exact hi), List.getElem?_map, h1]
      rfl
  · rw [List.getElem?_append_right (by rw [List.length_map]; omega), List.getElem?_replicate] at q
    split at q <;> cases q

abbrev bodyW (E : XK) : WX' := fun c d _ H' => E c d H'
theorem fn_g {P : Program} {w : World} {K : PySem.W.Frag} {mg : Str → Option Value} {base : Heap} {x qual : Str} {st : Stmt} {f : Addr} {fd : FuncData} {N ps : List Str} {k : Nat} {g : Sn} (F : L2.Fun K x qual st f fd) (S : FnScope N ps (L2.defScope st))
    (hbody : ∀ (cdv : Value) (A : Around) (outer : List Env) (s : Shared) (H : Hp) (E : XK), Stand (cxOf (L2.CX P w) P w K mg base N qual (L2.defScope st) f cdv A outer s H E) (bodyW E) k →
      Pss (cxOf (L2.CX P w) P w K mg base N qual (L2.defScope st) f cdv A outer s H E) (bodyW E) (L2.defBody st) g) : FnG P w K mg base (k + 1) f fd ps (defD N.length g) := by
  obtain ⟨oc, od, kV, doc, pm, an, cdv, ct, osl, rfl, look, code⟩ := F.ex
  refine ⟨fun A outer s H args us vs Q E room guard e0 bind rel ⟨len, ds, S0, F0, m0, rp, ok, aft⟩ => ?_⟩
  have inH : K.In s.heap := e0.mod.kin.keeps fun b o z => (e0.bs b o z).1
  have noLim : s.heap.NoLimit := e0.mod.nolimit.keeps fun b o z => (e0.bs b o z).1
  have kinds : ∀ y ∈ ps.zip us, (L2.defScope st).names.lookup y.1 = some .local ∨ ((L2.defScope st).names.lookup y.1 = some .cell ∧ ((cellsFrom (s.heap.objs.size + 1) (L2.defScope st).names []).lookup y.1).isSome = true) := fun y hy => by
    obtain ⟨n, v⟩ := y
    rcases S.par n (List.of_mem_zip hy).1 with z | z
    · exact .inl z
    · exact .inr ⟨z, PySem.W.cellsFrom_some _ _ _ (.inl z)⟩
  refine codeAny_call_function room.depth (inH _ _ look) rfl S.co S.gen rfl (PySem.W.codeRec_of inH code) (bind _ _ _ _ ?_)
  refine wpAny_newFunctionEnv_cells S.kind kinds fun env henv s1 inC => ?_
  subst henv
  refine ⟨noLim.keeps inC.toInCall.keep, codeAny_func ?_⟩
  have Z : Stand (cxOf (L2.CX P w) P w K mg base N qual (L2.defScope st) f cdv A outer s H E) (bodyW E) k := ⟨room.deeper _, guard, L2.takes_of rfl rfl rfl rfl, rfl⟩
  have I := inv_start (CX := L2.CX P w) (E := E) S room.hd e0 len rel inC
  have body := (hbody cdv A outer s H E Z).run [] s1 (L2.start N vs) H { nx := fun _ H' => Q .non H', rt := Q } I
  have wish : Ts K mg (bodyW E) g { nx := fun _ H' => Q .non H', rt := Q } (L2.start N vs) H := by
    refine ⟨startE N.length ds, S0, F0, m0, slr_start rp, ok, ?_⟩
    unfold defD at aft
    match g (startE N.length ds) S0, aft with
    | none, aft => exact aft
    | some (.nx ρ' S'), aft => exact fun σ' H' F' m' st k q => aft .non H' F' m' st k .non
    | some (.rt o S'), aft => exact fun v H' F' m' st k q => aft v H' F' m' st k q
    | some (.bk ρ' S'), aft => exact aft.elim
    | some (.ct ρ' S'), aft => exact aft.elim
    | some (.er x ρ' S'), aft => exact fun c d σ' H' F' m' st k _ q => aft c d H' F' m' st k q
  refine wpAny_mono (body wish) (fun fl s' ends => ?_) fun e s' z => z
  match fl, ends with
  | .ret u, ⟨v, σ', H', J, rv, q⟩ => exact ⟨v, H', J.os, J.bare, J.base, J.hok, rv, q⟩
  | .next, ⟨σ', H', J, q⟩ => exact ⟨V.non, H', J.os, J.bare, J.base, J.hok, rfl, q⟩
  | .brk, ⟨_, _, _, q⟩ => exact q.elim
  | .cont, ⟨_, _, _, q⟩ => exact q.elim

/-- a def that may be called by its name -/
structure Cl (P : Program) (w : World) (K : PySem.W.Frag) (mg : Str → Option Value) (base : Heap) (k : Nat) (x : Str) (n : Nat) (m : MD) : Prop where
  ex : ∃ (f : Addr) (fd : FuncData) (ps : List Str), FnG P w K mg base k f fd ps m ∧ ps.length = n ∧ mg x = some (.ref f) ∧ PySem.W.keepIn K (.ref f) = true ∧ Binds K fd ps []
/-- what stands of a def behind the top -/
structure Dk (K : PySem.W.Frag) (mg : Str → Option Value) (x : Str) (st : Stmt) (ps : List Str) : Prop where
  ex : ∃ (f : Addr) (fd : FuncData), L2.Fun K x x st f fd ∧ mg x = some (.ref f) ∧ Binds K fd ps []
section
variable {P : Program} {w : World} {K : PySem.W.Frag} {mg : Str → Option Value} {base : Heap} {k j : Nat} {x : Str} {st : Stmt} {ps N : List Str} {g : Sn} {n : Nat} {m : MD}
theorem Cl.up (c : Cl P w K mg base k x n m) (h : k ≤ j) : Cl P w K mg base j x n m :=
  let ⟨f, fd, ps, G, r⟩ := c.ex
  ⟨f, fd, ps, G.up h, r⟩
/-- no fuel left -/
theorem cl_bot (d : Dk K mg x st ps) : Cl P w K mg base k x ps.length (fun _ _ => none) := by
  obtain ⟨f, fd, F, hm, hb⟩ := d.ex
  exact ⟨f, fd, ps, ⟨fun _ _ _ _ _ _ _ _ _ _ _ _ _ _ ⟨_, _, _, _, _, _, _, z⟩ => z.elim⟩, rfl, hm, F.kp, hb⟩
theorem cl_of (d : Dk K mg x st ps) (S : FnScope N ps (L2.defScope st))
    (hbody : ∀ (f : Addr) (cdv : Value) (A : Around) (outer : List Env) (s : Shared) (H : Hp) (E : XK), Stand (cxOf (L2.CX P w) P w K mg base N x (L2.defScope st) f cdv A outer s H E) (bodyW E) k →
      Pss (cxOf (L2.CX P w) P w K mg base N x (L2.defScope st) f cdv A outer s H E) (bodyW E) (L2.defBody st) g) : Cl P w K mg base (k + 1) x ps.length (defD N.length g) := by
  obtain ⟨f, fd, F, hm, hb⟩ := d.ex
  exact ⟨f, fd, ps, fn_g F S fun cdv A outer s H E Z => hbody f cdv A outer s H E Z, rfl, hm, F.kp, hb⟩
end
section
variable {X : Cx} {W : WX'} {x : Str} {e : Expr} {es : List Expr} {g : Dn (List D)} {p pos : Pos} {k j n : Nat} {m : MD}
theorem d_c (c : Cl X.prog X.w X.K X.mg X.base k x n m) (Z : Stand X W j) (hj : k ≤ j) (hg : Gl X x) (ha : Pa X W (e :: es) g)
    (hdb : (x == ("__debug__" : Str)) = false := by decide) (he : starEach (e :: es) X.env = (false, eval e X.env) :: starEach es X.env := by rfl) (hpl : (backTo pos (starEach es X.env)).any (·.1) = false := by rfl) :
    Pe X W (.Call (.Name x p) (e :: es) [] pos) (dFn n m g) := by
  obtain ⟨f, fd, ps, G, rfl, hm, hk, hb⟩ := c.ex
  exact d_fn G Z hg hm hk hb ha hj hdb he hpl
theorem d_c0 (c : Cl X.prog X.w X.K X.mg X.base k x n m) (Z : Stand X W j) (hj : k ≤ j) (hg : Gl X x) (hdb : (x == ("__debug__" : Str)) = false := by decide) :
    Pe X W (.Call (.Name x p) [] [] pos) (dFn n m aNil) := by
  obtain ⟨f, fd, ps, G, rfl, hm, hk, hb⟩ := c.ex
  exact d_fn0 G Z hg hm hk hb hj hdb
end

/-- what stands at sys.modules is a dict -/
def SysB (base : Heap) : Prop := ∃ o es ep, base.get? sysModules = some o ∧ o.data = .dict es ep
theorem repl_ints {K : PySem.W.Frag} {F : Hp} {m : List Addr} : ∀ ns : List Int, RepL K F m (ns.map V.int) (ns.map D.int)
  | [] => .nil
  | n :: ns => .cons (.int n) (repl_ints ns)
/-- a law's promise over this layer, from its denotation -/
theorem law_g {P : Program} {w : World} {K : PySem.W.Frag} {mg mb : Str → Option Value} {k : Nat} {fa a : Addr} {x : Str} {m : MD} {s1 : Shared} {vs : List Value} {ns : List Int}
    (inK : K.In s1.heap) (glob : s1.heap.Ns mainGlobals mg) (blt : s1.heap.Ns builtinsNs mb) (boot : ∀ y : Str, y ≠ "__name__" → mb y = bootBuiltins y) (noLim : s1.heap.NoLimit) (noGen : s1.gens = #[])
    (obj : s1.heap.get? a = some { cls := .type "list", data := .seq vs.toArray }) (hIn : IntsAre vs ns) (short : ns.length ≤ sizeLine) (room : Room k callerA)
    (sys : SysB s1.heap) (G : ∀ base : Heap, K.In base → base.Ns mainGlobals mg → SysB base → Cl P w K mg base k x 1 m) (hmg : mg x = some (.ref fa))
    (ans : ∃ S', m [.fls (ns.map .int)] [] = some (.ok (.val (.bl true)) S')) :
    codeAny (model P w) callerA (.call (.ref fa) ⟨[.ref a], []⟩) (fun r s' => r = .ok (.ret (.bool true)) ∧ OldK s1.heap s'.heap ∧ s'.os = s1.os ∧ AllBare s'.gens) s1 := by
  have rv := vals_ints hIn
  have lenV := hIn.length
  have main : ∀ H : Hp, (∀ b, H b = none ∨ ∃ o xs, H b = some (.frz o (.lst xs))) → SqL K H a (ns.map V.int) → HOk P w H s1.heap → (∀ b, H b ≠ none → b = a) → (H a ≠ none → K.lookup a = none) →
      codeAny (model P w) callerA (.call (.ref fa) ⟨[.ref a], []⟩) (fun r s' => r = .ok (.ret (.bool true)) ∧ OldK s1.heap s'.heap ∧ s'.os = s1.os ∧ AllBare s'.gens) s1 := by
    intro H only seq hok hA hK
    have isA : ∀ {b : Addr} {u : HO}, H b = some u → b = a := fun {b u} z => hA b (by rw [z]; simp)
    have down : ∀ {b : Addr} {o : Obj}, s1.heap.get? b = some o → H b = none → (hidT s1.heap H).get? b = some o := fun z n => hidT_get z n
    have dictN : ∀ {b : Addr} {o : Obj} {es : Array DictEntry} {ep : Nat}, s1.heap.get? b = some o → o.data = .dict es ep → H b = none := fun {b o es ep} z d => by
      cases q : H b with
      | none => rfl
      | some u =>
        have hb := isA q
        subst hb
        rw [obj] at z
        cases z
        cases d
    have nsDown : ∀ {b : Addr} {mm : Str → Option Value}, s1.heap.Ns b mm → (hidT s1.heap H).Ns b mm := fun {b mm} ⟨o, es, ep, z, d, r⟩ => ⟨o, es, ep, down z (dictN z d), d, r⟩
    have kDown : K.In (hidT s1.heap H) := fun b o z => down (inK b o z) (by
      cases q : H b with
      | none => rfl
      | some u =>
        have hb := isA q
        subst hb
        rw [hK (by rw [q]; simp)] at z
        cases z)
    have md : Mod K mg (hidT s1.heap H) := ⟨kDown, nsDown glob, ⟨mb, nsDown blt, boot⟩, let ⟨mc, h1, h2⟩ := noLim; ⟨mc, nsDown h1, h2⟩⟩
    have e0 : Env0 P w K mg (hidT s1.heap H) callerA [] s1 H := ⟨rfl, md, fun b o z => of_hidT z, Nat.le_of_eq (hidT_size _ _), trivial, fun b hb => absurd (show b ∈ ([] : List Addr) from hb) (by simp), hok, .of_eq noGen⟩
    obtain ⟨S', ans⟩ := ans
    obtain ⟨f, fd, ps, G1, len1, hmf, hkf, bind⟩ := (G _ kDown (nsDown glob) (let ⟨o, es, ep, h1, h2⟩ := sys; ⟨o, es, ep, down h1 (dictN h1 h2), h2⟩)).ex
    obtain rfl : fa = f := by
      rw [hmg] at hmf
      cases hmf
      rfl
    have sp : GSp K mg ps.length m [.ref a] H (fun v _ => v = .bl true) (fun _ _ _ => False) := by
      refine ⟨len1.symm, [.fls (ns.map .int)], [], H, [], .cons (.fls seq (repl_ints ns)) .nil, ⟨Same.refl _, rfl, List.nodup_nil, fun b hb => absurd hb (by simp), fun n b o h1 _ => by simp at h1⟩, ?_⟩
      rw [ans]
      intro v H' F' m' _ _ r
      cases r
      rfl
    refine codeAny_mono (G1.go callerA [] s1 H ⟨[.ref a], []⟩ [.ref a] [.ref a] _ _ room rfl e0 (bind s1 [.ref a] inK len1.symm) (.cons rfl .nil) sp) fun r s' h => ?_
    match r, h with
    | .error e, h =>
      obtain ⟨_, _, _, _, _, _, _, _, _, _, _, _, q⟩ := h
      exact q.elim
    | .ok .next, h => exact h.elim
    | .ok .brk, h => exact h.elim
    | .ok .cont, h => exact h.elim
    | .ok (.ret u), ⟨v, H', os, bare, un, hok', rr, q⟩ =>
      have q' : v = .bl true := q
      subst q'
      have hu : u = Value.bool true := rr
      subst hu
      refine ⟨rfl, OldK.of_keep fun b o z => ?_, os, bare⟩
      rcases only b with n | ⟨ob, xs, fz⟩
      · exact un.keep b o z n (fun q => absurd (show b ∈ ([] : List Addr) from q) (by simp)) (by simp)
      · have fz' := un.frzs b ob _ fz
        have g1 := (hok b _ fz).1
        have g2 := (hok' b _ fz').1
        rw [z] at g1
        cases g1
        exact g2
  cases hk : K.lookup a with
  | some o =>
    have z := inK a o hk
    rw [obj] at z
    cases z
    exact main (fun _ => none) (fun _ => .inl rfl) (.inr ⟨_, vs.toArray, _, hk, rfl, rfl, rfl, by rw [List.size_toArray, lenV]; exact short, by simpa using rv⟩) (fun b u q => by cases (show (none : Option HO) = some u from q)) (fun b q => absurd rfl q) (fun q => absurd rfl q)
  | none =>
    have at_ : ∀ b, (if b = a then some (HO.frz { cls := .type "list", data := .seq vs.toArray } (.lst (ns.map V.int))) else none) ≠ none → b = a := fun b q => by
      by_cases hb : b = a
      · exact hb
      · rw [if_neg hb] at q
        exact absurd rfl q
    refine main (fun b => if b = a then some (HO.frz { cls := .type "list", data := .seq vs.toArray } (.lst (ns.map V.int))) else none) (fun b => ?_) (.inl (.inr ⟨_, if_pos rfl⟩)) (fun b u q => ?_) at_ fun _ => hk
    · by_cases hb : b = a
      · exact .inr ⟨_, _, if_pos hb⟩
      · exact .inl (if_neg hb)
    · have hb := at_ b (fun z => by cases z.symm.trans q)
      subst hb
      have q' := (if_pos rfl).symm.trans q
      cases q'
      exact ⟨obj, by rw [List.length_map]; exact short, vs, _, rv, obj⟩
/-- the goal behind k_fill -/
theorem walk_g {l : PySem.W.OpenLaw} {n k : Nat} {q : Program} {loose : List Str} {XP : (Str → Option Value) → Heap → Prop} {YP : World → Heap → Prop} {d : DefRec} {K : Params → PySem.W.Frag} {m : MD}
    (hn : l.most = some n) (hn2 : n ≤ sizeLine) (himp : importsNone q = true) (hdf : d.params.defaults = []) (hr : Room k callerA) (hY : ∀ (w : World) (h : Heap), YP w h → (K w.params).In h)
    (G : ∀ (w : World) (mg : Str → Option Value) (h : Heap), (K w.params).In h → h.Ns mainGlobals mg → ∀ base : Heap, (K w.params).In base → base.Ns mainGlobals mg → SysB base → Cl l.prog w (K w.params) mg base k d.name 1 m)
    (ans : ∀ ns : List Int, ns.length ≤ n → ∃ S', m [.fls (ns.map .int)] [] = some (.ok (.val (.bl true)) S')) :
    PySem.W.WalkO q loose XP YP l.row.toRowW d [] (fun f vs => PySem.call f vs) := by
  refine Att.attach_call hn hdf fun w s0 s1 mg mb fa o pm cd doc a vs ns Gr Y ho hd hcd hmg hobj hints hlen hg => ?_
  have inK := hY w _ Y
  obtain ⟨mm, ⟨o, es, ep, h1, h2, _⟩, _⟩ := (Gr.T.seer himp).mods
  exact law_g inK Gr.T.g Gr.T.b Gr.T.builtins Gr.T.nolimit hg hobj hints (Nat.le_trans hlen hn2) hr ⟨o, es, ep, h1, h2⟩ (G w mg _ inK Gr.T.g) hmg (ans ns hlen)
end Sf
/-! Sf10: minus, reversed slices, equality with empties, pairs stored at once, written dicts, repr with empty dicts. -/
namespace Sf
open L2 PySem PySem.Spec PyProof.Rows

/-! ### -e -/
def negK (d : D) (S : Sto) : Option (Rz Out) := match d with
  | .int i => some (.ok (.val (.int (-i))) S)
  | _ => none
def dNeg (f : Dn Out) : Dn Out := fun ρ S => bnd (stl f ρ S) negK
section
variable {X : Cx} {W : WX'} {e : Expr} {f : Dn Out} {pos : Pos}
theorem d_neg (h : Pe X W e f) : Pe X W (.UnaryOp .USub e pos) (dNeg f) := by
  refine pe_imp (pe_un un_neg h.d) fun σ H Q q => ?_
  refine tg1 (R2 := RO X.K X.mg) (g := fun _ => negK) sh_O q fun x _ H1 ρ S1 F1 m1 d sl ok1 rx A => ?_
  match d, rx, A with
  | .int i, rx, A =>
    cases rx
    exact ⟨i, rfl, A _ H1 F1 m1 (Stp.refl ..) ok1 (.int (-i))⟩
  | .non, _, A => exact A.elim
  | .bl _, _, A => exact A.elim
  | .str _, _, A => exact A.elim
  | .tup _, _, A => exact A.elim
  | .lst _, _, A => exact A.elim
  | .fls _, _, A => exact A.elim
  | .emp, _, A => exact A.elim
  | .ref _, _, A => exact A.elim

/-! ### xs[::-1] -/
def revK (d : D) (S : Sto) : Option (Rz Out) := match view S d with
  | some ds => some (.ok (.own (.lst ds.reverse)) S)
  | none => none
def dRevL (f : Dn Out) : Dn Out := fun ρ S => bnd (stl f ρ S) revK
theorem d_revL {k : Nat} {p1 p2 p3 : Pos} (h : Pe X W e f) : Pe X W (.Subscript e (.Slice none none (some (.UnaryOp .USub (.Constant (.int 1) k p1) p2)) p3) pos) (dRevL f) := by
  refine pe_imp (pe_revL h.d) fun σ H Q q => ?_
  refine tg1 (R2 := RO X.K X.mg) (g := fun _ => revK) sh_O q fun x _ H1 ρ S1 F1 m1 d sl ok1 rx A => ?_
  unfold revK at A
  match e : view S1 d, A with
  | none, A => exact A.elim
  | some ds, A =>
    obtain ⟨a, xs, rfl, hs, hr⟩ := view_ok ok1 rx e
    refine ⟨a, xs, rfl, hs, fun p hp => ?_⟩
    obtain ⟨k, st⟩ := ok1.new (o := .lst xs.reverse) hp
    exact A (.ref p) _ _ _ st k ⟨p, rfl, hp, ok1.fnone hp, ok1.notin hp, xs.reverse, upd_same, hr.reverse⟩
end

/-! ### == where one side is empty -/
theorem viewT_inv {d : D} {xs : List D} (h : viewT d = some xs) : d = .tup xs := by
  cases d <;> first | (cases h; rfl) | cases h
def eqE (S : Sto) (a b : D) : Option Bool :=
  match viewT (topd S a), viewT (topd S b) with
  | some xs, some ys => if xs.isEmpty || ys.isEmpty then some (xs.isEmpty && ys.isEmpty) else none
  | _, _ => match view S a, view S b with
    | some xs, some ys => if xs.length ≠ ys.length then some false else none
    | _, _ => none
def eqX : O2 := fun S a b => match eqD S a b with
  | some r => some r
  | none => (eqE S a b).map fun c => .val (.bl c)
def neX : O2 := fun S a b => match neD S a b with
  | some r => some r
  | none => match view S a, view S b with
    | some xs, some ys => if xs.length ≠ ys.length then some (.val (.bl true)) else none
    | _, _ => none
section
variable {X : Cx}
theorem op_eqX (hu : X.A.units + 64 < cLine) : OpR X (compareOp .Eq) (rOf X.K X.mg eqX) := by
  intro pins s σ H x y v u Q I rx ry ⟨S, F, m, a, b, r, ok, ra, rb, e, q⟩
  unfold eqX at e
  split at e
  · rename_i r' e'
    exact op_eqD' hu pins s σ H x y v u Q I rx ry ⟨S, F, m, a, b, r, ok, ra, rb, by rw [e', e], q⟩
  · cases e1 : eqE S a b with
    | none => rw [e1] at e; cases e
    | some c =>
      rw [e1] at e
      cases e
      have q1 := q (.bl c) H F m (Stp.refl ..) ok (.bl c)
      unfold eqE at e1
      split at e1
      · rename_i xs ys ea eb
        split at e1
        · rename_i hc
          cases e1
          obtain ⟨F1, s1, r1⟩ := topd_rep ok ra
          obtain ⟨F2, s2, r2⟩ := topd_rep ok rb
          rw [viewT_inv ea] at r1
          rw [viewT_inv eb] at r2
          cases r1 with
          | tup h1 t1 =>
            cases r2 with
            | tup h2 t2 =>
              cases rx; cases ry
              obtain ⟨i1, v1, ⟨o1, ho1, hc1, n1, hd1⟩, _⟩ := I.tuple (same_t s1 h1)
              obtain ⟨i2, v2, ⟨o2, ho2, hc2, n2, hd2⟩, _⟩ := I.tuple (same_t s2 h2)
              have l1 : i1.length = xs.length := by rw [← v1.length, t1.length]
              have l2 : i2.length = ys.length := by rw [← v2.length, t2.length]
              have hmin : min i1.length i2.length = 0 := by
                rw [l1, l2]
                rcases Bool.or_eq_true_iff.mp hc with z | z
                · rw [List.isEmpty_iff.mp z]; simp
                · rw [List.isEmpty_iff.mp z]; simp
              refine SeqAt.eq_tupleAt (e := fun _ => true) ⟨o1, ho1, hc1, n1, hd1⟩ ⟨o2, ho2, hc2, n2, hd2⟩ (by omega) (fun j g1 g2 => ?_) ?_
              · exfalso
                rw [List.size_toArray] at g1 g2
                omega
              · refine ⟨.bl _, H, I, rfl, ?_⟩
                have : ((List.range (min i1.toArray.size i2.toArray.size)).all (fun _ => true) && i1.toArray.size == i2.toArray.size) = (xs.isEmpty && ys.isEmpty) := by
                  rw [List.size_toArray, List.size_toArray, hmin, l1, l2]
                  rcases Bool.or_eq_true_iff.mp hc with z | z
                  · rw [List.isEmpty_iff.mp z]
                    cases ys <;> rfl
                  · rw [List.isEmpty_iff.mp z]
                    cases xs <;> rfl
                rw [this]
                exact q1
        · cases e1
      · split at e1
        · rename_i xs ys ea eb
          split at e1
          · rename_i hc
            cases e1
            obtain ⟨p1, v1, rfl, h1, t1⟩ := view_ok ok ra ea
            obtain ⟨p2, v2, rfl, h2, t2⟩ := view_ok ok rb eb
            cases rx; cases ry
            obtain ⟨i1, w1, ht1, _⟩ := I.list h1
            obtain ⟨i2, w2, ht2, _⟩ := I.list h2
            refine SeqAt.eq_list_lengthsAt ht1.isList ht2.isList ?_ (by omega) ⟨.bl false, H, I, rfl, q1⟩
            rw [List.size_toArray, List.size_toArray, ← w1.length, ← w2.length, t1.length, t2.length]
            exact bne_iff_ne.mpr hc
          · cases e1
        · cases e1
theorem op_neX (hu : X.A.units + 64 < cLine) : OpR X (compareOp .NotEq) (rOf X.K X.mg neX) := by
  intro pins s σ H x y v u Q I rx ry ⟨S, F, m, a, b, r, ok, ra, rb, e, q⟩
  unfold neX at e
  split at e
  · rename_i r' e'
    exact op_neD' hu pins s σ H x y v u Q I rx ry ⟨S, F, m, a, b, r, ok, ra, rb, by rw [e', e], q⟩
  · split at e
    · rename_i xs ys ea eb
      split at e
      · rename_i hc
        cases e
        have q1 := q (.bl true) H F m (Stp.refl ..) ok (.bl true)
        obtain ⟨p1, v1, rfl, h1, t1⟩ := view_ok ok ra ea
        obtain ⟨p2, v2, rfl, h2, t2⟩ := view_ok ok rb eb
        cases rx; cases ry
        obtain ⟨i1, w1, ht1, _⟩ := I.list h1
        obtain ⟨i2, w2, ht2, _⟩ := I.list h2
        refine SeqAt.RcNeAt.lists_lengths ht1.isList ht2.isList ?_ (by omega) X.prog X.w X.xe _ ⟨.bl true, H, I, rfl, q1⟩
        rw [List.size_toArray, List.size_toArray, ← w1.length, ← w2.length, t1.length, t2.length]
        exact bne_iff_ne.mpr hc
      · cases e
    · cases e
end

/-! ### a, b = x, y at once -/
def sPar (i j : Nat) (g : Dn (List D)) : Sn := fun ρ S => bnS (g ρ S) ρ fun ds S1 => match ds with
  | [a, b] => some (.nx ((ρ.set i (some a)).set j (some b)) S1)
  | _ => none
def sPar3 (i j l : Nat) (g : Dn (List D)) : Sn := fun ρ S => bnS (g ρ S) ρ fun ds S1 => match ds with
  | [a, b, c] => some (.nx (((ρ.set i (some a)).set j (some b)).set l (some c)) S1)
  | _ => none
theorem s_par {X : Cx} {W : WX'} {i j : Nat} {x y : Str} {a b : Expr} {g : Dn (List D)} {px py pt pos : Pos} {kt k2 pt2} (hc : X.calm = true) (nd : X.N.Nodup) (hi : X.N[i]? = some x) (hj : X.N[j]? = some y) (hij : i ≠ j)
    (hx : X.env.scope.names.lookup x = some .local) (hy : X.env.scope.names.lookup y = some .local) (ha : Pa X W [a, b] g)
    (hw : swappedStores [.Tuple [.Name x px, .Name y py] kt pt] (.Tuple [a, b] k2 pt2) X.env = pure (some [x, y]))
    (hs : swapsWithSole [.Tuple [.Name x px, .Name y py] kt pt] (.Tuple [a, b] k2 pt2) pos.line X.env = pure false := by rfl) :
    Ps X W (.Assign [.Tuple [.Name x px, .Name y py] kt pt] (.Tuple [a, b] k2 pt2) pos) (sPar i j g) := by
  refine ps_imp (ps_par hc nd hi hj hij hx hy ha hw hs) fun Dd σ H z => ?_
  refine ts1 (R1 := RL X.K) (g := fun ρ ds S1 => match ds with
    | [a, b] => some (Fl.nx ((ρ.set i (some a)).set j (some b)) S1)
    | _ => none) z fun vs _ H1 ρ S1 F1 m1 ds sl ok r A _ _ => ?_
  match ds, r, A with
  | [a, b], .cons r1 (.cons r2 .nil), A => exact ⟨_, _, rfl, A _ H1 F1 m1 (Stp.refl ..) ok ((sl.put i r1).put j r2)⟩
  | [], _, A => exact A.elim
  | [_], _, A => exact A.elim
  | _ :: _ :: _ :: _, _, A => exact A.elim
theorem s_par3 {X : Cx} {W : WX'} {i j l : Nat} {x y z : Str} {a b c : Expr} {g : Dn (List D)} {px py pz pt pos : Pos} {kt k2 pt2} (hc : X.calm = true) (nd : X.N.Nodup) (hi : X.N[i]? = some x) (hj : X.N[j]? = some y) (hl : X.N[l]? = some z) (hij : i ≠ j) (hil : i ≠ l) (hjl : j ≠ l)
    (hx : X.env.scope.names.lookup x = some .local) (hy : X.env.scope.names.lookup y = some .local) (hz : X.env.scope.names.lookup z = some .local) (ha : Pa X W [a, b, c] g)
    (hw : swappedStores [.Tuple [.Name x px, .Name y py, .Name z pz] kt pt] (.Tuple [a, b, c] k2 pt2) X.env = pure (some [x, y, z]))
    (hs : swapsWithSole [.Tuple [.Name x px, .Name y py, .Name z pz] kt pt] (.Tuple [a, b, c] k2 pt2) pos.line X.env = pure false := by rfl) :
    Ps X W (.Assign [.Tuple [.Name x px, .Name y py, .Name z pz] kt pt] (.Tuple [a, b, c] k2 pt2) pos) (sPar3 i j l g) := by
  refine ps_imp (ps_par3 hc nd hi hj hl hij hil hjl hx hy hz ha hw hs) fun Dd σ H z => ?_
  refine ts1 (R1 := RL X.K) (g := fun ρ ds S1 => match ds with
    | [a, b, c] => some (Fl.nx (((ρ.set i (some a)).set j (some b)).set l (some c)) S1)
    | _ => none) z fun vs _ H1 ρ S1 F1 m1 ds sl ok r A _ _ => ?_
  match ds, r, A with
  | [a, b, c], .cons r1 (.cons r2 (.cons r3 .nil)), A => exact ⟨_, _, _, rfl, A _ H1 F1 m1 (Stp.refl ..) ok (((sl.put i r1).put j r2).put l r3)⟩
  | [], _, A => exact A.elim
  | [_], _, A => exact A.elim
  | [_, _], _, A => exact A.elim
  | _ :: _ :: _ :: _ :: _, _, A => exact A.elim

/-! ### a written dict -/
/-- an entry of a written dict, its data -/
def EntD (K : PySem.W.Frag) (e : DictEntry) (p : Str × D) : Prop := (∃ t, e.key = .str p.1 t) ∧ ∃ v, RelV v e.val ∧ ∀ F m, Rep K F m v p.2
structure WD (K : PySem.W.Frag) (w : World) (d : Addr) (tbl : List (Str × D)) : Prop where
  ex : ∃ (es : Array DictEntry) (n : Nat), K.lookup d = some ⟨.type "dict", none, .dict es n, #[]⟩ ∧ PySem.W.KeysLit w.params es.toList ∧ (d == sysModules) = false ∧ Paired (EntD K) es.toList tbl
theorem find_wd {K : PySem.W.Frag} (z : Str) : ∀ {es : List DictEntry} {tbl : List (Str × D)}, Paired (EntD K) es tbl →
    match tbl.lookup z with
    | none => es.find? (fun d => Value.isStrOf z d.key) = none
    | some d => ∃ e v, es.find? (fun d => Value.isStrOf z d.key) = some e ∧ RelV v e.val ∧ ∀ F m, Rep K F m v d
  | _, _, .nil => rfl
  | e :: es, (k, d) :: tbl, .cons h t => by
    obtain ⟨⟨tk, hk⟩, v, rv, rp⟩ := h
    have ih := find_wd z t
    have hb : Value.isStrOf z e.key = decide (k = z) := by
      have hk' : e.key = .str k tk := hk
      rw [hk']
      show (k == z) = _
      by_cases h : k = z
      · subst h; simp
      · simp [h]
    rw [List.lookup_cons, List.find?_cons, hb]
    by_cases hz : z = k
    · subst hz
      rw [beq_self_eq_true, decide_eq_true rfl]
      exact ⟨e, v, rfl, rv, rp⟩
    · rw [beq_eq_false_iff_ne.mpr hz, decide_eq_false (fun q => hz q.symm)]
      exact ih
def kgetK (tbl : List (Str × D)) (ds : List D) (S : Sto) : Option (Rz Out) := match ds with
  | [.str z, d] => some (.ok (.val ((tbl.lookup z).getD d)) S)
  | _ => none
def dKget (tbl : List (Str × D)) (g : Dn (List D)) : Dn Out := fun ρ S => bnd (g ρ S) (kgetK tbl)
theorem d_kget {X : Cx} {W : WX'} {x : Str} {d : Addr} {tbl : List (Str × D)} {e : Expr} {es : List Expr} {g : Dn (List D)} {p apos cpos : Pos} (T : WD X.K X.w d tbl) (hg : Gl X x) (hm : X.mg x = some (.ref d)) (ha : Pa X W (e :: es) g)
    (hbase : attributeBase (.Name x p) "get" X.env (eval (.Name x p) X.env) = eval (.Name x p) X.env := by rfl)
    (hfew : ((backTo cpos (starEach (e :: es) X.env)).all (fun x => !x.1) && (backToKw cpos (keywordEach [] X.env)).all (fun x => x.1.isSome)
      && decide ((e :: es).length + ([] : List Keyword).length + (if ([] : List Keyword).isEmpty then 0 else 1) < 30)) = true := by rfl)
    (hline : (apos.endLine == cpos.line) = true := by rfl) (hs : starEach (e :: es) X.env = (false, eval e X.env) :: starEach es X.env := by rfl) (hplain : (backTo cpos (starEach es X.env)).any (·.1) = false := by rfl) (hdb : (x == ("__debug__" : Str)) = false := by decide) :
    Pe X W (.Call (.Attribute (.Name x p) "get" apos) (e :: es) [] cpos) (dKget tbl g) := by
  obtain ⟨es0, n, look, lit, low, pr⟩ := T.ex
  refine ⟨fun pins s σ H Q I h => ?_⟩
  have hmap := fun (s1 : Shared) (k : X.K.In s1.heap) => PySem.W.mapOf_K (prog := X.prog) (w := X.w) k look lit
  refine wpAny_Call_method_late hbase hfew hline rfl (ld_glob I hg hm ?_ hdb)
  refine ⟨"dict", "dict.get", F.plainAttrs_dict, F.slot_dict_get, F.type_dict_get, (hmap s I.kIn).typeIs, (hmap s I.kIn).noDict, ?_⟩
  have key : Tg X.K X.mg (RL X.K) W g σ H fun vs H1 => ∃ z y, vs = [.str z, y] ∧ ∀ v, ((∃ d, tbl.lookup z = some d ∧ ∀ F m, Rep X.K F m v d) ∨ (tbl.lookup z = none ∧ v = y)) → Q v H1 := by
    refine tg1 (R2 := RO X.K X.mg) (g := fun _ => kgetK tbl) sh_O h fun vs _ H1 ρ S1 F1 m1 ds sl ok1 rx A => ?_
    unfold kgetK at A
    split at A
    · rename_i z d
      match rx with
      | .cons (.str _) (.cons r2 .nil) =>
        refine ⟨z, _, rfl, fun v hv => A v H1 F1 m1 (Stp.refl ..) ok1 ?_⟩
        rcases hv with ⟨d', hl, hr⟩ | ⟨hl, rfl⟩
        · rw [hl]
          exact hr F1 m1
        · rw [hl]
          exact r2
    · exact A.elim
  have hA := ha.run cpos pins s σ H _ I key
  rw [hs] at hA ⊢
  refine Calls.callWith_builtin (by show (false || (backTo cpos (starEach es X.env)).any (·.1)) = false; rw [hplain] <;> rfl) (Calls.evalArgs_plain ?_)
  refine thn hA fun us s2 ⟨vs, H2, I2, r2, z, y, e2, q2⟩ => ?_
  subst e2
  obtain ⟨u0, u3, rfl, r1, r3⟩ : ∃ u0 u3, us = [u0, u3] ∧ RelV (.str z) u0 ∧ RelV y u3 := by
    cases r2 with
    | cons r1 r2 =>
      cases r2 with
      | cons r3 r4 =>
        cases r4
        exact ⟨_, _, rfl, r1, r3⟩
  · obtain ⟨t, rfl⟩ := r1
    have fw := find_wd (K := X.K) z pr
    have fb : findBy Value.isStrOf es0 z = (es0.toList.find? (fun d => Value.isStrOf z d.key)).map (·.val) := by
      unfold findBy
      rw [← Array.find?_toList]
    have fin : ∃ v, RelV v ((findBy Value.isStrOf es0 z).getD u3) ∧ Q v H2 := by
      rw [fb]
      cases hl : tbl.lookup z with
      | none =>
        rw [hl] at fw
        have fw : es0.toList.find? (fun d => Value.isStrOf z d.key) = none := fw
        rw [fw]
        exact ⟨y, r3, q2 y (.inr ⟨hl, rfl⟩)⟩
      | some d' =>
        rw [hl] at fw
        obtain ⟨e, v, he, rv, rp⟩ := fw
        rw [he]
        exact ⟨v, rv, q2 v (.inl ⟨d', hl, rp⟩)⟩
    obtain ⟨v, rv, qv⟩ := fin
    have mt := meets_dict_get_default (PySem.strKind X.prog X.w) d (PySem.strKind_is X.prog X.w z t) low u3
    exact call_meetsIn F.slot_dict_get (hmap s2 I2.kIn).typeIs F.entry_dict_get (F.args_dict_get_3 _ _ _) mt ⟨_, hmap s2 I2.kIn, ⟨v, H2, I2.tok _, rv, qv⟩⟩

/-! ### repr of data that may hold empty dicts -/
section
variable {X : Cx} {F : Hp} {m : List Addr} {pins : List (Addr × Obj)} {σ : L2.St} {H : Hp} {s : Shared} {S : Sto}
theorem sys_off (Z : SysB X.base) (I : Inv X pins σ H s) {a : Addr} {o : Obj} {its : Array Value} {n : Nat} (h : s.heap.get? a = some o) (hd : o.data = .seq its n) : a ≠ sysModules := fun e => by
  subst e
  obtain ⟨o', es, ep, h1, h2⟩ := Z
  have z := I.bk _ _ h1
  rw [h] at z
  cases z
  rw [hd] at h2
  cases h2
mutual
theorem rep_readsZ (Z : SysB X.base) (I : Inv X pins σ H s) (sub : Same F H) : ∀ (d : D) (v : V) (u : Value), Rep X.K F m v d → d.plain = true → RelV v u → ∃ as, Reads s.heap u d.py as ∧ sysModules ∉ as
  | .non, _, _, h, _, r => by
    cases h; cases r
    exact ⟨_, Reads.none, by simp⟩
  | .bl b, _, _, h, _, r => by
    cases h; cases r
    exact ⟨_, Reads.bool b, by simp⟩
  | .int i, _, _, h, _, r => by
    cases h
    obtain ⟨t, rfl⟩ := r
    exact ⟨_, Reads.int i t, by simp⟩
  | .str x, _, _, h, _, r => by
    cases h
    obtain ⟨t, rfl⟩ := r
    exact ⟨_, Reads.str x t, by simp⟩
  | .tup ds, _, _, h, p, r => by
    cases h with
    | tup hs ha =>
      cases r
      obtain ⟨its, rv, ⟨o, ho, hc, n, hd⟩, _⟩ := I.tuple (same_t sub hs)
      obtain ⟨as, hr, off⟩ := repl_readsZ Z I sub ds _ its ha p rv
      exact ⟨_, Reads.tuple ho hc hd hr, off⟩
  | .lst ds, _, _, h, p, r => by
    cases h with
    | lst hs ha =>
      cases r
      obtain ⟨its, rv, ⟨o, n, ho, hc, _, hd⟩, _⟩ := I.list (SqL.of (sub _ _ hs))
      obtain ⟨as, hr, off⟩ := repl_readsZ Z I sub ds _ its ha p rv
      exact ⟨_, Reads.list ho hc hd hr, fun z => (List.mem_cons.mp z).elim (fun q => sys_off Z I ho hd q.symm) off⟩
  | .fls ds, _, _, h, p, r => by
    cases h with
    | fls hs ha =>
      cases r
      obtain ⟨its, rv, ⟨o, n, ho, hc, _, hd⟩, _⟩ := I.list (same_l sub hs)
      obtain ⟨as, hr, off⟩ := repl_readsZ Z I sub ds _ its ha p rv
      exact ⟨_, Reads.list ho hc hd hr, fun z => (List.mem_cons.mp z).elim (fun q => sys_off Z I ho hd q.symm) off⟩
  | .emp, _, _, h, _, r => by
    cases h with
    | emp hs =>
      cases r
      obtain ⟨_, low, vs, rel, o, es, ep, ho, hx, hd, he⟩ := dk_of I.hok (sub _ _ hs)
      cases rel
      have e0 : es.toList = [] := by
        match es.toList, he.2.1 with
        | [], _ => rfl
        | _ :: _, z => cases z
      refine ⟨_, Reads.dict ho hx.1 hd (by rw [e0]; exact .nil) (by rw [e0]; exact .nil), fun z => ?_⟩
      rcases List.mem_cons.mp z with q | q
      · rw [← q, beq_self_eq_true] at low
        cases low
      · simp at q
  | .ref _, _, _, _, p, _ => by cases p
theorem repl_readsZ (Z : SysB X.base) (I : Inv X pins σ H s) (sub : Same F H) : ∀ (ds : List D) (vs : List V) (us : List Value), RepL X.K F m vs ds → plainL ds = true → Vals vs us → ∃ as, ReadsAll s.heap us (pyL ds) as ∧ sysModules ∉ as
  | [], _, _, h, _, r => by
    cases h; cases r
    exact ⟨_, ReadsAll.nil, by simp⟩
  | d :: ds, _, _, h, p, r => by
    cases h with
    | cons h1 h2 =>
      cases r with
      | cons r1 r2 =>
        simp only [plainL, Bool.and_eq_true] at p
        obtain ⟨as, q1, o1⟩ := rep_readsZ Z I sub d _ _ h1 p.1 r1
        obtain ⟨bs, q2, o2⟩ := repl_readsZ Z I sub ds _ _ h2 p.2 r2
        exact ⟨_, ReadsAll.cons q1 q2, fun z => (List.mem_append.mp z).elim o1 o2⟩
end
end
def reprX : OC := fun S ds => match ds with
  | [d] => if d.flat = false ∧ (topd S d).plain = true ∧ (topd S d).py.showable = true ∧ (topd S d).py.depth ≤ 60 ∧ (topd S d).py.shown.length ≤ sizeLine then some (.val (.str (topd S d).py.shown)) else
    match d with
    | .int i => if i.natAbs.log2 < 1920 then some (.val (.str (toString i))) else none
    | _ => none
  | _ => none
theorem cl_reprX {X : Cx} (Z : SysB X.base) (hg : X.A.guards = some []) (hu : X.A.units + 64 < cLine) : CallR X (.builtin "repr") (rCl X.K X.mg reprX) := by
  intro pins s σ H xs us Q I rx ⟨S, F, m, ds, u, ok, r, e, q⟩
  unfold reprX at e
  split at e
  · cases r with
    | cons r1 r2 =>
      cases r2
      obtain ⟨u1, rfl, ru⟩ := vals1 rx
      split at e
      · rename_i hc
        cases e
        obtain ⟨h0, h1, h2, h4, h5⟩ := hc
        have hq := rof_val ok q (.str _)
        obtain ⟨F', s1, r3⟩ := topd_rep ok r1
        obtain ⟨as, q1, off⟩ := rep_readsZ Z I s1 _ _ _ r3 h1 ru
        obtain ⟨a, rfl⟩ : ∃ a, u1 = Value.ref a := by
          cases r1 <;> first | exact ⟨_, ru⟩ | cases h0
        exact PySem.repr_of_reads' q1 h2 (fun _ => off) hg (by omega) (fun _ _ z => z) (fun h' t tk hk => ⟨.str _, H, I.kept hk, ⟨t, rfl⟩, hq⟩) h5
      · split at e
        · split at e
          · rename_i hl
            cases e
            cases r1
            exact SkE.call_repr_int pins s σ H _ _ Q I rx ⟨_, rfl, hl, rof_val ok q (.str _)⟩
          · cases e
        · cases e
  · cases e
end Sf
/-! Sf11: short words for the printed derivations. -/
namespace Sf
open L2 PySem PySem.Spec PyProof.Rows

theorem bt_len : bootBuiltins "len" = some (.builtin "len") := by decide +kernel
theorem bt_all : bootBuiltins "all" = some (.builtin "all") := by decide +kernel
theorem bt_any : bootBuiltins "any" = some (.builtin "any") := by decide +kernel
theorem bt_sum : bootBuiltins "sum" = some (.builtin "sum") := by decide +kernel
theorem bt_max : bootBuiltins "max" = some (.builtin "max") := by decide +kernel
theorem bt_min : bootBuiltins "min" = some (.builtin "min") := by decide +kernel
theorem bt_abs : bootBuiltins "abs" = some (.builtin "abs") := by decide +kernel
theorem bt_repr : bootBuiltins "repr" = some (.builtin "repr") := by decide +kernel
theorem bt_int : bootBuiltins "int" = some (.type "int") := by decide +kernel
theorem bt_str : bootBuiltins "str" = some (.type "str") := by decide +kernel
theorem bt_list : bootBuiltins "list" = some (.type "list") := by decide +kernel
theorem bt_tuple : bootBuiltins "tuple" = some (.type "tuple") := by decide +kernel

theorem bt_bool : bootBuiltins "bool" = some (.type "bool") := by decide +kernel
theorem bt_dict : bootBuiltins "dict" = some (.type "dict") := by decide +kernel
theorem bt_isinstance : bootBuiltins "isinstance" = some (.builtin "isinstance") := by decide +kernel
/-- a look at the names of a def -/
def scB (N P : List Str) (sc : Scope) : Bool :=
  (decide (sc.kind = .function) && (!sc.isCoroutine && !sc.isGenerator)) && ((decide N.Nodup && decide (N.take P.length = P)) &&
    (P.all (fun y => sc.names.lookup y == some .local || sc.names.lookup y == some .cell) && sc.names.all (fun y => !(y.2 == .free))))
theorem sc_by {N P : List Str} {sc : Scope} (h : scB N P sc = true) : FnScope N P sc := by
  unfold scB at h
  rw [Bool.and_eq_true, Bool.and_eq_true, Bool.and_eq_true, Bool.and_eq_true, Bool.and_eq_true, Bool.and_eq_true] at h
  obtain ⟨⟨h1, h2, h3⟩, ⟨h4, h5⟩, h6, h7⟩ := h
  refine ⟨of_decide_eq_true h1, by simpa using h2, by simpa using h3, of_decide_eq_true h4, of_decide_eq_true h5, fun y hy => ?_, fun y hy e => ?_⟩
  · have := List.all_eq_true.mp h6 y hy
    rw [Bool.or_eq_true] at this
    exact this.imp eq_of_beq eq_of_beq
  · have := List.all_eq_true.mp h7 y hy
    rw [e] at this
    cases this
def GS (mg : Str → Option Value) (x s : Str) : Prop := ∃ t, mg x = some (.str s t)
def GI (mg : Str → Option Value) (x : Str) (i : Int) : Prop := ∃ t, mg x = some (.int i t)
section
variable {X : Cx} {W : WX'} {x s : Str} {i : Int} {pos : Pos}
theorem d_gS (h : GS X.mg x s) (hg : Gl X x) (hd : (x == ("__debug__" : Str)) = false := by decide) : Pe X W (.Name x pos) (dC (.str s)) := by
  obtain ⟨t, h⟩ := h
  exact d_glob (v := .str s) hg h ⟨t, rfl⟩ (fun _ _ => .str s) hd
theorem d_gI (h : GI X.mg x i) (hg : Gl X x) (hd : (x == ("__debug__" : Str)) = false := by decide) : Pe X W (.Name x pos) (dC (.int i)) := by
  obtain ⟨t, h⟩ := h
  exact d_glob (v := .int i) hg h ⟨t, rfl⟩ (fun _ _ => .int i) hd
end
theorem dk_mk {K : PySem.W.Frag} {mg : Str → Option Value} {h : Heap} {x : Str} {st : Stmt} {ps : List Str} {f : Addr} {oc kV doc pm cdv ct : Value} {od an : Option Addr} {osl : Array (Option Value)} (inK : K.In h) (glob : h.Ns mainGlobals mg)
    (bind : ∀ (kV doc pm : Value) (an : Option Addr) (cdv ct : Value) (us : List Value), us.length = ps.length → bindArgs (PySem.W.fnOf x x (L2.defArgs st) (L2.defBody st) (L2.defScope st) .none kV doc pm an cdv ct) ⟨us, []⟩ = pure (ps.zip us))
    (nm : PySem.W.nsIn K mainGlobals x = some (some (.ref f))) (look : K.lookup f = some ⟨oc, od, .func (PySem.W.fnOf x x (L2.defArgs st) (L2.defBody st) (L2.defScope st) .none kV doc pm an cdv ct), osl⟩)
    (code : PySem.W.codeIn K cdv x = true) (keep : PySem.W.keepIn K (.ref f) = true) : Dk K mg x st ps :=
  ⟨f, _, fun_mk look code keep, PySem.W.mg_of inK glob nm, (fun_mk look code keep).binds bind⟩
theorem entI {K : PySem.W.Frag} {e : DictEntry} {x : Str} {i : Int} {t u : Tok} (hk : e.key = .str x t) (hv : e.val = .int i u) : EntD K e (x, .int i) :=
  ⟨⟨t, hk⟩, .int i, ⟨u, hv⟩, fun _ _ => .int i⟩
theorem gs_mk {K : PySem.W.Frag} {mg : Str → Option Value} {h : Heap} {x s : Str} {t : Tok} (inK : K.In h) (glob : h.Ns mainGlobals mg) (nm : PySem.W.nsIn K mainGlobals x = some (some (.str s t))) : GS mg x s := ⟨t, PySem.W.mg_of inK glob nm⟩
theorem gi_mk {K : PySem.W.Frag} {mg : Str → Option Value} {h : Heap} {x : Str} {i : Int} {t : Tok} (inK : K.In h) (glob : h.Ns mainGlobals mg) (nm : PySem.W.nsIn K mainGlobals x = some (some (.int i t))) : GI mg x i := ⟨t, PySem.W.mg_of inK glob nm⟩
end Sf
/-! Sf12: str.index, text * int, dict.get. -/
namespace Sf
open L2 PySem PySem.Spec PyProof.Rows
section
variable {X : Cx}
def sindexD : OM := fun S a ds => match a, ds with
  | .str x, [.str y] => match Builtin.Str.occurrences x y 0 x.length 1 with
    | i :: _ => some (.val (.int (i : Nat)), S)
    | [] => none
  | _, _ => none
theorem mt_sindexD : MtR X "str.index" (rMt X.K X.mg sindexD) := by
  refine MtR.imp mt_sindex fun x xs H Q h => ?_
  obtain ⟨S, F, m, a, ds, u, S', ok, ra, rds, e, q⟩ := h
  unfold sindexD at e
  split at e
  · split at e
    · rename_i i r ho
      cases e
      cases ra
      cases rds with
      | cons r1 r2 =>
        cases r2
        cases r1
        exact ⟨_, _, i, r, rfl, rfl, ho, q _ H F m (Stp.refl ..) ok (.int _)⟩
    · cases e
  · cases e
def mulX : O2 := fun S a b => match a, b with
  | .str x, .int n => if 0 ≤ n ∧ n ≤ 1000000 ∧ x.length ≤ 16 then some (.val (.str (Txt.mul x n))) else none
  | a, b => mulD S a b
theorem mul_fits {x : Str} {n : Int} (h : 0 ≤ n ∧ n ≤ 1000000 ∧ x.length ≤ 16) : MulOk x n := by
  obtain ⟨h1, h2, h3⟩ := h
  refine ⟨?_, fun g1 g2 => ?_, fun g1 g2 => ?_⟩
  · rw [Bool.or_eq_false_iff]
    exact ⟨decide_eq_false (by omega), decide_eq_false (by omega)⟩
  · have : (16 : Int) ≤ (2 ^ 63 - 1) / n := by
      refine (Int.le_ediv_iff_mul_le (by omega)).mpr ?_
      omega
    omega
  · have h4 : x.length * n.toNat ≤ 16 * 1000000 := Nat.mul_le_mul h3 (by omega)
    show decide _ = false
    exact decide_eq_false (by show ¬ _ > (16777216 : Nat); omega)
theorem op_mulX : OpR X (binaryOp .Mult) (rOf X.K X.mg mulX) := by
  intro pins s σ H x y v u Q I rx ry ⟨S, F, m, a, b, r, ok, ra, rb, e, q⟩
  unfold mulX at e
  split at e
  · split at e
    · rename_i z n hc
      cases e
      cases ra; cases rb
      obtain ⟨t, rfl⟩ := rx
      obtain ⟨t2, rfl⟩ := ry
      exact SB.mul (mul_fits hc) fun t' k => ⟨.str _, H, I.tok _, ⟨_, rfl⟩, q _ H F m (Stp.refl ..) ok (.str _)⟩
    · cases e
  · exact op_mulD pins s σ H x y v u Q I rx ry ⟨S, F, m, _, _, r, ok, ra, rb, e, q⟩
/-- d.get(k), d.get(k, x) -/
def getB (kvs : List (Key × D)) (b d : D) : Option D := (keyD b).map fun k => (getD' kvs k).getD d
def dgetD : OM := fun S a ds => match viewD S a, ds with
  | some kvs, [b] => (getB kvs b .non).map fun d => (.val d, S)
  | some kvs, [b, x] => (getB kvs b x).map fun d => (.val d, S)
  | _, _ => none
theorem mt_dgetD (hu : X.A.units + 1 < cLine) : MtR X "dict.get" (rMt X.K X.mg dgetD) := by
  intro pins s σ H x xs v us Q I rx rxs ⟨S, F, m, a, ds, u, S', ok, ra, rds, e, q⟩
  unfold dgetD at e
  split at e
  · rename_i kvs b e1
    obtain ⟨p, ks, rfl, h1, h2⟩ := viewD_ok ok ra e1
    unfold getB at e
    cases ek : keyD b with
    | none => rw [ek] at e; cases e
    | some k =>
      rw [ek] at e
      cases e
      cases rds with
      | cons r1 r2 =>
        cases r2
        cases rxs with
        | cons g1 g2 =>
          cases g2
          cases rx
          have hk := key_ok r1 ek
          rcases pr_get k h2 with ⟨l1, l2⟩ | ⟨v0, d0, l1, l2, l3⟩
          · refine d_get1 (o := none) hu I (.inl ⟨ks, k, Rd.of h1, hk, l1.symm⟩) g1 fun w' s' I' rw' => ?_
            simp only [l2] at q
            exact ⟨.non, H, I', rw', q _ H F m (Stp.refl ..) ok .non⟩
          · refine d_get1 (o := some v0) hu I (.inl ⟨ks, k, Rd.of h1, hk, l1.symm⟩) g1 fun w' s' I' rw' => ?_
            simp only [l2] at q
            exact ⟨v0, H, I', rw', q _ H F m (Stp.refl ..) ok l3⟩
  · rename_i kvs b x0 e1
    obtain ⟨p, ks, rfl, h1, h2⟩ := viewD_ok ok ra e1
    unfold getB at e
    cases ek : keyD b with
    | none => rw [ek] at e; cases e
    | some k =>
      rw [ek] at e
      cases e
      cases rds with
      | cons r1 r2 =>
        cases r2 with
        | cons r3 r4 =>
          cases r4
          cases rxs with
          | cons g1 g2 =>
            cases g2 with
            | cons g3 g4 =>
              cases g4
              cases rx
              have hk := key_ok r1 ek
              rcases pr_get k h2 with ⟨l1, l2⟩ | ⟨v0, d0, l1, l2, l3⟩
              · refine d_get2 (o := none) hu I (.inl ⟨ks, k, Rd.of h1, hk, l1.symm⟩) g1 g3 fun w' s' I' rw' => ?_
                simp only [l2] at q
                exact ⟨_, H, I', rw', q _ H F m (Stp.refl ..) ok r3⟩
              · refine d_get2 (o := some v0) hu I (.inl ⟨ks, k, Rd.of h1, hk, l1.symm⟩) g1 g3 fun w' s' I' rw' => ?_
                simp only [l2] at q
                exact ⟨v0, H, I', rw', q _ H F m (Stp.refl ..) ok l3⟩
  · cases e
end
end Sf
/-! Sf13: == of lists of texts, whatever the texts. -/
namespace Sf
open L2 PySem PySem.Spec PyProof.Rows
def eqSB (S : Sto) (a b : D) : Option Bool := match (view S a).bind strsD, (view S b).bind strsD with
  | some xs, some ys => some (decide (xs = ys))
  | _, _ => none
def eqY : O2 := fun S a b => match eqSB S a b with
  | some c => some (.val (.bl c))
  | none => eqX S a b
def neY : O2 := fun S a b => match eqSB S a b with
  | some c => some (.val (.bl (!c)))
  | none => neX S a b
theorem vals_strs : ∀ {xs : List Str} {its : List Value}, Vals (xs.map V.str) its → ∀ (j : Nat) (h : j < its.length), ∃ t, its[j] = .str (xs.getD j "") t
  | [], _, .nil, j, h => absurd h (by simp)
  | x :: xs, _, .cons r t, 0, h => by
    obtain ⟨k, e⟩ := r
    exact ⟨k, e⟩
  | x :: xs, _, .cons r t, j + 1, h => by
    obtain ⟨k, e⟩ := vals_strs t j (by simpa using h)
    exact ⟨k, by simpa using e⟩
theorem all_str : ∀ (xs ys : List Str), xs.length = ys.length → ((List.range xs.length).all fun j => xs.getD j "" == ys.getD j "") = decide (xs = ys)
  | [], [], _ => rfl
  | x :: xs, y :: ys, h => by
    have ih := all_str xs ys (by simpa using h)
    rw [List.length_cons, List.range_succ_eq_map, List.all_cons, List.all_map]
    have e : ((List.range xs.length).all ((fun j => (x :: xs).getD j "" == (y :: ys).getD j "") ∘ Nat.succ)) = decide (xs = ys) := by
      rw [← ih]
      congr 1
    rw [e]
    show (x == y && decide (xs = ys)) = decide (x :: xs = y :: ys)
    by_cases h1 : x = y
    · subst h1
      by_cases h2 : xs = ys
      · subst h2
        simp
      · simp [h2]
    · simp [h1]
section
variable {X : Cx}
theorem eqSB_go {K : PySem.W.Frag} {mg : Str → Option Value} {H F : Hp} {m : List Addr} {S : Sto} (ok : SOk K mg H F m S) {x y : V} {a b : D} {c : Bool} (ra : Rep K F m x a) (rb : Rep K F m y b) (e : eqSB S a b = some c) :
    ∃ (p q : Addr) (xs ys : List Str), x = .ref p ∧ y = .ref q ∧ SqL K H p (xs.map V.str) ∧ SqL K H q (ys.map V.str) ∧ c = decide (xs = ys) := by
  unfold eqSB at e
  split at e
  · rename_i xs ys h1 h2
    cases e
    obtain ⟨ds, v1, s1⟩ := Option.bind_eq_some_iff.mp h1
    obtain ⟨es, v2, s2⟩ := Option.bind_eq_some_iff.mp h2
    obtain ⟨p, vs, rfl, l1, r1⟩ := view_ok ok ra v1
    obtain ⟨q, ws, rfl, l2, r2⟩ := view_ok ok rb v2
    have e1 := strsD_ok r1 s1
    have e2 := strsD_ok r2 s2
    subst e1 e2
    exact ⟨p, q, xs, ys, rfl, rfl, l1, l2, rfl⟩
  · cases e
theorem str_eqs {pins : List (Addr × Obj)} {σ : L2.St} {H : Hp} {s : Shared} {p q : Addr} {xs ys : List Str} (I : Inv X pins σ H s) (l1 : SqL X.K H p (xs.map V.str)) (l2 : SqL X.K H q (ys.map V.str)) :
    ∃ i1 i2 : List Value, s.heap.IsList p i1.toArray ∧ s.heap.IsList q i2.toArray ∧ i1.length = xs.length ∧ i2.length = ys.length ∧
      ∀ j (h1 : j < i1.toArray.size) (h2 : j < i2.toArray.size), SeqAt.EqAt X.A.in1 s i1.toArray[j] i2.toArray[j] (xs.getD j "" == ys.getD j "") := by
  obtain ⟨i1, w1, t1, _⟩ := I.list l1
  obtain ⟨i2, w2, t2, _⟩ := I.list l2
  refine ⟨i1, i2, t1.isList, t2.isList, by rw [← w1.length, List.length_map], by rw [← w2.length, List.length_map], fun j h1 h2 => ?_⟩
  rw [List.size_toArray] at h1 h2
  obtain ⟨k1, e1⟩ := vals_strs w1 j h1
  obtain ⟨k2, e2⟩ := vals_strs w2 j h2
  have g1 : i1.toArray[j] = .str (xs.getD j "") k1 := e1
  have g2 : i2.toArray[j] = .str (ys.getD j "") k2 := e2
  rw [g1, g2]
  exact SeqAt.EqAt.str_str (xs.getD j "") k1 (ys.getD j "") k2
theorem op_eqY (hu : X.A.units + 64 < cLine) : OpR X (compareOp .Eq) (rOf X.K X.mg eqY) := by
  intro pins s σ H x y v u Q I rx ry ⟨S, F, m, a, b, r, ok, ra, rb, e, q⟩
  unfold eqY at e
  split at e
  · rename_i c hc
    cases e
    have q1 := q (.bl c) H F m (Stp.refl ..) ok (.bl c)
    obtain ⟨p1, p2, xs, ys, rfl, rfl, l1, l2, rfl⟩ := eqSB_go ok ra rb hc
    cases rx; cases ry
    obtain ⟨i1, i2, t1, t2, n1, n2, he⟩ := str_eqs I l1 l2
    by_cases hl : xs.length = ys.length
    · refine SeqAt.eq_listAt (e := fun j => xs.getD j "" == ys.getD j "") t1 t2 (by rw [List.size_toArray, List.size_toArray, n1, n2, hl]) (by omega) he ⟨.bl _, H, I, rfl, ?_⟩
      rw [List.size_toArray, n1, all_str xs ys hl]
      exact q1
    · refine SeqAt.eq_list_lengthsAt t1 t2 (by rw [List.size_toArray, List.size_toArray, n1, n2]; exact bne_iff_ne.mpr hl) (by omega) ⟨.bl false, H, I, rfl, ?_⟩
      rw [decide_eq_false (fun z => hl (by rw [z]))] at q1
      exact q1
  · exact op_eqX hu pins s σ H x y v u Q I rx ry ⟨S, F, m, a, b, r, ok, ra, rb, e, q⟩
theorem op_neY (hu : X.A.units + 64 < cLine) : OpR X (compareOp .NotEq) (rOf X.K X.mg neY) := by
  intro pins s σ H x y v u Q I rx ry ⟨S, F, m, a, b, r, ok, ra, rb, e, q⟩
  unfold neY at e
  split at e
  · rename_i c hc
    cases e
    have q1 := q (.bl (!c)) H F m (Stp.refl ..) ok (.bl (!c))
    obtain ⟨p1, p2, xs, ys, rfl, rfl, l1, l2, rfl⟩ := eqSB_go ok ra rb hc
    cases rx; cases ry
    obtain ⟨i1, i2, t1, t2, n1, n2, he⟩ := str_eqs I l1 l2
    by_cases hl : xs.length = ys.length
    · refine SeqAt.RcNeAt.lists (e := fun j => xs.getD j "" == ys.getD j "") t1 t2 (by rw [List.size_toArray, List.size_toArray, n1, n2, hl]) (by omega) he X.prog X.w X.xe _ ⟨.bl _, H, I, rfl, ?_⟩
      rw [List.size_toArray, n1, all_str xs ys hl]
      exact q1
    · refine SeqAt.RcNeAt.lists_lengths t1 t2 (by rw [List.size_toArray, List.size_toArray, n1, n2]; exact bne_iff_ne.mpr hl) (by omega) X.prog X.w X.xe _ ⟨.bl true, H, I, rfl, ?_⟩
      rw [decide_eq_false (fun z => hl (by rw [z]))] at q1
      exact q1
  · exact op_neX hu pins s σ H x y v u Q I rx ry ⟨S, F, m, a, b, r, ok, ra, rb, e, q⟩
end
end Sf
/-! Sf14: while; an index that is a truth; dict.update; reversed tuples. -/
namespace Sf
open L2 PySem PySem.Spec PyProof.Rows
/-! ### while, so many turns at most -/
def loopW (c : Dn Bool) (p : Sn) : Nat → Sn
  | 0 => fun _ _ => none
  | n + 1 => fun ρ S => bnS (c ρ S) ρ fun b S1 => if b = true then
      (match p ρ S1 with
        | some (.nx ρ' S') => loopW c p n ρ' S'
        | some (.ct ρ' S') => loopW c p n ρ' S'
        | some (.bk ρ' S') => some (.nx ρ' S')
        | o => o) else some (.nx ρ S1)
theorem s_while {X : Cx} {W : WX'} {t : Expr} {c : Dn Bool} {body : List Stmt} {p : Sn} {pos : Pos} (n : Nat) (hp : PassesOwn (model X.prog X.w) X.A X.env X.xe) (hc : Pt X W t c) (hb : Pss X W body p) : Ps X W (.While t body [] pos) (loopW c p n) := by
  refine ps_imp (ps_while hp hc hb) fun Dd σ H z => ?_
  refine ⟨fun m σ H => Ts X.K X.mg W (loopW c p m) Dd σ H, ⟨n, z⟩, fun m σ H z => ?_⟩
  cases m with
  | zero =>
    obtain ⟨ρ, S, F, m, sl, ok, A⟩ := z
    exact A.elim
  | succ m =>
    refine ts1 (R1 := RB) (g := fun ρ (b : Bool) S1 => if b = true then
      (match p ρ S1 with
        | some (.nx ρ' S') => loopW c p m ρ' S'
        | some (.ct ρ' S') => loopW c p m ρ' S'
        | some (.bk ρ' S') => some (.nx ρ' S')
        | o => o) else some (.nx ρ S1)) z fun b _ H1 ρ S1 F1 m1 d sl ok r A _ _ => ?_
    cases r
    cases b with
    | false =>
      rw [if_neg Bool.false_ne_true] at A ⊢
      exact A σ H1 F1 m1 (Stp.refl ..) ok sl
    | true =>
      rw [if_pos rfl] at A ⊢
      refine ⟨fun σ' H' => Ts X.K X.mg W (loopW c p m) Dd σ' H', fun σ' H' h => ⟨m, Nat.lt_succ_self m, h⟩, ρ, S1, F1, m1, sl, ok, ?_⟩
      match p ρ S1, A with
      | none, A => exact A
      | some (.nx ρ' S'), A => exact fun σ' H' F' m' st k q => ⟨ρ', S', F', m', q, k, AftS.shift st A⟩
      | some (.ct ρ' S'), A => exact fun σ' H' F' m' st k q => ⟨ρ', S', F', m', q, k, AftS.shift st A⟩
      | some (.bk ρ' S'), A => exact A
      | some (.rt o S'), A => exact A
      | some (.er x ρ' S'), A => exact A

/-! ### an index that is a truth -/
section
variable {X : Cx}
theorem sub_bool {s : Shared} {A : Around} {E : Value → Shared → Prop} {M : Model} {k : Bool} {Q : Option Int → Shared → Prop} (h : Q (some (if k = true then 1 else 0)) s) :
    wpAny M A (Builtin.List.listSubscript? (.bool k)) Q E s := by
  unfold Builtin.List.listSubscript?
  refine wpAny_bind (wpAny_specialOf (T := "bool") (show s.TypeIs (.bool k) "bool" from rfl) PySem.F.slot_bool_index.lookup ?_)
  show wpAny M A (asIndex (.bool k) >>= _) Q E s
  cases k with
  | true => exact wpAny_bind (wpAny_of_eq (a := (1 : Int)) rfl (wpAny_pure h))
  | false => exact wpAny_bind (wpAny_of_eq (a := (0 : Int)) rfl (wpAny_pure h))
theorem getItem_listB {l : Addr} {items : Array Value} {k : Bool} {x : Value} {s : Shared} {A : Around} {E : Value → Shared → Prop} {prog : Program} {w : World} {Q : Value → Shared → Prop} (hl : s.heap.IsList l items)
    (hx : items[(if k = true then 1 else 0 : Nat)]? = some x) (h : Q x s) : wpAny (model prog w) A (getItem (.ref l) (.bool k)) Q E s := by
  obtain ⟨o, ho, hc, ne, hd⟩ := id hl
  unfold getItem
  try with_reducible refine wpAny_holding ?_
  first | refine wpAny_bind (wpAny_pure ?_) | skip
  refine wpAny_bind (wpAny_sequenceKey hl.typeIs (by decide) ?_)
  refine wpAny_bind (wpAny_callSpecial?_slot (name := Str.ofString "__getitem__") hl.typeIs slot_list_getitem
    (wpAny_call_entry slot_list_getitem hl.typeIs entry_list_getitem ?_ (args_list_getitem _ _)))
  show wpAny _ _ (Builtin.List.listSubscript? (.bool k) >>= _) _ _ s
  refine wpAny_bind (sub_bool ?_)
  cases k with
  | true =>
    rw [if_pos rfl] at hx ⊢
    show wpAny _ _ ((seqItemAt l 1 >>= fun r => pure (r.map (1, ·))) >>= _) _ _ s
    refine wpAny_bind (wpAny_bind (wpAny_seqItemAt ho hd (wpAny_pure ?_)))
    rw [hx]
    first
      | exact wpAny_bind (wpAny_pure (wpAny_pure ⟨x, rfl, wpAny_pure h⟩))
      | exact wpAny_pure ⟨x, rfl, wpAny_pure h⟩
  | false =>
    rw [if_neg Bool.false_ne_true] at hx ⊢
    show wpAny _ _ ((seqItemAt l 0 >>= fun r => pure (r.map (0, ·))) >>= _) _ _ s
    refine wpAny_bind (wpAny_bind (wpAny_seqItemAt ho hd (wpAny_pure ?_)))
    rw [hx]
    first
      | exact wpAny_bind (wpAny_pure (wpAny_pure ⟨x, rfl, wpAny_pure h⟩))
      | exact wpAny_pure ⟨x, rfl, wpAny_pure h⟩
def rIxB (K : PySem.W.Frag) : R2 := fun x y H Q => ∃ p xs k v, x = .ref p ∧ y = .bl k ∧ SqL K H p xs ∧ xs[(if k = true then 1 else 0 : Nat)]? = some v ∧ Q v H
theorem ix_listB : IxR X (rIxB X.K) := by
  intro value slice pins s σ H x y v u Q I rx ry h hs
  obtain ⟨p, xs, k, z, rfl, rfl, hq, he, q⟩ := h
  cases rx
  cases ry
  obtain ⟨its, r, pl, hz⟩ := I.list hq
  obtain ⟨w, ew, rw'⟩ := r.get he
  have fin : EP X pins σ Q w s := ⟨z, H, I, rw', q⟩
  exact subscriptTail_builtinR (x := w) pl.isList.typeIs slot_list_getitem.lookup
    (getItem_listB (Q := fun r s' => r = w ∧ EP X pins σ Q r s') pl.isList (by simpa using ew) ⟨rfl, fin⟩) hs
def ixB : O2 := fun S a b => match b with
  | .bl k => match view S a with
    | some ds => (ds[(if k = true then 1 else 0 : Nat)]?).map .val
    | none => none
  | _ => none
theorem op_ixB : IxR X (rOf X.K X.mg ixB) := by
  refine IxR.imp ix_listB fun x y H Q h => ?_
  obtain ⟨S, F, m, a, b, u, ok, ra, rb, e, q⟩ := h
  unfold ixB at e
  split at e
  · rename_i k
    split at e
    · rename_i ds e0
      cases e1 : ds[(if k = true then 1 else 0 : Nat)]? with
      | none => rw [e1] at e; cases e
      | some d =>
        rw [e1] at e
        cases e
        cases rb
        obtain ⟨p, xs, rfl, h1, h2⟩ := view_ok ok ra e0
        obtain ⟨v, h3, h4⟩ := h2.get e1
        exact ⟨p, xs, k, v, rfl, rfl, h1, h3, rof_val ok q h4⟩
    · cases e
  · cases e
theorem d_ixB {W : WX'} {a b : Expr} {f g : Dn Out} {pos : Pos} (ha : Pe X W a f) (hb : Pe X W b g) (hs : PlainIx b := by exact fun _ _ => rfl) : Pe X W (.Subscript a b pos) (d2 ixB f g) :=
  pe_imp (pe_ix op_ixB ha.d hb.d hs) fun _ _ _ q => tg_2 q
end

/-! ### dict.update by a dict -/
section
variable {X : Cx}
theorem kv_merge {ks : List (Key × V)} {vs : List (Key × Value)} (r : KV ks vs) : ∀ {us : List (Key × V)} {ws : List (Key × Value)}, KV us ws → KV (us.foldl (fun acc p => putK acc p.1 p.2) ks) (merged vs ws)
  | _, _, .nil => r
  | _, _, .cons (a := p) (b := q) h t => by
    have e : p.1 = q.1 := h.1
    have := kv_merge (KV.put r p.1 h.2) t
    rw [e] at this
    show KV (List.foldl _ (putK ks p.1 p.2) _) (List.foldl _ (stored vs q.1 q.2) _)
    rw [e]
    exact this
theorem pr_merge {K : PySem.W.Frag} {F : Hp} {m : List Addr} {ks : List (Key × V)} {ls : List (Key × D)} (r : PR K F m ks ls) : ∀ {us : List (Key × V)} {ws : List (Key × D)}, PR K F m us ws →
    PR K F m (us.foldl (fun acc p => putK acc p.1 p.2) ks) (ws.foldl (fun acc p => putD acc p.1 p.2) ls)
  | _, _, .nil => r
  | _, _, .cons (a := p) (b := q) h t => by
    have := pr_merge (pr_put p.1 r h.2) t
    show PR K F m (List.foldl _ (putK ks p.1 p.2) _) (List.foldl _ (putD ls q.1 q.2) _)
    rw [← h.1]
    exact this
theorem merge_len : ∀ (us ks : List (Key × V)), (us.foldl (fun acc p => putK acc p.1 p.2) ks).length ≤ ks.length + us.length
  | [], ks => Nat.le_refl _
  | p :: us, ks => by
    have h1 := merge_len us (putK ks p.1 p.2)
    have h2 := length_putK ks p.1 p.2
    rw [List.foldl_cons, List.length_cons]
    omega
def updD : OM := fun S a ds => match a, ds with
  | .ref n, [.ref j] => match S[n]?, S[j]? with
    | some (.dct kvs), some (.dct us) => if n ≠ j ∧ kvs.length + us.length ≤ sizeLine then some (.val .non, S.set n (.dct (us.foldl (fun acc p => putD acc p.1 p.2) kvs))) else none
    | _, _ => none
  | _, _ => none
theorem mt_updD : MtR X "dict.update" (rMt X.K X.mg updD) := by
  intro pins s σ H x xs v us Q I rx rxs ⟨S, F, m, a, ds, u, S', ok, ra, rds, e, q⟩
  unfold updD at e
  split at e
  · rename_i n j
    split at e
    · rename_i kvs ls e1 e2
      split at e
      · rename_i hz
        cases e
        cases ra with
        | @ref p _ h1 =>
          cases rds with
          | cons r1 r2 =>
            cases r2
            cases r1 with
            | @ref p2 _ h2 =>
              obtain ⟨ks, h3, h4⟩ := ok.at h1 e1
              obtain ⟨ks2, h5, h6⟩ := ok.at h2 e2
              cases rxs with
              | cons g1 g2 =>
                cases g2
                cases rx
                cases g1
                have hne : p ≠ p2 := fun z => by
                  subst z
                  have i1 := (List.getElem?_eq_some_iff.mp h1)
                  have i2 := (List.getElem?_eq_some_iff.mp h2)
                  obtain ⟨l1, i1⟩ := i1
                  obtain ⟨l2, i2⟩ := i2
                  exact hz.1 ((List.getElem_inj ok.nd).mp (i1.trans i2.symm))
                obtain ⟨z1, hd1, vs1, rel1, dd1⟩ := dk_of I.hok h3
                obtain ⟨z2, hd2, vs2, rel2, dd2⟩ := dk_of I.hok h5
                have l1 := pr_length h4
                have l2 := pr_length h6
                have l3 := rel1.length
                have l4 := rel2.length
                obtain ⟨k, st⟩ := ok.put (u := .dK (ks2.foldl (fun acc p => putK acc p.1 p.2) ks)) (ob := .dct (ls.foldl (fun acc p => putD acc p.1 p.2) kvs)) h1 ⟨_, upd_same, pr_merge h4 h6⟩
                refine call_meetsIn PySem.F.slot_dict_update dd1.typeIs PySem.F.entry_dict_update (PySem.F.args_dict_update_2 _ _) (meets_dict_update (mixKind X.prog X.w) p p2 hne hd2) ⟨vs1, vs2, dd1, dd2, by omega, fun h' d1 d2 hs => ?_⟩
                have he : ∃ q, h'.get? p = some q := let ⟨q, _, _, hq, _⟩ := d1; ⟨q, hq⟩
                have hl := merge_len ks2 ks
                exact ⟨.non, _, d_write I (by rw [h3]; exact True.intro) hs he (dk_new (by omega) hd1 (kv_merge rel1 rel2) d1), rfl, q _ _ F m st k .non⟩
      · cases e
    · cases e
  · cases e
end
end Sf
/-! Sf15: repr of any plain data. -/
namespace Sf
open L2 PySem PySem.Spec PyProof.Rows
def reprY : OC := fun S ds => match ds with
  | [d] => if (topd S d).plain = true ∧ (topd S d).py.showable = true ∧ (topd S d).py.depth ≤ 60 ∧ (topd S d).py.shown.length ≤ sizeLine then some (.val (.str (topd S d).py.shown)) else none
  | _ => none
theorem cl_reprY {X : Cx} (Z : SysB X.base) (hg : X.A.guards = some []) (hu : X.A.units + 64 < cLine) : CallR X (.builtin "repr") (rCl X.K X.mg reprY) := by
  intro pins s σ H xs us Q I rx ⟨S, F, m, ds, u, ok, r, e, q⟩
  unfold reprY at e
  split at e
  · rename_i d
    cases r with
    | cons r1 r2 =>
      cases r2
      obtain ⟨u1, rfl, ru⟩ := vals1 rx
      split at e
      · rename_i hc
        cases e
        obtain ⟨h1, h2, h4, h5⟩ := hc
        have hq := rof_val ok q (.str _)
        cases hf : d.flat with
        | false =>
          obtain ⟨F', s1, r3⟩ := topd_rep ok r1
          obtain ⟨as, q1, off⟩ := rep_readsZ Z I s1 _ _ _ r3 h1 ru
          obtain ⟨a, rfl⟩ : ∃ a, u1 = Value.ref a := by
            cases r1 <;> first | exact ⟨_, ru⟩ | cases hf
          exact PySem.repr_of_reads' q1 h2 (fun _ => off) hg (by omega) (fun _ _ z => z) (fun h' t tk hk => ⟨.str _, H, I.kept hk, ⟨t, rfl⟩, hq⟩) h5
        | true =>
          cases r1 with
          | non =>
            cases ru
            exact PySem.P.repr_of_none ⟨.str _, H, I.tok _, ⟨_, rfl⟩, hq⟩
          | bl b =>
            cases ru
            have e : (topd S (.bl b)).py.shown = (if b then ("True" : Str) else "False") := by cases b <;> rfl
            rw [e] at hq
            exact PySem.P.repr_of_bool ⟨.str _, H, I.tok _, ⟨_, rfl⟩, hq⟩
          | int i =>
            obtain ⟨t, rfl⟩ := ru
            have hs : (PyData.int i).showable = true := h2
            exact PySem.P.repr_of_int (of_decide_eq_true (by simpa only [PyData.showable] using hs)) ⟨.str _, H, I.tok _, ⟨_, rfl⟩, hq⟩
          | str x =>
            obtain ⟨t, rfl⟩ := ru
            exact PySem.P.repr_of_str ⟨.str _, H, I.tok _, ⟨_, rfl⟩, hq⟩ h5
          | tup _ _ => cases hf
          | lst _ _ => cases hf
          | fls _ _ => cases hf
          | emp _ => cases hf
          | ref _ => cases hf
      · cases e
  · cases e
end Sf
/-! Sf16: tuples backwards, tuple * 0 or 1, str of any plain data, truth + int. -/
namespace Sf
open PySem PySem.Spec PyProof.Rows L2 HT
/-! ### t[::-1], t[::1] -/
section
variable {prog : Program} {w : World} {A : Around} {E : Value → Shared → Prop} {s : Shared}
theorem rev_places (n : Nat) : Builtin.Slice.slicePlaces ((n : Int) - 1) (-1) (-1) = n := by
  unfold Builtin.Slice.slicePlaces
  rw [if_neg (by decide)]
  by_cases h : n = 0
  · subst h; rfl
  · rw [if_pos (by omega), show -(-1 : Int) = 1 from rfl, Int.ediv_one]
    omega
theorem rev_pick (xs : Array Value) : ((List.range xs.size).filterMap fun (m : Nat) => xs[((xs.size : Int) - 1 + (m : Int) * (-1)).toNat]?).toArray = xs.toList.reverse.toArray := by
  have e : ((List.range xs.size).filterMap fun (m : Nat) => xs[((xs.size : Int) - 1 + (m : Int) * (-1)).toNat]?) = xs.toList.reverse := by
    refine List.ext_getElem? fun i => ?_
    have e1 : ((List.range xs.size).filterMap fun (m : Nat) => xs[((xs.size : Int) - 1 + (m : Int) * (-1)).toNat]?) = (List.range xs.size).pmap (fun (m : Nat) (h : m < xs.size) => xs[xs.size - 1 - m]'(by omega)) (fun m hm => List.mem_range.mp hm) := by
      have gen : ∀ (l : List Nat) (hl : ∀ m ∈ l, m < xs.size), (l.filterMap fun (m : Nat) => xs[((xs.size : Int) - 1 + (m : Int) * (-1)).toNat]?) = l.pmap (fun (m : Nat) (h : m < xs.size) => xs[xs.size - 1 - m]'(by omega)) hl := by
        intro l
        induction l with
        | nil => intro _; rfl
        | cons m l ih =>
          intro hl
          have hm := hl m List.mem_cons_self
          have q : xs[((xs.size : Int) - 1 + (m : Int) * (-1)).toNat]? = some (xs[xs.size - 1 - m]'(by omega)) := by
            have : ((xs.size : Int) - 1 + (m : Int) * (-1)).toNat = xs.size - 1 - m := by omega
            rw [this]
            exact Array.getElem?_eq_getElem (by omega)
          rw [List.filterMap_cons, q]
          simp only [List.pmap]
          rw [ih fun x hx => hl x (List.mem_cons_of_mem _ hx)]
      exact gen _ _
    rw [e1]
    by_cases hi : i < xs.size
    · rw [List.getElem?_eq_getElem (by rw [List.length_pmap, List.length_range]; exact hi), List.getElem?_eq_getElem (by rw [List.length_reverse, Array.length_toList]; exact hi)]
      congr 1
      simp only [List.getElem_pmap, List.getElem_reverse, Array.getElem_toList, List.getElem_range, Array.length_toList]
    · rw [List.getElem?_eq_none (by rw [List.length_pmap, List.length_range]; omega), List.getElem?_eq_none (by rw [List.length_reverse, Array.length_toList]; omega)]
  rw [e]
theorem sliceApplied_st {sl : Addr} {vl vu vs : Value} {c : Int} {n : Nat} {Q : Int × Int × Nat → Shared → Prop} (hs : s.heap.IsSliceOf sl vl vu vs) (pl : IsPart vl none) (pu : IsPart vu none) (ps : IsPart vs (some c)) (h0 : c ≠ 0)
    (h : Q ((Builtin.Slice.sliceAdjust none none c (n : Int)).1, c, Builtin.Slice.slicePlaces (Builtin.Slice.sliceAdjust none none c (n : Int)).1 (Builtin.Slice.sliceAdjust none none c (n : Int)).2 c) s) :
    wpAny (model prog w) A (Builtin.Slice.sliceApplied (.ref sl) (pure (n : Int))) Q E s := by
  obtain ⟨os, hos, hcs, hds⟩ := id hs
  unfold Builtin.Slice.sliceApplied Builtin.Slice.sliceFields
  refine wpAny_bind (wpAny_bind (wpAny_field hos hds (x := vl) rfl (wpAny_bind (wpAny_field hos hds (x := vu) rfl (wpAny_bind (wpAny_field hos hds (x := vs) rfl (wpAny_pure ?_)))))))
  refine wpAny_bind (slicePart_ ps ?_)
  show wpAny _ _ (if (c == 0) = true then _ else _) _ _ s
  rw [if_neg (by simpa using h0)]
  refine wpAny_bind (slicePart_ pl (wpAny_bind (slicePart_ pu (wpAny_bind (wpAny_pure ?_)))))
  exact wpAny_pure h
theorem getItem_tuple_rev {t sl : Addr} {items : Array Value} {vl vu vs : Value} {Q : Value → Shared → Prop} (ht : IsTup s.heap t items) (hs : s.heap.IsSliceOf sl vl vu vs) (pl : IsPart vl none) (pu : IsPart vu none) (ps : IsPart vs (some (-1)))
    (h : Q (.ref s.heap.objs.size) { s with heap := s.heap.push { cls := .type "tuple", data := .seq items.toList.reverse.toArray } }) (hsz : items.size ≤ sizeLine) : wpAny (model prog w) A (getItem (.ref t) (.ref sl)) Q E s := by
  obtain ⟨os, hos, hcs, hds⟩ := id hs
  have hTs : s.TypeIs (.ref sl) "slice" := ⟨os, hos, hcs⟩
  have hrev : sizeOk (.seq items.toList.reverse.toArray) := by
    show items.toList.reverse.toArray.size ≤ sizeLine
    rw [List.size_toArray, List.length_reverse, Array.length_toList]
    exact hsz
  unfold getItem
  try with_reducible refine wpAny_holding ?_
  first | refine wpAny_bind (wpAny_pure ?_) | skip
  refine wpAny_bind (wpAny_sequenceKey ht.typeIs (by decide) ?_)
  refine wpAny_bind (wpAny_callSpecial?_slot (name := Str.ofString "__getitem__") ht.typeIs PyProof.Rows.slot_tuple_getitem
    (wpAny_call_entry PyProof.Rows.slot_tuple_getitem ht.typeIs entry_tuple_getitem ?_ (args_tuple_getitem _ _)))
  show wpAny _ _ (Builtin.Tuple.tupleItemsOf (.ref t) >>= _) _ _ s
  refine wpAny_bind (tupleItemsOf_ ht ?_)
  refine wpAny_bind (wpAny_typeOf hTs ?_)
  rw [if_pos (by decide)]
  refine wpAny_bind (sliceApplied_st hs pl pu ps (by decide) ?_)
  have ea : Builtin.Slice.sliceAdjust none none (-1) (items.size : Int) = ((items.size : Int) - 1, -1) := rfl
  rw [ea]
  show wpAny _ _ (if (((items.size : Int) - 1) == 0 && (-1 : Int) == 1 && Builtin.Slice.slicePlaces ((items.size : Int) - 1) (-1) (-1) == items.size) = true then _ else _) _ _ s
  rw [rev_places, if_neg (by rw [show ((-1 : Int) == 1) = false from rfl, Bool.and_false, Bool.false_and]; exact Bool.false_ne_true), rev_pick]
  first
    | exact wpAny_bind (m := Builtin.Tuple.tupleExact _) (wpAny_newObj_type (wpAny_pure ⟨_, rfl, wpAny_pure h⟩) hrev)
    | exact wpAny_bind (m := Builtin.Tuple.tupleExact _) (wpAny_newObj_type (wpAny_bind (wpAny_pure (wpAny_pure ⟨_, rfl, wpAny_pure h⟩))) hrev)
    | exact wpAny_bind (wpAny_bind (m := Builtin.Tuple.tupleExact _) (wpAny_newObj_type (wpAny_pure (wpAny_pure ⟨_, rfl, wpAny_pure h⟩)) hrev))
    | exact wpAny_bind (wpAny_bind (m := Builtin.Tuple.tupleExact _) (wpAny_newObj_type (wpAny_pure ⟨_, rfl, wpAny_pure h⟩) hrev))
theorem getItem_tuple_id {t sl : Addr} {items : Array Value} {vl vu vs : Value} {Q : Value → Shared → Prop} (ht : IsTup s.heap t items) (hs : s.heap.IsSliceOf sl vl vu vs) (pl : IsPart vl none) (pu : IsPart vu none) (ps : IsPart vs (some 1))
    (h : Q (.ref t) s) : wpAny (model prog w) A (getItem (.ref t) (.ref sl)) Q E s := by
  obtain ⟨os, hos, hcs, hds⟩ := id hs
  have hTs : s.TypeIs (.ref sl) "slice" := ⟨os, hos, hcs⟩
  unfold getItem
  try with_reducible refine wpAny_holding ?_
  first | refine wpAny_bind (wpAny_pure ?_) | skip
  refine wpAny_bind (wpAny_sequenceKey ht.typeIs (by decide) ?_)
  refine wpAny_bind (wpAny_callSpecial?_slot (name := Str.ofString "__getitem__") ht.typeIs PyProof.Rows.slot_tuple_getitem
    (wpAny_call_entry PyProof.Rows.slot_tuple_getitem ht.typeIs entry_tuple_getitem ?_ (args_tuple_getitem _ _)))
  show wpAny _ _ (Builtin.Tuple.tupleItemsOf (.ref t) >>= _) _ _ s
  refine wpAny_bind (tupleItemsOf_ ht ?_)
  refine wpAny_bind (wpAny_typeOf hTs ?_)
  rw [if_pos (by decide)]
  refine wpAny_bind (sliceApplied_st hs pl pu ps (by decide) ?_)
  have ea : Builtin.Slice.sliceAdjust none none 1 (items.size : Int) = (0, (items.size : Int)) := rfl
  rw [ea]
  have ep : Builtin.Slice.slicePlaces 0 (items.size : Int) 1 = items.size := places_gen 0 items.size
  show wpAny _ _ (if ((0 : Int) == 0 && (1 : Int) == 1 && Builtin.Slice.slicePlaces 0 (items.size : Int) 1 == items.size) = true then _ else _) _ _ s
  rw [ep, if_pos (by simp)]
  refine wpAny_bind ?_
  show wpAny _ _ (typeOf (.ref t) >>= fun T => pure (T == .type "tuple")) _ _ s
  refine wpAny_bind (wpAny_typeOf ht.typeIs (wpAny_pure ?_))
  first
    | rw [if_pos (by decide)]
    | simp only [beq_self_eq_true, if_true]
  first
    | exact wpAny_bind (wpAny_rule (wpAny_pure ⟨_, rfl, wpAny_pure h⟩))
    | exact wpAny_bind (wpAny_rule (wpAny_bind (wpAny_pure (wpAny_pure ⟨_, rfl, wpAny_pure h⟩))))
end
section
variable {X : Cx} {W : WX'}
def tStp (K : PySem.W.Frag) (te tc : TE) : TE := fun σ H Q => te σ H fun x H1 => tc σ H1 fun y H2 => ∃ a xs c, x = .ref a ∧ y = .int c ∧ SqT K H2 a xs ∧ ((c = 1 ∧ Q (.ref a) H2) ∨ (c = -1 ∧ ∀ p, H2 p = none → Q (.ref p) (upd H2 p (.tup xs.reverse))))
theorem pe_stp {e f : Expr} {te tc : TE} {p3 pos : Pos} (he : PE X e te) (hf : PE X f tc) : PE X (.Subscript e (.Slice none none (some f) p3) pos) (tStp X.K te tc) := by
  refine ⟨fun pins s σ H Q I h => ?_⟩
  refine Subscript_ (thn (he.run pins s σ H _ I h) fun v s1 ⟨x, H1, I1, r1, q1⟩ => ?_)
  refine wpAny_Slice (thn (po_none.run pins s1 σ H1 (fun o H2 => o = none ∧ H2 = H1) I1 ⟨rfl, rfl⟩) fun vl s2 ⟨l, H2, I2, pl, el, e2⟩ => ?_)
  subst el e2
  refine thn (po_none.run pins s2 σ H2 (fun o H3 => o = none ∧ H3 = H2) I2 ⟨rfl, rfl⟩) fun vu s3 ⟨u, H3, I3, pu, eu, e3⟩ => ?_
  subst eu e3
  rw [evalPart_some]
  refine thn (hf.run pins s3 σ H3 _ I3 q1) fun vs s4 ⟨y, H4, I4, ry, q4⟩ => ?_
  obtain ⟨a, xs, c, ex, ey, hx, hc⟩ := q4
  subst ex ey
  cases r1
  obtain ⟨t, rfl⟩ := ry
  have I5 : Inv X pins σ H4 { s4 with heap := s4.heap.push { cls := .type "slice", data := .fields #[vl, vu, .int c t] } } := I4.kept (t' := s4.toks) fun b ob q => Heap.get?_push_of_some _ q
  obtain ⟨its, r, ht, hz⟩ := I5.tuple hx
  have hlen := r.length
  show wpAny (model X.prog X.w) X.A (subscriptTail e (.Slice none none (some f) p3) (.ref a) (.ref s4.heap.objs.size)) (EP X pins σ Q) X.xe { s4 with heap := s4.heap.push { cls := .type "slice", data := .fields #[vl, vu, .int c t] } }
  refine tail_any (ops := [.ref a, .ref s4.heap.objs.size]) ht.typeIs PyProof.Rows.slot_tuple_getitem.lookup ?_ (by with_unfolding_all rfl)
  rcases hc with ⟨rfl, q⟩ | ⟨rfl, q⟩
  · exact getItem_tuple_id ht (Heap.IsSliceOf.new _ vl vu _) pl pu (.int 1 t) ⟨.ref a, H4, I5, rfl, q⟩
  · refine getItem_tuple_rev ht (Heap.IsSliceOf.new _ vl vu _) pl pu (.int (-1) t) ?_ (by rw [List.size_toArray]; omega)
    refine ⟨.ref _, _, I5.laid (t' := s4.toks) (o := .tup xs.reverse) (fun b ob q => Heap.get?_push_of_some _ q) (Nat.le_refl _) ?_, rfl, q _ (I5.hok.fresh (Nat.le_refl _))⟩
    exact ⟨by rw [List.length_reverse]; exact hz, _, r.reverse, IsTup.new _ _⟩
/-- t[::e] -/
def stepK (d : D) (e : D) (S : Sto) : Option (Rz Out) := match d, e with
  | .tup ds, .int c => if c = 1 then some (.ok (.val (.tup ds)) S) else if c = -1 then some (.ok (.val (.tup ds.reverse)) S) else none
  | _, _ => none
def dStep (f g : Dn Out) : Dn Out := fun ρ S => bnd (stl f ρ S) fun d S1 => bnd (stl g ρ S1) fun e S2 => stepK d e S2
theorem d_step {e f : Expr} {g h : Dn Out} {p3 pos : Pos} (he : Pe X W e g) (hf : Pe X W f h) : Pe X W (.Subscript e (.Slice none none (some f) p3) pos) (dStep g h) := by
  refine pe_imp (pe_stp he.d hf.d) fun σ H Q q => ?_
  refine tg1 (R2 := RO X.K X.mg) (g := fun ρ d S1 => bnd (stl h ρ S1) fun e S2 => stepK d e S2) sh_O q fun x _ H1 ρ S1 F1 m1 d sl ok1 rx A => ?_
  refine tgc (R2 := RO X.K X.mg) (g := fun _ e S2 => stepK d e S2) sh_O (fun F m => Rep X.K F m x d) (fun F m F' m' e p r => Rep.mono e p d r) ⟨ρ, S1, F1, m1, rx, sl, ok1, A⟩ fun y _ H2 ρ2 S2 F2 m2 b rx2 sl2 ok2 ry A2 => ?_
  unfold stepK at A2
  split at A2
  · rename_i ds c
    cases ry
    obtain ⟨a, xs, rfl, hs, hr⟩ := viewT_ok ok2 rx2 rfl
    refine ⟨a, xs, c, rfl, rfl, hs, ?_⟩
    split at A2
    · rename_i hc
      exact .inl ⟨hc, A2 _ H2 F2 m2 (Stp.refl ..) ok2 rx2⟩
    · split at A2
      · rename_i hc
        refine .inr ⟨hc, fun p hp => ?_⟩
        obtain ⟨ok3, st3⟩ := ok2.new (o := .tup xs.reverse) hp
        obtain ⟨e3, s3, k3⟩ := freeze_obj st3 ok3 hp (ok2.fnone hp) (ok2.notin hp) upd_same
        exact A2 _ _ _ m2 s3 k3 (.tup (.inl (.inl upd_same)) (RepL.mono e3 (Pre.refl m2) _ hr.reverse))
      · exact A2.elim
  · exact A2.elim
end

/-! ### tuple * 1, tuple * 0 -/
theorem tuple_mul1 (l : Addr) (items : Array Value) (n : Nat) (dd : Option Addr) (sl : Array (Option Value)) (u : Tok) :
    Meets (Builtin.«tuple.__mul__» ⟨[.ref l, .int 1 u], []⟩) (fun _ R s => s.heap.get? l = some { cls := .type "tuple", dict := dd, data := .seq items n, slots := sl } ∧ R (.ok (.ret (Value.ref l))) s) :=
  .of_wp fun prog w A R s h => by
    obtain ⟨hp, g, d, tk, os⟩ := s
    obtain ⟨hl, h⟩ := h
    have f1 := AutoSeq1.idx_int
    have c0 : (decide ((1 : Int) < -(2 ^ 63)) || decide ((1 : Int) ≥ 2 ^ 63)) = false := by decide
    have c1 : (items.isEmpty || (1 : Int) == 1) = true := by rw [show ((1 : Int) == 1) = true from rfl, Bool.or_true]
    wp_walk using wpAny_loadPart' hl
    repeat (first
      | (refine wpAny_ite_false (decide_eq_false (by rw [c0]; exact Bool.false_ne_true)) ?_; wp_walk using wpAny_loadPart' hl)
      | (refine wpAny_ite_true (decide_eq_true c1) ?_; wp_walk using wpAny_loadPart' hl))
    exact ⟨_, rfl, h⟩
theorem tuple_mul0 (l : Addr) (items : Array Value) (n : Nat) (dd : Option Addr) (sl : Array (Option Value)) (u : Tok) (hne : items.isEmpty = false) :
    Meets (Builtin.«tuple.__mul__» ⟨[.ref l, .int 0 u], []⟩) (fun _ R s => s.heap.get? l = some { cls := .type "tuple", dict := dd, data := .seq items n, slots := sl } ∧
      R (.ok (.ret (Value.ref s.heap.objs.size))) { s with heap := s.heap.push { cls := Value.type "tuple", data := Data.seq #[] }, toks := s.toks }) :=
  .of_wp fun prog w A R s h => by
    obtain ⟨hp, g, d, tk, os⟩ := s
    obtain ⟨hl, h⟩ := h
    have f1 := AutoSeq1.idx_int
    have c0 : (decide ((0 : Int) < -(2 ^ 63)) || decide ((0 : Int) ≥ 2 ^ 63)) = false := by decide
    have c1 : (items.isEmpty || (0 : Int) == 1) = false := by rw [hne]; rfl
    have c2 : (decide ((0 : Int) ≤ 0) || items.isEmpty) = true := by rw [decide_eq_true (Int.le_refl 0)]; rfl
    wp_walk using wpAny_loadPart' hl
    repeat (first
      | (refine wpAny_ite_false (decide_eq_false (by rw [c0]; exact Bool.false_ne_true)) ?_; wp_walk using wpAny_loadPart' hl)
      | (refine wpAny_ite_false (decide_eq_false (by rw [c1]; exact Bool.false_ne_true)) ?_; wp_walk using wpAny_loadPart' hl)
      | (refine wpAny_ite_true (decide_eq_true c2) ?_; wp_walk using wpAny_loadPart' hl))
    exact ⟨_, rfl, h⟩
def rRep01 (K : PySem.W.Frag) : R2 := fun x y H Q => ∃ l k xs, x = .ref l ∧ y = .int k ∧ SqT K H l xs ∧ xs ≠ [] ∧ ((k = 1 ∧ Q (.ref l) H) ∨ (k = 0 ∧ ∀ p, H p = none → Q (.ref p) (upd H p (.tup []))))
section
variable {X : Cx}
theorem op_rep01 : OpR X (binaryOp .Mult) (rRep01 X.K) := by
  intro pins s σ H x y v u Q I rx ry h
  obtain ⟨l, k, xs, rfl, rfl, hT, hne, hk⟩ := h
  cases rx
  obtain ⟨t, rfl⟩ := ry
  obtain ⟨its, r, ⟨⟨cls, dd, data, sl⟩, ho, hc, n, hd⟩, hs⟩ := I.tuple hT
  simp only at hc hd
  subst hc hd
  have hle : its.length = xs.length := r.length.symm
  have hi : its.toArray.isEmpty = false := by
    cases its with
    | nil => exact absurd (List.eq_nil_of_length_eq_zero hle.symm) hne
    | cons a b => rfl
  rcases hk with ⟨rfl, q⟩ | ⟨rfl, q⟩
  · exact wpAny_binaryOp_repeat_ref (T := "tuple") (U := "int") (by decide) ⟨_, ho, rfl⟩ (fun s' => typeIs_int s' 1 t) noFill_tuple_mul F.fills_int_mul F.slot_int_rmul repeat_tuple F.slot_int_index.lookup
      (call_meets F.slot_int_rmul (typeIs_int s 1 t) F.entry_int_rmul (F.args_int_rmul_2 _ _) (int_rmul_tuple 1 t l its.toArray n dd sl)
        ⟨ho, rfl, ⟨_, ho, rfl⟩, call_meets F.slot_tuple_mul ⟨_, ho, rfl⟩ F.entry_tuple_mul (F.args_tuple_mul_2 _ _) (tuple_mul1 l its.toArray n dd sl t) ⟨ho, ⟨.ref l, H, I, rfl, q⟩⟩⟩)
  · refine wpAny_binaryOp_repeat_ref (T := "tuple") (U := "int") (by decide) ⟨_, ho, rfl⟩ (fun s' => typeIs_int s' 0 t) noFill_tuple_mul F.fills_int_mul F.slot_int_rmul repeat_tuple F.slot_int_index.lookup
      (call_meets F.slot_int_rmul (typeIs_int s 0 t) F.entry_int_rmul (F.args_int_rmul_2 _ _) (int_rmul_tuple 0 t l its.toArray n dd sl)
        ⟨ho, rfl, ⟨_, ho, rfl⟩, call_meets F.slot_tuple_mul ⟨_, ho, rfl⟩ F.entry_tuple_mul (F.args_tuple_mul_2 _ _) (tuple_mul0 l its.toArray n dd sl t hi) ⟨ho, ?_⟩⟩)
    refine ⟨.ref s.heap.objs.size, _, I.laid (t' := s.toks) (o := .tup []) (fun b ob q => Heap.get?_push_of_some _ q) (Nat.le_refl _) ?_, rfl, q _ (I.hok.fresh (Nat.le_refl _))⟩
    exact ⟨Nat.zero_le _, _, .nil, IsTup.new _ _⟩
def mulT : O2 := fun S a b => match a, b with
  | .tup ds, .int k => if ds.isEmpty = true then none else if k = 1 then some (.val (.tup ds)) else if k = 0 then some (.val (.tup [])) else none
  | a, b => mulX S a b
theorem op_mulT : OpR X (binaryOp .Mult) (rOf X.K X.mg mulT) := by
  intro pins s σ H x y v u Q I rx ry ⟨S, F, m, a, b, o, ok, ra, rb, e, q⟩
  unfold mulT at e
  split at e
  · rename_i ds k
    cases rb
    obtain ⟨p, xs, rfl, hs, hr⟩ := viewT_ok ok ra rfl
    refine op_rep01 pins s σ H _ _ v u Q I rx ry ⟨p, k, xs, rfl, rfl, hs, ?_⟩
    have hne : ¬ ds.isEmpty = true := fun z => by rw [if_pos z] at e; cases e
    have hx : xs ≠ [] := fun z => by
      subst z
      cases hr
      exact hne rfl
    rw [if_neg hne] at e
    refine ⟨hx, ?_⟩
    split at e
    · rename_i hk
      cases e
      exact .inl ⟨hk, q _ H F m (Stp.refl ..) ok ra⟩
    · split at e
      · rename_i hk
        cases e
        refine .inr ⟨hk, fun p hp => ?_⟩
        obtain ⟨ok3, st3⟩ := ok.new (o := .tup []) hp
        obtain ⟨e3, s3, k3⟩ := freeze_obj st3 ok3 hp (ok.fnone hp) (ok.notin hp) upd_same
        exact q _ _ _ m s3 k3 (.tup (.inl (.inl upd_same)) .nil)
      · cases e
  · exact op_mulX pins s σ H x y v u Q I rx ry ⟨S, F, m, _, _, o, ok, ra, rb, e, q⟩

/-! ### str of any plain data -/
def strY : OC := fun S ds => match ds with
  | [.str z] => some (.val (.str z))
  | [d] => if (topd S d).plain = true ∧ (topd S d).py.showable = true ∧ (topd S d).py.depth ≤ 60 ∧ (topd S d).py.shown.length ≤ sizeLine then some (.val (.str (topd S d).py.shown)) else none
  | _ => none
theorem cl_strY (Z : SysB X.base) (hg : X.A.guards = some []) (hu : X.A.units + 64 < cLine) : CallR X (.type "str") (rCl X.K X.mg strY) := by
  intro pins s σ H xs us Q I rx ⟨S, F, m, ds, u, ok, r, e, q⟩
  unfold strY at e
  split at e
  · rename_i z
    cases r with
    | cons r1 r2 =>
      cases r2
      cases r1
      cases e
      obtain ⟨u1, rfl, t, rfl⟩ := vals1 rx
      exact PySem.P.str_of_str ⟨.str z, H, I, ⟨t, rfl⟩, rof_val ok q (.str _)⟩
  · rename_i d hns
    cases r with
    | cons r1 r2 =>
      cases r2
      obtain ⟨u1, rfl, ru⟩ := vals1 rx
      split at e
      · rename_i hc
        cases e
        obtain ⟨h1, h2, h4, h5⟩ := hc
        have hq := rof_val ok q (.str _)
        cases hf : d.flat with
        | false =>
          obtain ⟨F', s1, r3⟩ := topd_rep ok r1
          obtain ⟨as, q1, off⟩ := rep_readsZ Z I s1 _ _ _ r3 h1 ru
          obtain ⟨a, rfl⟩ : ∃ a, u1 = Value.ref a := by
            cases r1 <;> first | exact ⟨_, ru⟩ | cases hf
          exact PySem.str_of_reads q1 h2 (fun _ => off) hg (by omega) (fun _ _ z => z) (fun h' t tk hk => ⟨.str _, H, I.kept hk, ⟨t, rfl⟩, hq⟩) h5
        | true =>
          cases r1 with
          | non =>
            cases ru
            exact PySem.P.str_of_none ⟨.str _, H, I.tok _, ⟨_, rfl⟩, hq⟩
          | bl b =>
            cases ru
            have e : (topd S (.bl b)).py.shown = (if b then ("True" : Str) else "False") := by cases b <;> rfl
            rw [e] at hq
            exact PySem.P.str_of_bool ⟨.str _, H, I.tok _, ⟨_, rfl⟩, hq⟩
          | int i =>
            obtain ⟨t, rfl⟩ := ru
            have hs : (PyData.int i).showable = true := h2
            exact PySem.P.str_of_int (of_decide_eq_true (by simpa only [PyData.showable] using hs)) ⟨.str _, H, I.tok _, ⟨_, rfl⟩, hq⟩
          | str x => exact absurd rfl (hns x)
          | tup _ _ => cases hf
          | lst _ _ => cases hf
          | fls _ _ => cases hf
          | emp _ => cases hf
          | ref _ => cases hf
      · cases e
  · cases e

/-! ### truth + int -/
theorem gives_bool_int (p : Bool) (a : Int) (t : Tok) : Gives (Builtin.«int.__add__» ⟨[.bool p, .int a t], []⟩) (.int ((if p = true then (1 : Int) else 0) + a)) := by cases p <;> exact .of_eq rfl
theorem sub_int_bool : isSubtype (.type "int") (.type "bool") = pure false := by kernel_rfl
def addX : O2 := fun S a b => match a, b with
  | .bl p, .int i => some (.val (.int ((if p = true then (1 : Int) else 0) + i)))
  | a, b => addD S a b
theorem op_addX : OpR X (binaryOp .Add) (rOf X.K X.mg addX) := by
  intro pins s σ H x y v u Q I rx ry ⟨S, F, m, a, b, o, ok, ra, rb, e, q⟩
  unfold addX at e
  split at e
  · cases ra
    cases rb
    cases e
    cases rx
    obtain ⟨t, rfl⟩ := ry
    exact binaryOp_left_gives (op := .Add) (T := "bool") (U := "int") (by decide) rfl (fun s' => typeIs_int s' _ t) PySem.F.fills_bool_add PySem.F.fills_int_add sub_int_bool PySem.F.slot_bool_add PySem.F.slot_int_radd PySem.F.entry_int_add (PySem.F.args_int_add_2 _ _)
      (gives_bool_int _ _ t) trivial ⟨.int _, H, I.tok _, ⟨_, rfl⟩, rof_val ok q (.int _)⟩
  · exact op_addD pins s σ H x y v u Q I rx ry ⟨S, F, m, _, _, o, ok, ra, rb, e, q⟩
end
/-! ### an argument that goes into the store -/
def aConsB (f : Dn Out) (g : Dn (List D)) : Dn (List D) := fun ρ S => bnd (bxd f ρ S) fun d S1 => bnd (g ρ S1) fun ds S2 => some (.ok (d :: ds) S2)
theorem a_consB {X : Cx} {W : WX'} {e : Expr} {es : List Expr} {f : Dn Out} {g : Dn (List D)} (ha : Pe X W e f) (hr : Pa X W es g) (hs : starEach (e :: es) X.env = (false, eval e X.env) :: starEach es X.env := by rfl) : Pa X W (e :: es) (aConsB f g) := by
  refine pa_imp (pa_cons ha.b hr hs) fun σ H Q q => ?_
  refine tg1 (R2 := RL X.K) (g := fun ρ d S1 => bnd (g ρ S1) fun ds S2 => some (.ok (d :: ds) S2)) sh_L q fun x _ H1 ρ S1 F1 m1 d sl ok1 rx A => ?_
  refine tgc (R2 := RL X.K) (g := fun _ ds S2 => some (.ok (d :: ds) S2)) sh_L (fun F m => Rep X.K F m x d) (fun F m F' m' e p r => Rep.mono e p d r) ⟨ρ, S1, F1, m1, rx, sl, ok1, A⟩ fun xs _ H2 ρ S2 F2 m2 ds rx sl ok2 rxs A => ?_
  exact A (x :: xs) H2 F2 m2 (Stp.refl ..) ok2 (.cons rx rxs)
/-! ### != where one tuple is empty -/
def neE : O2 := fun S a b => match neX S a b with
  | some r => some r
  | none => match viewT (topd S a), viewT (topd S b) with
    | some xs, some ys => if xs.isEmpty || ys.isEmpty then some (.val (.bl (!(xs.isEmpty && ys.isEmpty)))) else none
    | _, _ => none
theorem op_neE {X : Cx} (hu : X.A.units + 64 < cLine) : OpR X (compareOp .NotEq) (rOf X.K X.mg neE) := by
  intro pins s σ H x y v u Q I rx ry ⟨S, F, m, a, b, r, ok, ra, rb, e, q⟩
  unfold neE at e
  split at e
  · rename_i r' e'
    exact op_neX hu pins s σ H x y v u Q I rx ry ⟨S, F, m, a, b, r, ok, ra, rb, by rw [e', e], q⟩
  · split at e
    · rename_i xs ys ea eb
      split at e
      · rename_i hc
        cases e
        have q1 := q (.bl _) H F m (Stp.refl ..) ok (.bl _)
        obtain ⟨F1, s1, r1⟩ := topd_rep ok ra
        obtain ⟨F2, s2, r2⟩ := topd_rep ok rb
        rw [viewT_inv ea] at r1
        rw [viewT_inv eb] at r2
        cases r1 with
        | tup h1 t1 =>
          cases r2 with
          | tup h2 t2 =>
            cases rx; cases ry
            obtain ⟨i1, v1, ⟨o1, ho1, hc1, n1, hd1⟩, _⟩ := I.tuple (same_t s1 h1)
            obtain ⟨i2, v2, ⟨o2, ho2, hc2, n2, hd2⟩, _⟩ := I.tuple (same_t s2 h2)
            have l1 : i1.length = xs.length := by rw [← v1.length, t1.length]
            have l2 : i2.length = ys.length := by rw [← v2.length, t2.length]
            have hmin : min i1.length i2.length = 0 := by
              rw [l1, l2]
              rcases Bool.or_eq_true_iff.mp hc with z | z
              · rw [List.isEmpty_iff.mp z]; simp
              · rw [List.isEmpty_iff.mp z]; simp
            refine SeqAt.RcNeAt.tuples (e := fun _ => true) ⟨o1, ho1, hc1, n1, hd1⟩ ⟨o2, ho2, hc2, n2, hd2⟩ (by omega) (fun j g1 g2 => ?_) X.prog X.w X.xe _ ?_
            · exfalso
              rw [List.size_toArray] at g1 g2
              omega
            · refine ⟨.bl _, H, I, rfl, ?_⟩
              have : ((List.range (min i1.toArray.size i2.toArray.size)).all (fun _ => true) && i1.toArray.size == i2.toArray.size) = (xs.isEmpty && ys.isEmpty) := by
                rw [List.size_toArray, List.size_toArray, hmin, l1, l2]
                rcases Bool.or_eq_true_iff.mp hc with z | z
                · rw [List.isEmpty_iff.mp z]
                  cases ys <;> rfl
                · rw [List.isEmpty_iff.mp z]
                  cases xs <;> rfl
              rw [this]
              exact q1
      · cases e
    · cases e
end Sf
/-! Sf17: own classes: fields read and stored, methods called, instances made. -/
namespace Sf
open L2 PySem PySem.Spec PyProof.Rows

section
variable {K : PySem.W.Frag} {F : Hp} {m : List Addr}
abbrev FsR (K : PySem.W.Frag) (F : Hp) (m : List Addr) (gs : List (Str × V)) (fs : List (Str × D)) : Prop := Paired (fun p q => p.1 = q.1 ∧ Rep K F m p.2 q.2) gs fs
theorem fs_look {n : Str} {d : D} : ∀ {gs : List (Str × V)} {fs : List (Str × D)}, FsR K F m gs fs → fs.lookup n = some d → ∃ v, gs.lookup n = some v ∧ Rep K F m v d
  | [], [], _, e => by cases e
  | (a, v) :: gs, (b, x) :: fs, .cons ⟨h1, h2⟩ t, e => by
    have h1 : a = b := h1
    subst h1
    rw [List.lookup_cons] at e ⊢
    cases h : n == a with
    | true =>
      rw [h] at e
      cases e
      exact ⟨v, rfl, h2⟩
    | false =>
      rw [h] at e
      exact fs_look t e
theorem fs_none {n : Str} : ∀ {gs : List (Str × V)} {fs : List (Str × D)}, FsR K F m gs fs → fs.lookup n = none → gs.lookup n = none
  | [], [], _, _ => rfl
  | (a, v) :: gs, (b, x) :: fs, .cons ⟨h1, h2⟩ t, e => by
    have h1 : a = b := h1
    subst h1
    rw [List.lookup_cons] at e ⊢
    cases h : n == a with
    | true => rw [h] at e; cases e
    | false =>
      rw [h] at e
      exact fs_none t e
theorem fs_length : ∀ {gs : List (Str × V)} {fs : List (Str × D)}, FsR K F m gs fs → gs.length = fs.length
  | [], [], _ => rfl
  | _ :: _, _ :: _, .cons _ t => by rw [List.length_cons, List.length_cons, fs_length t]
def putO (n : Str) (d : D) : List (Str × D) → List (Str × D)
  | [] => [(n, d)]
  | (g, x) :: r => if g = n then (g, d) :: r else (g, x) :: putO n d r
theorem fs_put {n : Str} {v : V} {d : D} (r : Rep K F m v d) : ∀ {gs : List (Str × V)} {fs : List (Str × D)}, FsR K F m gs fs → FsR K F m (putF n v gs) (putO n d fs)
  | [], [], _ => .cons ⟨rfl, r⟩ .nil
  | (a, u) :: gs, (b, x) :: fs, .cons ⟨h1, h2⟩ t => by
    have h1 : a = b := h1
    subst h1
    unfold putF putO
    by_cases h : a = n
    · rw [if_pos h, if_pos h]
      exact .cons ⟨rfl, r⟩ t
    · rw [if_neg h, if_neg h]
      exact .cons ⟨rfl, h2⟩ (fs_put r t)
end

/-- the fields of an instance of c -/
def fieldsD (S : Sto) (c : Str) (d : D) : Option (List (Str × D)) := match d with
  | .ref k => match S[k]? with
    | some (.ins c' fs) => if c' = c then some fs else none
    | _ => none
  | _ => none
theorem fields_ok {K : PySem.W.Frag} {mg : Str → Option Value} {H F : Hp} {m : List Addr} {S : Sto} {c : Str} {C : Addr} {d : D} {x : V} {fs : List (Str × D)} (ok : SOk K mg H F m S) (rx : Rep K F m x d) (hc : mg c = some (.ref C)) (e : fieldsD S c d = some fs) :
    ∃ a dx gs k, d = .ref k ∧ m[k]? = some a ∧ x = .ref a ∧ H a = some (.ins C dx gs) ∧ FsR K F m gs fs := by
  unfold fieldsD at e
  split at e
  · rename_i k
    split at e
    · rename_i c' fs' e1
      split at e
      · rename_i hcc
        cases e
        subst hcc
        cases rx with
        | @ref a _ h1 =>
          obtain ⟨C', dx, gs, h2, h3, h4⟩ := ok.at h1 e1
          rw [hc] at h2
          cases h2
          exact ⟨a, dx, gs, k, rfl, h1, rfl, h3, h4⟩
      · cases e
    · cases e
  · cases e
def fldK (c n : Str) (d : D) (S : Sto) : Option (Rz Out) := match fieldsD S c d with
  | some fs => match fs.lookup n with
    | some x => some (.ok (.val x) S)
    | none => none
  | none => none
def dFld (c n : Str) (f : Dn Out) : Dn Out := fun ρ S => bnd (stl f ρ S) (fldK c n)
def fpK (c n : Str) (d o : D) (ρ : En) (S : Sto) : Option Fl := match o, fieldsD S c o with
  | .ref k, some fs => if fs.length < 1000 then some (.nx ρ (S.set k (.ins c (putO n d fs)))) else none
  | _, _ => none
def sFldD (c n : Str) (f g : Dn Out) : Sn := fun ρ S => bnS (stl g ρ S) ρ fun d S1 => bnS (stl f ρ S1) ρ fun o S2 => fpK c n d o ρ S2
def sFldB (c n : Str) (f g : Dn Out) : Sn := fun ρ S => bnS (bxd g ρ S) ρ fun d S1 => bnS (stl f ρ S1) ρ fun o S2 => fpK c n d o ρ S2
section
variable {X : Cx} {W : WX'} {e value : Expr} {f g : Dn Out} {c n : Str} {C : Addr} {pos pos' : Pos}
theorem d_fld (hc : X.mg c = some (.ref C)) (cl : Cls X.K C) (na : NoAttr X.K C n) (he : Pe X W e f) (hb : attributeBase e n X.env (eval e X.env) = eval e X.env := by rfl) : Pe X W (.Attribute e n pos) (dFld c n f) := by
  refine pe_imp (pe_fld he.d hb) fun σ H Q q => ?_
  refine tg1 (R2 := RO X.K X.mg) (g := fun _ => fldK c n) sh_O q fun x _ H1 ρ S1 F1 m1 d sl ok1 rx A => ?_
  unfold fldK at A
  cases e1 : fieldsD S1 c d with
  | none => rw [e1] at A; exact A.elim
  | some fs =>
    rw [e1] at A
    obtain ⟨a, dx, gs, k, _, _, rfl, h3, h4⟩ := fields_ok ok1 rx hc e1
    have A : Aft X.K X.mg (RO X.K X.mg) (fun c d H' => W c d σ H') H1 F1 m1 (match fs.lookup n with
      | some x => some (.ok (.val x) S1)
      | none => none) Q := A
    cases e2 : fs.lookup n with
    | none => rw [e2] at A; exact A.elim
    | some y =>
      rw [e2] at A
      obtain ⟨v, h5, h6⟩ := fs_look h4 e2
      exact ⟨a, C, dx, gs, v, rfl, h3, cl, na, h5, A v H1 F1 m1 (Stp.refl ..) ok1 h6⟩
theorem fp_ok {H1 : Hp} {Dd : Ends} {σ : L2.St} {ρ : En} {S : Sto} {F : Hp} {m : List Addr} {d o : D} {v x : V} (hc : X.mg c = some (.ref C)) (cl : Cls X.K C) (na : NoAttr X.K C n) (sl : SlR X.K F m σ ρ) (ok : SOk X.K X.mg H1 F m S) (rv : Rep X.K F m v d) (rx : Rep X.K F m x o)
    (A : AftS X.K X.mg W H1 F m (fpK c n d o ρ S) Dd) : ∃ a C dx fs, x = .ref a ∧ H1 a = some (.ins C dx fs) ∧ Cls X.K C ∧ NoAttr X.K C n ∧ fs.length < 1000 ∧ Dd.nx σ (upd H1 a (.ins C dx (putF n v fs))) := by
  unfold fpK at A
  split at A
  · rename_i k fs e1
    split at A
    · rename_i hl
      obtain ⟨a, dx, gs, k', hk, h1, rfl, h3, h4⟩ := fields_ok ok rx hc e1
      cases hk
      obtain ⟨k4, st4⟩ := ok.put (u := .ins C dx (putF n v gs)) (ob := .ins c (putO n d fs)) h1 ⟨C, dx, _, hc, upd_same, fs_put rv h4⟩
      exact ⟨a, C, dx, gs, rfl, h3, cl, na, by rw [fs_length h4]; exact hl, A σ _ _ _ st4 k4 sl⟩
    · exact A.elim
  · exact A.elim
theorem s_fld (hc : X.mg c = some (.ref C)) (cl : Cls X.K C) (na : NoAttr X.K C n) (ho : Pe X W e f) (hv : Pe X W value g) (hs : swapsWith value (some (.Attribute e n pos')) pos.line X.env = pure false := by rfl) :
    Ps X W (.Assign [.Attribute e n pos'] value pos) (sFldD c n f g) := by
  refine ps_imp (ps_fld ho.d hv.d hs) fun Dd σ H z => ?_
  obtain ⟨ρ0, S0, F0, m0, sl0, ok0, A0⟩ := z
  refine tsc (R1 := RD X.K) (g := fun ρ d S1 => bnS (stl f ρ S1) ρ fun o S2 => fpK c n d o ρ S2) (fun _ _ => True) (fun _ _ _ _ _ _ h => h) ⟨ρ0, S0, F0, m0, trivial, sl0, ok0, A0⟩ fun v _ H1 ρ1 S1 F1 m1 d _ sl1 ok1 rv A1 => ?_
  refine tsc (R1 := RD X.K) (g := fun ρ o S2 => fpK c n d o ρ S2) (fun F m => Rep X.K F m v d) (fun F m F' m' e p r => Rep.mono e p d r) ⟨ρ1, S1, F1, m1, rv, sl1, ok1, A1⟩ fun x _ H2 ρ2 S2 F2 m2 o rv sl2 ok2 rx A2 => ?_
  exact fp_ok hc cl na sl2 ok2 rv rx A2
theorem s_fldB (hc : X.mg c = some (.ref C)) (cl : Cls X.K C) (na : NoAttr X.K C n) (ho : Pe X W e f) (hv : Pe X W value g) (hs : swapsWith value (some (.Attribute e n pos')) pos.line X.env = pure false := by rfl) :
    Ps X W (.Assign [.Attribute e n pos'] value pos) (sFldB c n f g) := by
  refine ps_imp (ps_fld ho.d hv.b hs) fun Dd σ H z => ?_
  obtain ⟨ρ0, S0, F0, m0, sl0, ok0, A0⟩ := z
  refine tsc (R1 := RD X.K) (g := fun ρ d S1 => bnS (stl f ρ S1) ρ fun o S2 => fpK c n d o ρ S2) (fun _ _ => True) (fun _ _ _ _ _ _ h => h) ⟨ρ0, S0, F0, m0, trivial, sl0, ok0, A0⟩ fun v _ H1 ρ1 S1 F1 m1 d _ sl1 ok1 rv A1 => ?_
  refine tsc (R1 := RD X.K) (g := fun ρ o S2 => fpK c n d o ρ S2) (fun F m => Rep X.K F m v d) (fun F m F' m' e p r => Rep.mono e p d r) ⟨ρ1, S1, F1, m1, rv, sl1, ok1, A1⟩ fun x _ H2 ρ2 S2 F2 m2 o rv sl2 ok2 rx A2 => ?_
  exact fp_ok hc cl na sl2 ok2 rv rx A2
end

/-! ### methods -/
/-- a method that may be called -/
structure Cm (P : Program) (w : World) (K : PySem.W.Frag) (mg : Str → Option Value) (base : Heap) (k : Nat) (c x : Str) (n : Nat) (m : MD) : Prop where
  ex : ∃ (C f : Addr) (fd : FuncData) (ps : List Str), FnG P w K mg base k f fd ps m ∧ ps.length = n ∧ mg c = some (.ref C) ∧ Cls K C ∧ Meth K C x f ∧ Binds K fd ps []
/-- what stands of a method behind the top -/
structure Dm (K : PySem.W.Frag) (mg : Str → Option Value) (c x q : Str) (st : Stmt) (ps : List Str) : Prop where
  ex : ∃ (C f : Addr) (fd : FuncData), L2.Fun K x q st f fd ∧ mg c = some (.ref C) ∧ Cls K C ∧ Meth K C x f ∧ Binds K fd ps []
/-- an __init__ -/
structure Ci (P : Program) (w : World) (K : PySem.W.Frag) (mg : Str → Option Value) (base : Heap) (k : Nat) (c : Str) (n : Nat) (m : MD) : Prop where
  ex : ∃ (C f : Addr) (fd : FuncData) (ps : List Str), FnG P w K mg base k f fd ps m ∧ ps.length = n ∧ mg c = some (.ref C) ∧ Mk K C f ∧ Binds K fd ps []
structure Di (K : PySem.W.Frag) (mg : Str → Option Value) (c q : Str) (st : Stmt) (ps : List Str) : Prop where
  ex : ∃ (C f : Addr) (fd : FuncData), L2.Fun K "__init__" q st f fd ∧ mg c = some (.ref C) ∧ Mk K C f ∧ Binds K fd ps []
section
variable {P : Program} {w : World} {K : PySem.W.Frag} {mg : Str → Option Value} {base : Heap} {k j : Nat} {c x q : Str} {st : Stmt} {ps N : List Str} {g : Sn} {n : Nat} {m : MD}
theorem cm_of (d : Dm K mg c x q st ps) (S : FnScope N ps (L2.defScope st))
    (hbody : ∀ (f : Addr) (cdv : Value) (A : Around) (outer : List Env) (s : Shared) (H : Hp) (E : XK), Stand (cxOf (L2.CX P w) P w K mg base N q (L2.defScope st) f cdv A outer s H E) (bodyW E) k →
      Pss (cxOf (L2.CX P w) P w K mg base N q (L2.defScope st) f cdv A outer s H E) (bodyW E) (L2.defBody st) g) : Cm P w K mg base (k + 1) c x ps.length (defD N.length g) := by
  obtain ⟨C, f, fd, F, hm, hcl, hme, hb⟩ := d.ex
  exact ⟨C, f, fd, ps, fn_g F S fun cdv A outer s H E Z => hbody f cdv A outer s H E Z, rfl, hm, hcl, hme, hb⟩
theorem ci_of (d : Di K mg c q st ps) (S : FnScope N ps (L2.defScope st))
    (hbody : ∀ (f : Addr) (cdv : Value) (A : Around) (outer : List Env) (s : Shared) (H : Hp) (E : XK), Stand (cxOf (L2.CX P w) P w K mg base N q (L2.defScope st) f cdv A outer s H E) (bodyW E) k →
      Pss (cxOf (L2.CX P w) P w K mg base N q (L2.defScope st) f cdv A outer s H E) (bodyW E) (L2.defBody st) g) : Ci P w K mg base (k + 1) c ps.length (defD N.length g) := by
  obtain ⟨C, f, fd, F, hm, hme, hb⟩ := d.ex
  exact ⟨C, f, fd, ps, fn_g F S fun cdv A outer s H E Z => hbody f cdv A outer s H E Z, rfl, hm, hme, hb⟩
end
def insB (c n : Str) (S : Sto) (d : D) : Bool := match fieldsD S c d with
  | some fs => (fs.lookup n).isNone
  | none => false
def dMeth (c n : Str) (l : Nat) (m : MD) (f : Dn Out) (g : Dn (List D)) : Dn Out := fun ρ S => bnd (stl f ρ S) fun o S1 => if insB c n S1 o = true then bnd (g ρ S1) fun ds S2 => if (o :: ds).length = l then m (o :: ds) S2 else none else none
section
variable {X : Cx} {W : WX'} {x c : Str} {o e : Expr} {es : List Expr} {f : Dn Out} {g : Dn (List D)} {p apos pos : Pos} {k j n : Nat} {m : MD}
theorem tg_meth {K : PySem.W.Frag} {mg : Str → Option Value} {σ : L2.St} {H : Hp} {Q : VK} {C : Addr} (hc : mg c = some (.ref C)) (h : Tg K mg (RO K mg) W (dMeth c x n m f g) σ H Q) :
    Tg K mg (RD K) W (stl f) σ H fun v H1 => ∃ a dx fs, v = .ref a ∧ H1 a = some (.ins C dx fs) ∧ fs.lookup x = none ∧ Tg K mg (RL K) W g σ H1 fun vs H2 => GSp K mg n m (v :: vs) H2 Q (fun c d H' => W c d σ H') := by
  refine tg1 (R2 := RO K mg) (g := fun ρ (ob : D) S1 => if insB c x S1 ob = true then bnd (g ρ S1) fun ds S2 => if (ob :: ds).length = n then m (ob :: ds) S2 else none else none) sh_O h fun v _ H1 ρ S1 F1 m1 d sl ok1 rx A => ?_
  by_cases hi : insB c x S1 d = true
  · rw [if_pos hi] at A
    unfold insB at hi
    match e1 : fieldsD S1 c d, hi with
    | none, hi => cases hi
    | some fs, hi =>
      obtain ⟨a, dx, gs, kk, _, _, rfl, h3, h4⟩ := fields_ok ok1 rx hc e1
      refine ⟨a, dx, gs, rfl, h3, fs_none h4 (Option.isNone_iff_eq_none.mp hi), ?_⟩
      refine tgc (R2 := RO K mg) (g := fun _ ds S2 => if (d :: ds).length = n then m (d :: ds) S2 else none) sh_O (fun F m => Rep K F m (.ref a) d) (fun F m F' m' e p r => Rep.mono e p d r) ⟨ρ, S1, F1, m1, rx, sl, ok1, A⟩ fun xs _ H2 ρ2 S2 F2 m2 ds rx2 sl2 ok2 rxs A2 => ?_
      by_cases hl : (d :: ds).length = n
      · rw [if_pos hl] at A2
        exact ⟨by rw [List.length_cons, rxs.length]; exact hl, d :: ds, S2, F2, m2, .cons rx2 rxs, ok2, A2⟩
      · rw [if_neg hl] at A2
        exact A2.elim
  · rw [if_neg hi] at A
    exact A.elim
theorem d_meth {pl : Sem Bool} (M : Cm X.prog X.w X.K X.mg X.base k c x n m) (Z : Stand X W j) (hj : k ≤ j) (ho : Pe X W o f) (ha : Pa X W (e :: es) g)
    (hst : starEach (e :: es) X.env = (false, eval e X.env) :: starEach es X.env := by rfl) (hpl : (backTo pos (starEach es X.env)).any (·.1) = false := by rfl)
    (ht : eval (.Call (.Attribute o x apos) (e :: es) [] pos) X.env = (do
      let ov ← eval o X.env
      standAt apos.atName
      let (f, first) ← holding [ov] (getMethod ov x pl)
      callWith pos f first (backTo pos (starEach (e :: es) X.env)) (backToKw pos (keywordEach [] X.env))) := by rfl) :
    Pe X W (.Call (.Attribute o x apos) (e :: es) [] pos) (dMeth c x n m f g) := by
  obtain ⟨C, fa, fd, ps, G, rfl, hc, cl, hme, hb⟩ := M.ex
  refine ⟨fun pins s σ H Q I h => ?_⟩
  refine PySem.W.methodCall_KW (pl := pl) (thn (ho.d.run pins s σ H _ I (tg_meth hc h)) fun u s1 ⟨v, H1, I1, rx, a, dx, fs, ex, ea, l, q⟩ => ?_) ht
  subst ex
  obtain rfl : u = Value.ref a := rx
  refine getmeth_ok I1 ea cl hme l ?_
  refine PySem.W.callWith_K (first := [.ref a]) (h₀ := X.base) I.ok.mod.kin hme.kp (thn (ha.run pos pins s1 σ H1 _ I1 q) fun us s2 ⟨vs, H2, I2, r, q2⟩ => ⟨I2.kIn, ?_⟩) hst hpl
  exact run_g (us := .ref a :: us) (vs := .ref a :: vs) G Z hj hb I2 (.cons rfl r) q2
theorem d_meth0 {pl : Sem Bool} (M : Cm X.prog X.w X.K X.mg X.base k c x n m) (Z : Stand X W j) (hj : k ≤ j) (ho : Pe X W o f)
    (ht : eval (.Call (.Attribute o x apos) [] [] pos) X.env = (do
      let ov ← eval o X.env
      standAt apos.atName
      let (f, first) ← holding [ov] (getMethod ov x pl)
      callWith pos f first (backTo pos (starEach [] X.env)) (backToKw pos (keywordEach [] X.env))) := by rfl) :
    Pe X W (.Call (.Attribute o x apos) [] [] pos) (dMeth c x n m f aNil) := by
  obtain ⟨C, fa, fd, ps, G, rfl, hc, cl, hme, hb⟩ := M.ex
  refine ⟨fun pins s σ H Q I h => ?_⟩
  refine PySem.W.methodCall_KW (pl := pl) (thn (ho.d.run pins s σ H _ I (tg_meth hc h)) fun u s1 ⟨v, H1, I1, rx, a, dx, fs, ex, ea, l, q⟩ => ?_) ht
  subst ex
  obtain rfl : u = Value.ref a := rx
  refine getmeth_ok I1 ea cl hme l ?_
  have q2 : GSp X.K X.mg ps.length m [.ref a] H1 Q (fun c d H' => W c d σ H') := by
    obtain ⟨ρ, S, F, mm, sl, ok, A⟩ := q
    exact A [] H1 F mm (Stp.refl ..) ok .nil
  exact PySem.W.callWith_K0 (first := [.ref a]) I1.kIn hme.kp (run_g (us := [.ref a]) (vs := [.ref a]) G Z hj hb I1 (.cons rfl .nil) q2)
end

/-! ### instances made -/
def mkK (n : Nat) : Option (Rz Out) → Option (Rz Out)
  | some (.ok (.val .non) S) => some (.ok (.val (.ref n)) S)
  | some (.er x S) => some (.er x S)
  | _ => none
def dMake (c : Str) (l : Nat) (m : MD) (g : Dn (List D)) : Dn Out := fun ρ S => bnd (g ρ S) fun ds S1 => if ds.length + 1 = l then mkK S1.length (m (.ref S1.length :: ds) (S1 ++ [.ins c []])) else none
section
variable {X : Cx} {W : WX'} {c : Str} {e : Expr} {es : List Expr} {g : Dn (List D)} {p pos : Pos} {k j n : Nat} {m : MD}
theorem tg_make {K : PySem.W.Frag} {mg : Str → Option Value} {σ : L2.St} {H : Hp} {Q : VK} {C : Addr} (hc : mg c = some (.ref C)) (h : Tg K mg (RO K mg) W (dMake c n m g) σ H Q) :
    Tg K mg (RL K) W g σ H fun vs H1 => ∀ x dx, H1 x = none → H1 dx = none → dx ≠ x → GSp K mg n m (.ref x :: vs) (upd (upd H1 dx (.own x)) x (.ins C dx [])) (fun v H2 => v = .non ∧ Q (.ref x) H2) (fun c d H' => W c d σ H') := by
  refine tg1 (R2 := RO K mg) (g := fun _ (ds : List D) S1 => if ds.length + 1 = n then mkK S1.length (m (D.ref S1.length :: ds) (S1 ++ [Ob.ins c []])) else none) sh_O h fun vs _ H1 ρ S1 F1 m1 ds sl ok1 rxs A => ?_
  intro x dx nx ndx ne
  by_cases hl : ds.length + 1 = n
  · rw [if_pos hl] at A
    obtain ⟨k1, t1⟩ := ok1.new (p := dx) (o := .own x) ndx
    have nx1 : upd H1 dx (.own x) x = none := by rw [upd_ne (Ne.symm ne)]; exact nx
    obtain ⟨k2, t2⟩ := k1.new (p := x) (o := .ins C dx []) nx1
    have t12 := t1.trans t2
    obtain ⟨m', t3, k3, r3⟩ := box_ok (o := .ins c []) (v := .ref x) t12 k2 ⟨x, rfl, nx, ok1.fnone nx, ok1.notin nx, C, dx, [], hc, upd_same, .nil⟩
    have t3' : Stp (upd (upd H1 dx (.own x)) x (.ins C dx [])) F1 m' (upd (upd H1 dx (.own x)) x (.ins C dx [])) F1 m' := Stp.refl ..
    refine ⟨by rw [List.length_cons, rxs.length]; exact hl, .ref S1.length :: ds, S1 ++ [.ins c []], F1, m', .cons r3 (RepL.mono t3.fr t3.pre ds rxs), k3, ?_⟩
    generalize m (.ref S1.length :: ds) (S1 ++ [.ins c []]) = r at A
    unfold mkK at A
    split at A
    · rename_i S'
      intro v H' F' m2 st ok2 rv
      cases rv
      exact ⟨rfl, A (.ref x) H' F' m2 (t3.trans st) ok2 (Rep.mono st.fr st.pre _ r3)⟩
    · rename_i y S'
      exact fun c d H' F' m2 st ok2 q => A c d H' F' m2 (t3.trans st) ok2 q
    · exact A.elim
  · rw [if_neg hl] at A
    exact A.elim
theorem run_makeG {pins : List (Addr × Obj)} {σ : L2.St} {H : Hp} {s : Shared} {Q : VK} {us : List Value} {vs : List V} {C f : Addr} {fd : FuncData} {ps : List Str} (M : Mk X.K C f) (G : FnG X.prog X.w X.K X.mg X.base k f fd ps m) (Z : Stand X W j) (hj : k + 1 ≤ j) (hb : Binds X.K fd ps [])
    (I : Inv X pins σ H s) (r : Vals vs us)
    (h : ∀ x dx, H x = none → H dx = none → dx ≠ x → GSp X.K X.mg ps.length m (.ref x :: vs) (upd (upd H dx (.own x)) x (.ins C dx [])) (fun v H2 => v = .non ∧ Q (.ref x) H2) (fun c d H' => W c d σ H')) :
    wpAny (model X.prog X.w) X.A (call (.ref C) us) (EP X pins σ Q) X.xe s := by
  have hr : Room (k + 1) X.A := Z.room.mono hj
  have hq := h (s.heap.objs.size + 1) s.heap.objs.size (I.hok.fresh (Nat.le_succ _)) (I.hok.fresh (Nat.le_refl _)) (Nat.ne_of_lt (Nat.lt_succ_self _))
  have I2 := Inv.made (C := C) I
  have r2 : Vals (V.ref (s.heap.objs.size + 1) :: vs) (Value.ref (s.heap.objs.size + 1) :: us) := .cons rfl r
  have hl : (Value.ref (s.heap.objs.size + 1) :: us).length = ps.length := by
    rw [← r2.length]
    exact hq.1
  have bt := hb _ (Value.ref (s.heap.objs.size + 1) :: us) I2.kIn (by rw [List.append_nil]; exact hl)
  rw [List.append_nil] at bt
  have gd : (X.A.under (.builtin "type.__call__" ⟨.ref C :: us, []⟩)).guards = some [] := by
    have e : (PySem.Code.builtin "type.__call__" ⟨.ref C :: us, []⟩).guards = [] := by
      unfold Code.guards
      rw [if_neg]
      have : (guardIds.contains "type.__call__") = false := by decide +kernel
      simp only [Code.isGuard, this]
      decide
    unfold Around.under
    rw [e]
    exact Z.guard
  refine wpAny_call (make_map (f := f) I.kIn M.makes M.init (beq_iff_eq.mp M.fn) (codeAny_mono (G.go _ X.stack _ _ ⟨Value.ref (s.heap.objs.size + 1) :: us, []⟩ (Value.ref (s.heap.objs.size + 1) :: us) _ _ _ (hr.make C us []) gd
    (I2.env0.make C us []) bt r2 hq) fun r s' hq' => ?_))
  cases r with
  | error e => exact passAt Z.take σ pins _ _ e s' I2 hq'
  | ok fl =>
    cases fl with
    | ret u =>
      obtain ⟨v, H', I3, rv, ev, q3⟩ := I2.after hq'
      subst ev
      exact ⟨rv, ⟨V.ref (s.heap.objs.size + 1), H', I3, rfl, q3⟩⟩
    | next => exact False.elim hq'
    | brk => exact False.elim hq'
    | cont => exact False.elim hq'
theorem d_make (M : Ci X.prog X.w X.K X.mg X.base k c n m) (Z : Stand X W j) (hj : k + 1 ≤ j) (hg : Gl X c) (ha : Pa X W (e :: es) g)
    (hdb : (c == ("__debug__" : Str)) = false := by decide) (he : starEach (e :: es) X.env = (false, eval e X.env) :: starEach es X.env := by rfl) (hpl : (backTo pos (starEach es X.env)).any (·.1) = false := by rfl) :
    Pe X W (.Call (.Name c p) (e :: es) [] pos) (dMake c n m g) := by
  obtain ⟨C, f, fd, ps, G, rfl, hc, mk, hb⟩ := M.ex
  refine ⟨fun pins s σ H Q I h => ?_⟩
  refine wpAny_Call_Name_kw (ld_glob I hg hc ?_ hdb)
  exact PySem.W.callWith_K (h₀ := X.base) I.ok.mod.kin mk.kp (thn (ha.run pos pins s σ H _ I (tg_make hc h)) fun us s1 ⟨vs, H1, I1, r, q⟩ => ⟨I1.kIn, run_makeG mk G Z hj hb I1 r q⟩) he hpl
end
end Sf
/-! Sf18: enumerate over a tuple. -/
namespace Sf
open L2 PySem PySem.Spec PyProof.Rows
open AutoSeq1 (wpAny_loadPart')

theorem enumerate_newT (l : Addr) (items : Array Value) (n : Nat) (dct : Option Addr) (sl : Array (Option Value)) :
    Meets (Builtin.«enumerate.__new__» ⟨[.type "enumerate", .ref l], []⟩) (fun _ R s => s.heap.get? l = some { cls := .type "tuple", dict := dct, data := .seq items n, slots := sl } ∧
      R (.ok (.ret (.ref (s.heap.push { cls := .type "tuple_iterator", data := .fields #[.ref l, .int 0 0] }).objs.size)))
        { s with heap := (s.heap.push { cls := .type "tuple_iterator", data := .fields #[.ref l, .int 0 0] }).push { cls := .type "enumerate", data := .fields #[.none, .bool false, .ref s.heap.objs.size, rawInt 0, .none, .none] } }) :=
  .of_wp fun prog w A R s h => by
    obtain ⟨hp, g, d, tk, os⟩ := s; obtain ⟨hl, h⟩ := h
    have hsub := sub_enumerate
    have hL : Heap.IsTuple (Shared.heap ⟨hp, g, d, tk, os⟩) l items := ⟨_, hl, rfl, n, rfl⟩
    wp_walk using wpAny_loadPart' hl
    refine wpAny_stack_any fun st => wpAny_pure ?_
    split
    · rename_i c _ _ _ _ _
      cases (c == Value.type "enumerate")
      · wp_walk using wpAny_loadPart' hl, wpAny_pyIter_tuple hL
        exact ⟨_, rfl, h⟩
      · wp_walk using wpAny_loadPart' hl, wpAny_pyIter_tuple hL
        exact ⟨_, rfl, h⟩
    · wp_walk using wpAny_loadPart' hl, wpAny_pyIter_tuple hL
      exact ⟨_, rfl, h⟩
section
variable {prog : Program} {w : World} {A : Around} {E : Value → Shared → Prop} {s : Shared}
theorem call_enumerateT {l : Addr} {items : Array Value} {Q : Value → Shared → Prop} (hL : s.heap.IsTuple l items)
    (h : ∀ h', IsEnum h' (s.heap.objs.size + 1) s.heap.objs.size 0 .none → h'.IsTupleIter s.heap.objs.size l 0 → h'.objs.size = s.heap.objs.size + 2 →
      (∀ b o, s.heap.get? b = some o → h'.get? b = some o) → Q (.ref (s.heap.objs.size + 1)) { s with heap := h' }) :
    wpAny (model prog w) A (call (.type "enumerate") [.ref l]) Q E s := by
  obtain ⟨⟨c, dct, dt, sl⟩, hl, hc, n, hd⟩ := hL
  replace hc : c = .type "tuple" := hc
  replace hd : dt = .seq items n := hd
  subst hc hd
  refine callType_new PySem.F.called_enumerate (by decide) (PySem.F.typeCall_enumerate_1 _) (PySem.F.newCall_enumerate_1 _) (fun obj => PySem.F.args_object_init_2 obj _) PySem.F.entry_enumerate_new
    (enumerate_newT l items n dct sl) ⟨hl, ?_⟩
  have hz : (s.heap.push { cls := .type "tuple_iterator", data := .fields #[.ref l, .int 0 0] }).objs.size = s.heap.objs.size + 1 := Heap.size_push ..
  show _ ∧ _
  rw [hz]
  have he : IsEnum ((s.heap.push { cls := .type "tuple_iterator", data := .fields #[.ref l, .int 0 0] }).push
      { cls := .type "enumerate", data := .fields #[.none, .bool false, .ref s.heap.objs.size, rawInt 0, .none, .none] }) (s.heap.objs.size + 1) s.heap.objs.size 0 .none := by
    have := Heap.get?_push_size (s.heap.push { cls := .type "tuple_iterator", data := .fields #[.ref l, .int 0 0] })
      (o := { cls := .type "enumerate", data := .fields #[.none, .bool false, .ref s.heap.objs.size, rawInt 0, .none, .none] }) rfl
    rw [hz] at this; exact this
  refine ⟨⟨_, he, rfl⟩, h _ he ⟨_, Heap.get?_push_of_some _ (Heap.get?_push_size _ rfl), rfl, rfl⟩ (by rw [Heap.size_push, hz]) fun b o x => Heap.get?_push_of_some _ (Heap.get?_push_of_some _ x)⟩
end
theorem Tit.at {h h' : Heap} {a t : Addr} {i : Nat} (x : h.IsTupleIter a t i) (e : ∀ o, h.get? a = some o → h'.get? a = some o) : h'.IsTupleIter a t i := let ⟨o, ho, r⟩ := x; ⟨o, e _ ho, r⟩
theorem Tup.at {h h' : Heap} {t : Addr} {its : Array Value} (x : h.IsTuple t its) (e : ∀ o, h.get? t = some o → h'.get? t = some o) : h'.IsTuple t its := let ⟨o, ho, r⟩ := x; ⟨o, e _ ho, r⟩
theorem dr_tuple {prog : Program} {w : World} {A : Around} (hh : A.handled = none) (it t : Addr) (hne : t ≠ it) (items : Array Value) :
    Draws prog w A it [it, t] items.size (fun i x => items[i]? = some x) (fun i h => h.IsTupleIter it t i ∧ h.IsTuple t items) where
  live := fun i h st => let ⟨⟨o, ho, _⟩, _⟩ := st; ⟨o, ho⟩
  frame := fun i h h' st k => ⟨Tit.at st.1 fun o q => k it (by simp) o q, Tup.at st.2 fun o q => k t (by simp) o q⟩
  item := fun i s Q E hi st hQ => by
    refine RZ.nextOf_tuple_item st.1 st.2 (Array.getElem?_eq_getElem hi) fun h' h1 h2 => ?_
    exact hQ _ h' s.toks (Array.getElem?_eq_getElem hi) ⟨h1, Tup.at st.2 fun o q => by rw [h2.2 t hne]; exact q⟩ h2
  done := fun s Q E st hE => RZ.nextOf_tuple_end hh st.1 st.2 (by simp) hE
/-- the tuple at a, each item in a new pair -/
def IteT (K : PySem.W.Frag) (a : Addr) : It :=
  ⟨fun i H => ∃ (xs : List V) (x : V), SqT K H a xs ∧ xs[i]? = some x, fun i H v H' => ∃ T x, v = .ref T ∧ H T = none ∧ H' = upd H T (.tup [.int (i : Nat), x]) ∧ ∀ xs, SqT K H a xs → xs[i]? = some x, fun i H => ∃ xs : List V, SqT K H a xs ∧ xs.length ≤ i⟩
theorem enum_apart {h : Heap} {e it t : Addr} {i : Nat} {c : Int} {old : Value} {its : Array Value} (he : IsEnum h e it c old) (hit : h.IsTupleIter it t i) (ht : h.IsTuple t its) : e ≠ t ∧ t ≠ it := by
  obtain ⟨o, ho, hc, _⟩ := hit
  obtain ⟨o2, ho2, hc2, _⟩ := ht
  refine ⟨fun z => ?_, fun z => ?_⟩
  · subst z
    rw [he] at ho2
    cases ho2
    injection hc2 with q
    exact absurd q (by decide)
  · subst z
    rw [ho2] at ho
    cases ho
    rw [hc2] at hc
    injection hc with q
    exact absurd q (by decide)
theorem turn_enumT {P : Program} {w : World} {K : PySem.W.Frag} {elts : List Expr} {kk : Nat} {tpos : Pos} (a e it : Addr) :
    Turn P w K (.Tuple elts kk tpos) (IteT K a) [e, it] e (fun i h => (∃ old, IsEnum h e it ((i : Nat) : Int) old) ∧ h.IsTupleIter it a i ∧ e ≠ it) where
  mem := by simp
  obj := fun i h st b hb => by
    obtain ⟨⟨old, he⟩, ⟨o, ho, hc, hd⟩, _⟩ := st
    have e' : b = e ∨ b = it := by simpa using hb
    rcases e' with z | z
    · rw [z]; exact ⟨_, he, fun v q => nomatch q⟩
    · rw [z]; exact ⟨o, ho, fun v q => by rw [hd] at q; cases q⟩
  keep := fun i h h' st k => let ⟨⟨old, he⟩, hi, hne⟩ := st; ⟨⟨old, k e (by simp) _ he⟩, Tit.at hi fun o q => k it (by simp) o q, hne⟩
  item := by
    intro X hP hw hK hc i pins s σ H E I hf st hg
    subst hP hw hK
    obtain ⟨⟨old, he⟩, hit, hne⟩ := st
    obtain ⟨xs, x, hq, hx⟩ := hg
    obtain ⟨its, rv, p, hz⟩ := I.tuple hq
    obtain ⟨u, hu, ru⟩ := rv.get hx
    have ht : s.heap.IsTuple a its.toArray := let ⟨o, ho, hc, n, hd⟩ := p; ⟨o, ho, hc, n, hd⟩
    obtain ⟨a1, a2⟩ := enum_apart he hit ht
    have hel : e < s.heap.objs.size := Heap.lt_size he
    have hil : it < s.heap.objs.size := by obtain ⟨_, q, _⟩ := hit; exact Heap.lt_size q
    have hlt : i < its.toArray.size := by
      have := (List.getElem?_eq_some_iff.mp hu).1
      simpa using this
    refine wpAny_pyNext_enum_itemD (dr_tuple (show X.A.in1.handled = none from I.ok.hd hc) it a a2 its.toArray) he ⟨hit, ht⟩ hlt hne (by simp [hne, a1]) fun x' h' tk hP' ho hit' hT hsz hk => ?_
    have hx' : x' = u := by
      have : its.toArray[i]? = some u := by simpa using hu
      rw [this] at hP'
      exact (Option.some.inj hP').symm
    subst hx'
    refine ⟨_, rfl, wpAny_letOwnedTupleGo_enum (s := { s with heap := h', toks := tk + 1 }) ho fun h'' he' sb => ?_⟩
    have hT2 : h''.get? s.heap.objs.size = some { cls := .type "tuple", data := .seq #[.int i tk, x'] } := (sb.2 _ (Nat.ne_of_gt hel)).trans hT
    have new : ObjOk X.prog X.w (upd H s.heap.objs.size (.tup [.int (i : Nat), x])) h'' s.heap.objs.size (.tup [.int (i : Nat), x]) :=
      ⟨by show 2 ≤ sizeLine; decide, [.int i tk, x'], .cons ⟨_, rfl⟩ (.cons ru .nil), ⟨_, hT2, rfl, _, rfl⟩⟩
    have I1 : Inv X pins σ (upd H s.heap.objs.size (.tup [.int (i : Nat), x])) { s with heap := h'', toks := tk + 1 } :=
      I.turnedNew (ch := [e, it]) (fun b ob hb q => (sb.2 b (fun z => hb (by simp [z]))).trans (hk b ob (fun z => hb (by simp [z])) (fun z => hb (by simp [z])) q)) hf (Nat.le_refl _) new
    refine ⟨.ref s.heap.objs.size, _, I1, rfl, ⟨_, x, rfl, I.hok.fresh (Nat.le_refl _), rfl, fun ys hy => by rw [I.tuple_inj hy hq]; exact hx⟩, ⟨⟨x', ?_⟩, Tit.at hit'.1 fun o q => (sb.2 it (Ne.symm hne)).trans q, hne⟩, fun b hb => ?_⟩
    · have e1 : ((i + 1 : Nat) : Int) = (i : Int) + 1 := by omega
      rw [e1]; exact he'
    · have hb' : b < s.heap.objs.size := by
        have e' : b = e ∨ b = it := by simpa using hb
        rcases e' with z | z
        · rw [z]; exact hel
        · rw [z]; exact hil
      rw [upd_ne (Nat.ne_of_lt hb')]
      exact (hf b hb).1
  done := by
    intro X hP hw hK hc i pins s σ H E I hf st hg
    subst hP hw hK
    obtain ⟨⟨old, he⟩, hit, hne⟩ := st
    obtain ⟨xs, hq, hx⟩ := hg
    obtain ⟨its, rv, p, hz⟩ := I.tuple hq
    have ht : s.heap.IsTuple a its.toArray := let ⟨o, ho, hc, n, hd⟩ := p; ⟨o, ho, hc, n, hd⟩
    obtain ⟨f0, f1, f2, f3, f4, f5⟩ := hf it (by simp)
    have hl := rv.length
    unfold pyNext
    have hTy : s.TypeIs (.ref e) "enumerate" := ⟨_, he, rfl⟩
    refine wpAny_bind (wpAny_attempt (wpAny_callSpecial?_slot (name := Str.ofString "__next__") hTy PySem.F.slot_enumerate_next
      (wpAny_call_entry PySem.F.slot_enumerate_next hTy PySem.F.entry_enumerate_next ?_ (PySem.F.args_enumerate_next_1 _))))
    show wpAny _ _ (field (.ref e) 2 >>= _) _ _ _
    refine wpAny_bind (wpAny_field he rfl (x := .ref it) rfl ?_)
    refine wpAny_bind (RZ.nextOf_tuple_end (show X.A.in1.handled = none from I.ok.hd hc) hit ht (by simp; omega) fun h' x he' hx' => ?_)
    obtain ⟨o, ho, hc'⟩ := hx'
    refine wpAny_bind (wpAny_isInstance (T := "StopIteration") (b := true) ⟨o, ho, hc'⟩ isSubtype_stop ?_)
    exact wpAny_pure ⟨rfl, I.turned (t' := s.toks) (fun b o hb q => he' b o hb q) f0 f1 f3 f4 f5⟩
  self := fun A i s Q E st h => let ⟨⟨_, he⟩, _⟩ := st; wpAny_pyIter_enum he h
def iEnumT (K : PySem.W.Frag) (ta : TA) : TI := fun σ H R => ta σ H fun vs H1 => ∃ a xs, vs = [.ref a] ∧ SqT K H1 a xs ∧ R (IteT K a) H1
theorem pi_enumT {X : Cx} {e : Expr} {ta : TA} {p pos tpos : Pos} {elts : List Expr} {kk : Nat} (hg : Gl X "enumerate") (hm : X.mg "enumerate" = none) (ha : PA X [e] ta) (hs : starEach [e] X.env = [(false, eval e X.env)] := by rfl) :
    PI X (.Tuple elts kk tpos) (.Call (.Name "enumerate" p) [e] [] pos) (iEnumT X.K ta) := by
  refine ⟨fun pins s σ H R I h => ?_⟩
  refine Call_ (ld_blt I hg hm boot_enumerate (PyProof.Rows.callWith_type1 (thn (ha.run pos pins s σ H _ I h) fun us s1 ⟨vs, H1, I1, r1, q1⟩ => ?_) hs rfl))
  obtain ⟨a, xs, ex, hq, q⟩ := q1
  subst ex
  cases r1 with
  | cons r rr =>
    cases rr
    cases r
    obtain ⟨its, rv, p', hz⟩ := I1.tuple hq
    have ht : s1.heap.IsTuple a its.toArray := let ⟨o, ho, hc, n, hd⟩ := p'; ⟨o, ho, hc, n, hd⟩
    refine call_enumerateT ht fun h' he hit hsz hk => wpAny_pyIter_enum he ?_
    have I2 : Inv X pins σ H1 { s1 with heap := h' } := I1.kept (t' := s1.toks) hk
    refine ⟨s1.heap.objs.size + 1, [s1.heap.objs.size + 1, s1.heap.objs.size], _, _, H1, rfl, I2, turn_enumT a (s1.heap.objs.size + 1) s1.heap.objs.size, ⟨⟨.none, he⟩, hit, Nat.succ_ne_self _⟩, fun b hb => ?_, q⟩
    have e' : b = s1.heap.objs.size + 1 ∨ b = s1.heap.objs.size := by simpa using hb
    have hle : s1.heap.objs.size ≤ b := by
      rcases e' with z | z
      · rw [z]; exact Nat.le_add_right _ _
      · rw [z]; exact Nat.le_refl _
    exact I1.fpOk hle (I1.hok.fresh hle)
def enumT (ds : List D) : Option (List D) := match ds with
  | [.tup es] => some (enumL 0 es)
  | _ => none
theorem enT_wk {K : PySem.W.Frag} {mg : Str → Option Value} {H F : Hp} {m : List Addr} {a : Addr} {xs : List V} {ds : List D} (hs : SqT K F a xs) (hr : RepL K F m xs ds) : Wk K mg (IteT K a) H F m (enumL 0 ds) := by
  intro i H1 F1 m1 S1 st ok
  have h1 : SqT K H1 a xs := same_t ok.sub (same_t st.fr hs)
  have h2 := RepL.mono st.fr st.pre ds hr
  rw [enumL_length]
  refine ⟨fun hi => ?_, fun hi => ⟨xs, h1, by rw [hr.length]; exact hi⟩⟩
  obtain ⟨v, h3, h4⟩ := h2.get (List.getElem?_eq_getElem hi)
  refine ⟨⟨xs, v, h1, h3⟩, fun x H2 y => ?_⟩
  obtain ⟨T, z, rfl, hT, rfl, y⟩ := y
  have := y xs h1
  rw [h3] at this
  cases this
  obtain ⟨k, st', e⟩ := ok.newF (o := .tup [.int (i : Nat), v]) hT
  refine ⟨_, .tup [.int ((0 + i : Nat) : Int), ds[i]], by rw [enumL_get, List.getElem?_eq_getElem hi]; rfl, st', k, .tup (.inl (.inl upd_same)) (.cons ?_ (.cons (Rep.mono e (Pre.refl _) _ h4) .nil))⟩
  rw [Nat.zero_add]
  exact .int _
theorem i_enumT {X : Cx} {W : WX'} {e : Expr} {g : Dn (List D)} {p pos : Pos} {elts : List Expr} {kk : Nat} {tpos : Pos} (hg : Gl X "enumerate") (hm : X.mg "enumerate" = none) (ha : Pa X W [e] g) (hs : starEach [e] X.env = [(false, eval e X.env)] := by rfl) :
    Pi X W (.Tuple elts kk tpos) (.Call (.Name "enumerate" p) [e] [] pos) (itA enumT g) := by
  refine pi_imp (pi_enumT hg hm ha hs) fun σ H Q q => ?_
  refine tg_imp (tg_itA q) fun vs H1 ⟨F, m, ds, xs, S, ok, rx, e, k⟩ => ?_
  unfold enumT at e
  split at e
  · cases e
    cases rx with
    | cons r1 r2 =>
      cases r2
      cases r1 with
      | tup h1 h2 => exact ⟨_, _, rfl, same_t ok.sub h1, k _ H1 F m (Stp.refl ..) ok (enT_wk h1 h2)⟩
  · cases e
end Sf
/-! Sf19: sorted of texts, x += e, xs[i] = v, written tuples. -/
namespace Sf
open L2 PySem PySem.Spec PyProof.Rows

/-! ### sorted of texts -/
abbrev leS (a b : Str) : Prop := a.cps.toList ≤ b.cps.toList
theorem leS_total (a b : Str) : leS a b ∨ leS b a := List.le_total _ _
theorem leS_trans {a b c : Str} (h : leS a b) (k : leS b c) : leS a c := List.le_trans h k
theorem str_ext {a b : Str} (h : a.cps.toList = b.cps.toList) : a = b := by
  cases a with
  | mk a =>
    cases b with
    | mk b =>
      have : a = b := Array.toList_inj.mp h
      rw [this]
theorem leS_anti {a b : Str} (h : leS a b) (k : leS b a) : a = b := str_ext (List.le_antisymm h k)
def insT (x : Str) : List Str → List Str
  | [] => [x]
  | y :: r => if strLt y x = true then y :: insT x r else x :: y :: r
def sortT : List Str → List Str
  | [] => []
  | x :: r => insT x (sortT r)
theorem insT_perm (x : Str) : ∀ l : List Str, (insT x l).Perm (x :: l)
  | [] => List.Perm.refl _
  | y :: r => by
    unfold insT
    split
    · exact ((insT_perm x r).cons y).trans (List.Perm.swap x y r)
    · exact List.Perm.refl _
theorem sortT_perm : ∀ l : List Str, (sortT l).Perm l
  | [] => List.Perm.refl _
  | x :: r => (insT_perm x (sortT r)).trans ((sortT_perm r).cons x)
theorem insT_sorted (x : Str) : ∀ l : List Str, l.Pairwise leS → (insT x l).Pairwise leS
  | [], _ => List.pairwise_singleton _ _
  | y :: r, h => by
    obtain ⟨h1, h2⟩ := List.pairwise_cons.mp h
    unfold insT
    split
    · rename_i hlt
      have hyx : leS y x := List.le_of_lt (of_decide_eq_true hlt)
      refine List.pairwise_cons.mpr ⟨fun z hz => ?_, insT_sorted x r h2⟩
      rcases List.mem_cons.mp ((insT_perm x r).mem_iff.mp hz) with rfl | hz
      · exact hyx
      · exact h1 z hz
    · rename_i hlt
      have hxy : leS x y := List.not_lt.mp fun z => hlt (decide_eq_true z)
      refine List.pairwise_cons.mpr ⟨fun z hz => ?_, h⟩
      rcases List.mem_cons.mp hz with rfl | hz
      · exact hxy
      · exact leS_trans hxy (h1 z hz)
theorem sortT_sorted : ∀ l : List Str, (sortT l).Pairwise leS
  | [] => .nil
  | x :: r => insT_sorted x _ (sortT_sorted r)
theorem pw_of_rising : ∀ (l : List Str) (p : Str), risingS p l = true → (p :: l).Pairwise leS
  | [], p, _ => List.pairwise_singleton _ _
  | x :: r, p, h => by
    unfold risingS at h
    rw [Bool.and_eq_true, Bool.not_eq_true'] at h
    have hpx : leS p x := List.not_lt.mp fun z => by
      have := h.1
      rw [ltCps_eq] at this
      exact absurd z (of_decide_eq_false this)
    have ih := pw_of_rising r x h.2
    refine List.pairwise_cons.mpr ⟨fun z hz => ?_, ih⟩
    rcases List.mem_cons.mp hz with rfl | hz
    · exact hpx
    · exact leS_trans hpx ((List.pairwise_cons.mp ih).1 z hz)
theorem pw_of_sorted (l : List Str) (h : sortedS l = true) : l.Pairwise leS := by
  cases l with
  | nil => exact .nil
  | cons x r => exact pw_of_rising r x h
theorem sort_one {xs ys : List Str} (p : ys.Perm xs) (h : sortedS ys = true) : ys = sortT xs :=
  List.Perm.eq_of_pairwise (fun _ _ _ _ h k => leS_anti h k) (pw_of_sorted ys h) (sortT_sorted xs) (p.trans (sortT_perm xs).symm)
def sortedD : OC := fun S ds => match ds with
  | [d] => match (view S d).bind strsD with
    | some xs => if xs.length < 64 then some (.own (.lst ((sortT xs).map .str))) else none
    | none => none
  | _ => none
theorem strsD_eq : ∀ {ds : List D} {xs : List Str}, strsD ds = some xs → ds = xs.map .str
  | [], xs, h => by cases h; rfl
  | .str s :: r, xs, h => by
    unfold strsD at h
    cases e : strsD r with
    | none => rw [e] at h; cases h
    | some ys =>
      rw [e] at h
      cases h
      rw [strsD_eq e]
      rfl
  | .non :: _, _, h => by cases h
  | .bl _ :: _, _, h => by cases h
  | .int _ :: _, _, h => by cases h
  | .tup _ :: _, _, h => by cases h
  | .lst _ :: _, _, h => by cases h
  | .fls _ :: _, _, h => by cases h
  | .emp :: _, _, h => by cases h
  | .ref _ :: _, _, h => by cases h
theorem repl_str_inv {K : PySem.W.Frag} {F : Hp} {m : List Addr} : ∀ {vs : List V} {xs : List Str}, RepL K F m vs (xs.map .str) → vs = xs.map .str
  | _, [], .nil => rfl
  | _, x :: xs, .cons r t => by
    cases r
    rw [repl_str_inv t]
    rfl
theorem bt_sorted : bootBuiltins "sorted" = some (.builtin "sorted") := by decide +kernel
theorem cl_sorted {X : Cx} : CallR X (.builtin "sorted") (rCl X.K X.mg sortedD) := by
  refine CallR.imp cr_sortedS fun xs H Q h => ?_
  obtain ⟨S, F, m, ds, u, ok, r, e, q⟩ := h
  unfold sortedD at e
  split at e
  · rename_i d
    split at e
    · rename_i ys e1
      split at e
      · rename_i hl
        cases e
        cases e2 : view S d with
        | none => rw [e2] at e1; cases e1
        | some es =>
          rw [e2] at e1
          have e1 : strsD es = some ys := e1
          cases r with
          | cons r1 r2 =>
            cases r2
            obtain ⟨p, vs, rfl, h1, h2⟩ := view_ok ok r1 e2
            rw [strsD_eq e1] at h2
            rw [repl_str_inv h2] at h1
            refine ⟨p, ys, rfl, h1, hl, fun zs p' hp hs hn => ?_⟩
            rw [sort_one hp hs]
            exact rof_lst ok q (repl_strs _) p' hn
      · cases e
    · cases e
  · cases e

/-! ### x += e -/
def augK (i : Nat) (a : Int) (ρ : En) (d : D) (S : Sto) : Option Fl := match d with
  | .int b => some (.nx (ρ.set i (some (.int (a + b)))) S)
  | _ => none
def sAug (i : Nat) (f : Dn Out) : Sn := fun ρ S => match ρ[i]? with
  | some (some (.int a)) => bnS (stl f ρ S) ρ (augK i a ρ)
  | _ => none
theorem s_aug {X : Cx} {W : WX'} {x : Str} {e : Expr} {f : Dn Out} {pos pos' : Pos} {i : Nat} (nd : X.N.Nodup) (hi : X.N[i]? = some x) (hl : Loc X.env.scope x) (he : Pe X W e f)
    (hf : X.fn x = true ∨ X.env.scope.names.lookup x = some .local := by first | exact .inl rfl | exact .inr rfl | assumption) : Ps X W (.AugAssign (.Name x pos') .Add e pos) (sAug i f) := by
  refine ps_imp (ps_aug (i := i) nd hi hl he.d ip_add hf) fun Dd σ H z => ?_
  obtain ⟨ρ, S, F, m, sl, ok, A⟩ := z
  unfold sAug at A
  split at A
  · rename_i a ea
    obtain ⟨v, h1, h2⟩ := sl.get i _ ea
    cases h2
    refine ⟨_, h1, ?_⟩
    refine tsc (R1 := RD X.K) (g := fun _ d S1 => augK i a ρ d S1) (fun F m => SlR X.K F m σ ρ) (fun F m F' m' e p r => r.mono e p) ⟨ρ, S, F, m, sl, sl, ok, A⟩ fun y _ H1 ρ1 S1 F1 m1 d slc sl1 ok1 ry A1 => ?_
    unfold augK at A1
    split at A1
    · rename_i b
      cases ry
      exact ⟨a, b, rfl, rfl, A1 _ H1 F1 m1 (Stp.refl ..) ok1 (slc.put i (.int _))⟩
    · exact A1.elim
  · exact A.elim

/-! ### xs[i] = v -/
def lputS (S : Sto) (o i d : D) : Option Sto := match o, i with
  | .ref n, .int k => match S[n]? with
    | some (.lst ds) => match ixN ds.length k with
      | some j => some (S.set n (.lst (ds.set j d)))
      | none => none
    | _ => none
  | _, _ => none
def lpK3 (ρ : En) (d a b : D) (S : Sto) : Option Fl := match lputS S a b d with
  | some S4 => some (.nx ρ S4)
  | none => none
def lpK2 (g : Dn Out) (ρ : En) (d a : D) (S : Sto) : Option Fl := bnS (stl g ρ S) ρ (lpK3 ρ d a)
def lpK1 (f g : Dn Out) (ρ : En) (d : D) (S : Sto) : Option Fl := bnS (stl f ρ S) ρ (lpK2 g ρ d)
def sLput (f g h : Dn Out) : Sn := fun ρ S => bnS (stl h ρ S) ρ (lpK1 f g ρ)
theorem s_lput {X : Cx} {W : WX'} {o i value : Expr} {f g h : Dn Out} {pos pos' : Pos} (ho : Pe X W o f) (hi : Pe X W i g) (hv : Pe X W value h)
    (ha : ∀ v, assign (.Subscript o i pos') X.env v = (do
      let ov ← holding [v] (eval o X.env)
      let iv ← holding [v, ov] (eval i X.env)
      standAt pos'
      holding [v, ov, iv] (setItem ov iv v)
      release [v, ov, iv] []) := by intro _; rfl)
    (hs : swappedStores [.Subscript o i pos'] value X.env = pure none := by rfl) (hw : swapsWithSole [.Subscript o i pos'] value pos.line X.env = pure false := by rfl)
    (h1 : (assignEach [.Subscript o i pos'] X.env).map (·.2) = [assign (.Subscript o i pos') X.env] := by rfl) : Ps X W (.Assign [.Subscript o i pos'] value pos) (sLput f g h) := by
  refine ps_imp (ps_asg hv.d (pg_sub ho.d hi.d set_list ha) hw hs h1) fun Dd σ H z => ?_
  obtain ⟨ρ0, S0, F0, m0, sl0, ok0, A0⟩ := z
  refine tsc (R1 := RD X.K) (g := fun ρ d S1 => lpK1 f g ρ d S1) (fun _ _ => True) (fun _ _ _ _ _ _ h => h) ⟨ρ0, S0, F0, m0, trivial, sl0, ok0, A0⟩ fun v _ H1 ρ1 S1 F1 m1 d _ sl1 ok1 rv A1 => ?_
  refine tsc (R1 := RD X.K) (g := fun ρ a S2 => lpK2 g ρ d a S2) (fun F m => Rep X.K F m v d) (fun F m F' m' e p r => Rep.mono e p d r) ⟨ρ1, S1, F1, m1, rv, sl1, ok1, A1⟩ fun x _ H2 ρ2 S2 F2 m2 a rv sl2 ok2 rx A2 => ?_
  refine tsc (R1 := RD X.K) (g := fun ρ b S3 => lpK3 ρ d a b S3) (fun F m => Rep X.K F m v d ∧ Rep X.K F m x a) (fun F m F' m' e p r => ⟨Rep.mono e p d r.1, Rep.mono e p a r.2⟩) ⟨ρ2, S2, F2, m2, ⟨rv, rx⟩, sl2, ok2, A2⟩ fun y _ H3 ρ3 S3 F3 m3 b rr sl3 ok3 ry A3 => ?_
  unfold lpK3 at A3
  split at A3
  · rename_i S4 e
    unfold lputS at e
    split at e
    · rename_i n k
      split at e
      · rename_i ds e2
        split at e
        · rename_i j e3
          cases e
          cases ry
          cases rr.2 with
          | @ref p n h1 =>
            obtain ⟨vs, h2, h3⟩ := ok3.at h1 e2
            obtain ⟨k4, st4⟩ := ok3.put (u := .lst (vs.set j v)) (ob := .lst (ds.set j d)) h1 ⟨_, upd_same, h3.set j rr.1⟩
            exact ⟨p, vs, k, j, rfl, rfl, h2, by rw [h3.length]; exact e3, A3 σ _ _ _ st4 k4 sl3⟩
        · cases e
      · cases e
    · cases e
  · exact A3.elim

/-! ### a written tuple of the top -/
def GT (K : PySem.W.Frag) (mg : Str → Option Value) (x : Str) (ss : List Str) : Prop := ∃ a, mg x = some (.ref a) ∧ ∀ H, SqT K H a (ss.map V.str)
theorem d_gT {X : Cx} {W : WX'} {x : Str} {ss : List Str} {pos : Pos} (h : GT X.K X.mg x ss) (hg : Gl X x) (hd : (x == ("__debug__" : Str)) = false := by decide) : Pe X W (.Name x pos) (dC (.tup (ss.map .str))) := by
  obtain ⟨a, h, hs⟩ := h
  exact d_glob (v := .ref a) hg h rfl (fun F _ => .tup (hs F) (repl_strs ss)) hd
theorem gt_mk {K : PySem.W.Frag} {mg : Str → Option Value} {h : Heap} {x : Str} {ss : List Str} {a : Addr} {d : Option Addr} {its : Array Value} {n : Nat} {sl : Array (Option Value)} (inK : K.In h) (glob : h.Ns mainGlobals mg)
    (e : PySem.W.nsIn K mainGlobals x = some (some (.ref a))) (l : K.lookup a = some ⟨.type "tuple", d, .seq its n, sl⟩) (v : Vals (ss.map V.str) its.toList) (hz : its.size ≤ sizeLine) : GT K mg x ss :=
  ⟨a, PySem.W.mg_of inK glob e, fun H => .inr ⟨_, its, n, l, rfl, rfl, hz, v⟩⟩

/-! ### what stands of a class behind the top -/
theorem dm_mk {K : PySem.W.Frag} {mg : Str → Option Value} {h : Heap} {c x q : Str} {st : Stmt} {ps : List Str} {C f : Addr} {oc kV doc pm cdv ct : Value} {od an : Option Addr} {osl : Array (Option Value)} (inK : K.In h) (glob : h.Ns mainGlobals mg)
    (bind : ∀ (kV doc pm : Value) (an : Option Addr) (cdv ct : Value) (us : List Value), us.length = ps.length → bindArgs (PySem.W.fnOf x q (L2.defArgs st) (L2.defBody st) (L2.defScope st) .none kV doc pm an cdv ct) ⟨us, []⟩ = pure (ps.zip us))
    (nm : mg c = some (.ref C)) (cl : Cls K C) (fi : PySem.W.findIn K (.ref C) x = some (some (.ref f))) (isf : PySem.W.isFn K (.ref f) = true)
    (look : K.lookup f = some ⟨oc, od, .func (PySem.W.fnOf x q (L2.defArgs st) (L2.defBody st) (L2.defScope st) .none kV doc pm an cdv ct), osl⟩)
    (code : PySem.W.codeIn K cdv q = true) (keep : PySem.W.keepIn K (.ref f) = true) : Dm K mg c x q st ps :=
  ⟨C, f, _, fun_mk look code keep, nm, cl, ⟨fi, isf, keep⟩, (fun_mk look code keep).binds bind⟩
theorem di_mk {K : PySem.W.Frag} {mg : Str → Option Value} {h : Heap} {c q : Str} {st : Stmt} {ps : List Str} {C f : Addr} {oc kV doc pm cdv ct : Value} {od an : Option Addr} {osl : Array (Option Value)} (inK : K.In h) (glob : h.Ns mainGlobals mg)
    (bind : ∀ (kV doc pm : Value) (an : Option Addr) (cdv ct : Value) (us : List Value), us.length = ps.length → bindArgs (PySem.W.fnOf "__init__" q (L2.defArgs st) (L2.defBody st) (L2.defScope st) .none kV doc pm an cdv ct) ⟨us, []⟩ = pure (ps.zip us))
    (nm : mg c = some (.ref C)) (mk : PySem.W.makesIn K C = true) (kc : PySem.W.keepIn K (.ref C) = true) (fi : PySem.W.findIn K (.ref C) "__init__" = some (some (.ref f))) (isf : PySem.W.isFn K (.ref f) = true)
    (look : K.lookup f = some ⟨oc, od, .func (PySem.W.fnOf "__init__" q (L2.defArgs st) (L2.defBody st) (L2.defScope st) .none kV doc pm an cdv ct), osl⟩)
    (code : PySem.W.codeIn K cdv q = true) (keep : PySem.W.keepIn K (.ref f) = true) : Di K mg c q st ps :=
  ⟨C, f, _, fun_mk look code keep, nm, ⟨mk, fi, isf, kc⟩, (fun_mk look code keep).binds bind⟩
end Sf
/-! Sf20: boxed lists walked as they stand: comprehensions and for. -/
namespace Sf
open L2 PySem PySem.Spec PyProof.Rows
/-- an iterator whose items are the data xs, in every store that keeps I -/
def WkI (K : PySem.W.Frag) (mg : Str → Option Value) (J : It) (H F : Hp) (m : List Addr) (p : List D × (Sto → Prop)) : Prop :=
  ∀ (i : Nat) (H1 F1 : Hp) (m1 : List Addr) (S1 : Sto), Stp H F m H1 F1 m1 → SOk K mg H1 F1 m1 S1 → p.2 S1 →
    (i < p.1.length → J.go i H1 ∧ ∀ x H2, J.yld i H1 x H2 → ∃ F2 d, p.1[i]? = some d ∧ Stp H1 F1 m1 H2 F2 m1 ∧ SOk K mg H2 F2 m1 S1 ∧ Rep K F2 m1 x d) ∧ (p.1.length ≤ i → J.stop i H1)
abbrev RWI (K : PySem.W.Frag) (mg : Str → Option Value) : Rel (List D × (Sto → Prop)) It := fun _ H F m J p => WkI K mg J H F m p
abbrev PiI (X : Cx) (W : WX') (tg iter : Expr) (f : Dn (List D × (Sto → Prop))) : Prop := PI X tg iter (Tg X.K X.mg (RWI X.K X.mg) W f)
def boxI (k : Nat) (es : List D) : Sto → Prop := fun S => S[k]? = some (.lst es)
def boxK (d : D) (S : Sto) : Option (Rz (List D × (Sto → Prop))) := match d with
  | .ref k => match S[k]? with
    | some (.lst es) => some (.ok (es, boxI k es) S)
    | _ => none
  | _ => none
def itBox (f : Dn Out) : Dn (List D × (Sto → Prop)) := fun ρ S => bnd (stl f ρ S) boxK
theorem box_wk {K : PySem.W.Frag} {mg : Str → Option Value} {H F : Hp} {m : List Addr} {a : Addr} {k : Nat} {es : List D} (rx : Rep K F m (.ref a) (.ref k)) : WkI K mg (Itl K a) H F m (es, boxI k es) := by
  intro i H1 F1 m1 S1 st ok hI
  have hI : S1[k]? = some (.lst es) := hI
  have r2 := Rep.mono st.fr st.pre _ rx
  obtain ⟨a', xs, ea, hs, hr⟩ := view_ok ok r2 (show view S1 (.ref k) = some es by simp only [view, hI])
  cases ea
  have hl := hr.length
  refine ⟨fun hi => ?_, fun hi => ⟨xs, hs, by rw [hl]; exact hi⟩⟩
  have hi : i < es.length := hi
  obtain ⟨v, h3, h4⟩ := hr.get (List.getElem?_eq_getElem hi)
  refine ⟨⟨xs, v, hs, h3⟩, fun x H2 y => ?_⟩
  obtain ⟨e, y⟩ := y
  subst e
  have := y xs hs
  rw [h3] at this
  cases this
  exact ⟨F1, es[i], List.getElem?_eq_getElem hi, Stp.refl .., ok, h4⟩
theorem i_box {X : Cx} {W : WX'} {tg e : Expr} {f : Dn Out} (he : Pe X W e f) : PiI X W tg e (itBox f) := by
  refine pi_imp (pi_seq he.d) fun σ H Q q => ?_
  refine tg1 (R2 := RWI X.K X.mg) (g := fun _ d S1 => boxK d S1) (fun _ _ _ _ _ _ _ _ h => h) q fun x _ H1 ρ S1 F1 m1 d sl ok1 rx A => ?_
  unfold boxK at A
  split at A
  · rename_i k
    split at A
    · rename_i es e1
      obtain ⟨a, xs, ea, hs, hr⟩ := view_ok ok1 rx (show view S1 (.ref k) = some es by simp only [view, e1])
      subst ea
      exact ⟨a, rfl, .inl ⟨⟨xs, hs⟩, A _ H1 F1 m1 (Stp.refl ..) ok1 (box_wk rx)⟩⟩
    · exact A.elim
  · exact A.elim

/-! ### for -/
open Classical in
noncomputable def loopSI (I : Sto → Prop) (t : Tn) (body : Sn) : List D → En → Sto → Option Fl
  | [], ρ, S => if I S then some (.nx ρ S) else none
  | d :: r, ρ, S => if I S then (match t ρ d with
    | none => none
    | some ρ1 => match body ρ1 S with
      | some (.nx ρ' S') => loopSI I t body r ρ' S'
      | some (.ct ρ' S') => loopSI I t body r ρ' S'
      | some (.bk ρ' S') => some (.nx ρ' S')
      | o => o) else none
theorem lsI_no {I : Sto → Prop} {t : Tn} {body : Sn} {l : List D} {ρ : En} {S : Sto} (h : ¬ I S) : loopSI I t body l ρ S = none := by
  cases l <;> exact if_neg h
theorem lsI_nil {I : Sto → Prop} {t : Tn} {body : Sn} {ρ : En} {S : Sto} (h : I S) : loopSI I t body [] ρ S = some (.nx ρ S) := if_pos h
theorem lsI_cons {I : Sto → Prop} {t : Tn} {body : Sn} {d : D} {r : List D} {ρ : En} {S : Sto} (h : I S) : loopSI I t body (d :: r) ρ S = (match t ρ d with
    | none => none
    | some ρ1 => match body ρ1 S with
      | some (.nx ρ' S') => loopSI I t body r ρ' S'
      | some (.ct ρ' S') => loopSI I t body r ρ' S'
      | some (.bk ρ' S') => some (.nx ρ' S')
      | o => o) := if_pos h
noncomputable def sForB (f : Dn (List D × (Sto → Prop))) (t : Tn) (body : Sn) : Sn := fun ρ S => bnS (f ρ S) ρ fun p S1 => loopSI p.2 t body p.1 ρ S1
theorem s_forB {X : Cx} {W : WX'} {tg iter : Expr} {js : List Nat} {t : Tn} {f : Dn (List D × (Sto → Prop))} {body : List Stmt} {p : Sn} {pos : Pos} (hp : PassesOwn (model X.prog X.w) X.A X.env X.xe) (hc : X.calm = true) (hi : PiI X W tg iter f)
    (hg : PG X tg (Tt X.K js t)) (hb : Pss X W body p) (hs : ∀ x, foldedSetIterable iter X.env x = pure x := by intro _; rfl) : Ps X W (.For tg iter body [] pos) (sForB f t p) := by
  refine ps_imp (ps_for hp hc hi hg hb hs) fun Dd σ H z => ?_
  refine ts1 (R1 := RWI X.K X.mg) (g := fun ρ (q : List D × (Sto → Prop)) S1 => loopSI q.2 t p q.1 ρ S1) z fun J _ H1 ρ S1 F1 m1 q0 sl ok wk A _ _ => ?_
  obtain ⟨xs, I⟩ := q0
  refine ⟨fun i m σ H => ∃ ρ S F mm, SlR X.K F mm σ ρ ∧ SOk X.K X.mg H F mm S ∧ Stp H1 F1 m1 H F mm ∧ m = xs.length - i ∧ i ≤ xs.length ∧ AftS X.K X.mg W H F mm (loopSI I t p (xs.drop i) ρ S) Dd, ⟨_, ρ, S1, F1, m1, sl, ok, Stp.refl .., rfl, Nat.zero_le _, A⟩, ?_⟩
  rintro i m σ2 H2 ⟨ρ2, S2, F2, m2, sl2, ok2, st2, rfl, hi, A2⟩
  have hI : I S2 := Classical.byContradiction fun z => by
    rw [lsI_no z] at A2
    exact A2.elim
  obtain ⟨go, stop⟩ := wk i H2 F2 m2 S2 st2 ok2 hI
  by_cases hlt : i < xs.length
  · obtain ⟨g1, g2⟩ := go hlt
    refine .inr ⟨g1, fun σ' H' => ∃ ρ S F mm, SlR X.K F mm σ' ρ ∧ SOk X.K X.mg H' F mm S ∧ Stp H1 F1 m1 H' F mm ∧ AftS X.K X.mg W H' F mm (loopSI I t p (xs.drop (i + 1)) ρ S) Dd, fun σ' H' ⟨ρ, S, F, mm, a, b, c, d⟩ => ⟨xs.length - (i + 1), by omega, ρ, S, F, mm, a, b, c, rfl, hlt, d⟩, fun x H3 y => ?_⟩
    obtain ⟨F3, d, hd, st3, ok3, r3⟩ := g2 x H3 y
    rw [List.drop_eq_getElem_cons hlt] at A2
    have hd' : xs[i] = d := by
      rw [List.getElem?_eq_getElem hlt] at hd
      exact Option.some.inj hd
    rw [hd'] at A2
    rw [lsI_cons hI] at A2
    split at A2
    · exact A2.elim
    · rename_i ρ3 e3
      refine ⟨ρ2, F3, m2, d, ρ3, sl2.mono st3.fr (Pre.refl _), ok3.sub, r3, e3, fun σ4 sl4 _ => ⟨ρ3, S2, F3, m2, sl4, ok3, ?_⟩⟩
      match p ρ3 S2, A2 with
      | none, A2 => exact A2
      | some (.nx ρ' S'), A2 => exact fun σ' H' F' m' st k q => ⟨ρ', S', F', m', q, k, (st2.trans st3).trans st, AftS.shift (st3.trans st) A2⟩
      | some (.ct ρ' S'), A2 => exact fun σ' H' F' m' st k q => ⟨ρ', S', F', m', q, k, (st2.trans st3).trans st, AftS.shift (st3.trans st) A2⟩
      | some (.bk ρ' S'), A2 => exact fun σ' H' F' m' st k q => A2 σ' H' F' m' (st3.trans st) k q
      | some (.rt o S'), A2 => exact AftS.shift st3 (r := some (.rt o S')) A2
      | some (.er x ρ' S'), A2 => exact AftS.shift st3 (r := some (.er x ρ' S')) A2
  · have e : i = xs.length := by omega
    subst e
    rw [List.drop_length, lsI_nil hI] at A2
    exact .inl ⟨stop (Nat.le_refl _), A2 σ2 H2 F2 m2 (Stp.refl ..) ok2 sl2⟩

/-! ### comprehensions -/
open Classical in
noncomputable def loopCI (I : Sto → Prop) (t : Tn) (c : Dn Bool) (f : Dn Out) (ρ : En) : List D → Nat → Sto → Option (List D × Sto)
  | [], _, S => if I S then some ([], S) else none
  | d :: r, k, S => if I S then (match t ρ d with
    | none => none
    | some ρ1 => match c ρ1 S with
      | some (.ok true S1) => match stl f ρ1 S1 with
        | some (.ok y S2) => if k < sizeLine then (loopCI I t c f ρ r (k + 1) S2).map fun p => (y :: p.1, p.2) else none
        | _ => none
      | some (.ok false S1) => loopCI I t c f ρ r k S1
      | _ => none) else none
theorem lcI_no {I : Sto → Prop} {t : Tn} {c : Dn Bool} {f : Dn Out} {l : List D} {ρ : En} {k : Nat} {S : Sto} (h : ¬ I S) : loopCI I t c f ρ l k S = none := by
  cases l <;> exact if_neg h
theorem lcI_nil {I : Sto → Prop} {t : Tn} {c : Dn Bool} {f : Dn Out} {ρ : En} {k : Nat} {S : Sto} (h : I S) : loopCI I t c f ρ [] k S = some ([], S) := if_pos h
theorem lcI_cons {I : Sto → Prop} {t : Tn} {c : Dn Bool} {f : Dn Out} {d : D} {r : List D} {ρ : En} {k : Nat} {S : Sto} (h : I S) : loopCI I t c f ρ (d :: r) k S = (match t ρ d with
    | none => none
    | some ρ1 => match c ρ1 S with
      | some (.ok true S1) => match stl f ρ1 S1 with
        | some (.ok y S2) => if k < sizeLine then (loopCI I t c f ρ r (k + 1) S2).map fun p => (y :: p.1, p.2) else none
        | _ => none
      | some (.ok false S1) => loopCI I t c f ρ r k S1
      | _ => none) := if_pos h
noncomputable def dCompB (g : Dn (List D × (Sto → Prop))) (t : Tn) (c : Dn Bool) (f : Dn Out) (vs : List Nat) : Dn Out := fun ρ S => bnd (g ρ S) fun p S1 => match loopCI p.2 t c f (wipeE ρ vs) p.1 0 S1 with
  | some (ys, S2) => some (.ok (.own (.lst ys)) S2)
  | none => none
theorem tg_compI {K : PySem.W.Frag} {mg : Str → Option Value} {W : WX'} {g : Dn (List D × (Sto → Prop))} {t : Tn} {c : Dn Bool} {f : Dn Out} {js vs : List Nat} (hv : ∀ j ∈ js, j ∈ vs) {σ : L2.St} {H : Hp} {Q : VK} (h : Tg K mg (RO K mg) W (dCompB g t c f vs) σ H Q) :
    tLc (Tg K mg (RWI K mg) W g) (Tt K js t) (Tg K mg RB W0 c) (Tg K mg (RO K mg) W0 f) vs σ H Q := by
  refine tg1 (R2 := RO K mg) (g := fun ρ (p : List D × (Sto → Prop)) S1 => match loopCI p.2 t c f (wipeE ρ vs) p.1 0 S1 with
    | some (ys, S2) => some (.ok (.own (.lst ys)) S2)
    | none => none) sh_O h fun J _ H1 ρ S1 F1 m1 q0 sl ok1 wk A => ?_
  obtain ⟨xs, I⟩ := q0
  intro Da hDa
  obtain ⟨okD, stD⟩ := ok1.new (o := .lst []) hDa
  have fD := ok1.fnone hDa
  have mD := ok1.notin hDa
  -- behind i items: the list holds acc, of ys; what is left gives the rest
  refine ⟨fun i n H => ∃ S F m acc ys r, SOk K mg H F m S ∧ Stp H1 F1 m1 H F m ∧ (H Da = some (.lst acc) ∧ F Da = none ∧ Da ∉ m) ∧ RepL K F m acc ys ∧ n = xs.length - i ∧ i ≤ xs.length ∧
    loopCI I t c f (wipeE ρ vs) (xs.drop i) ys.length S = some r ∧
    Aft K mg (RO K mg) (fun c d H' => W c d σ H') H1 F1 m1 (some (.ok (.own (.lst (ys ++ r.1))) r.2)) Q, ?_, ?_⟩
  · match e : loopCI I t c f (wipeE ρ vs) xs 0 S1, A with
    | none, A => exact A.elim
    | some (ys, S2), A => exact ⟨_, S1, F1, m1, [], [], (ys, S2), okD, stD, ⟨upd_same, fD, mD⟩, .nil, rfl, Nat.zero_le _, e, A⟩
  · rintro i n H2 ⟨S2, F2, m2, acc, ys, r, ok2, st2, hacc, racc, rfl, hi, e2, A2⟩
    have hI : I S2 := Classical.byContradiction fun z => by
      rw [lcI_no z] at e2
      cases e2
    obtain ⟨go, stop⟩ := wk i H2 F2 m2 S2 st2 ok2 hI
    by_cases hlt : i < xs.length
    · obtain ⟨g1, g2⟩ := go hlt
      refine .inr ⟨g1, fun H => ∃ S F m acc ys r, SOk K mg H F m S ∧ Stp H1 F1 m1 H F m ∧ (H Da = some (.lst acc) ∧ F Da = none ∧ Da ∉ m) ∧ RepL K F m acc ys ∧
        loopCI I t c f (wipeE ρ vs) (xs.drop (i + 1)) ys.length S = some r ∧ Aft K mg (RO K mg) (fun c d H' => W c d σ H') H1 F1 m1 (some (.ok (.own (.lst (ys ++ r.1))) r.2)) Q,
        fun H' ⟨S, F, m, acc, ys, r, a1, a2, a3, a4, a5, a6⟩ => ⟨xs.length - (i + 1), by omega, S, F, m, acc, ys, r, a1, a2, a3, a4, rfl, hlt, a5, a6⟩, fun x H3 y => ?_⟩
      obtain ⟨F3, d, hd, st3, ok3, r3⟩ := g2 x H3 y
      rw [List.drop_eq_getElem_cons hlt] at e2
      have hd' : xs[i] = d := by
        rw [List.getElem?_eq_getElem hlt] at hd
        exact Option.some.inj hd
      rw [hd'] at e2
      rw [lcI_cons hI] at e2
      split at e2
      · cases e2
      · rename_i ρ4 e4
        have slw := (sl.mono st2.fr st2.pre).wipe vs
        refine ⟨wipeE ρ vs, F3, m2, d, ρ4, slw.mono st3.fr (Pre.refl _), ok3.sub, r3, e4, fun σ4 sl4 w4 => ⟨?_, ?_⟩⟩
        · rw [w4 vs hv]
          have : ∀ (ws us : List Nat) (σ : L2.St), (∀ j ∈ ws, j ∈ us) → L2.wipe (L2.wipe σ ws) us = L2.wipe σ us := fun ws us σ hw => by
            induction ws with
            | nil => rfl
            | cons w ws ih =>
              show L2.wipe ((L2.wipe σ ws).set w none) us = _
              rw [wipe_set us _ w none (hw w List.mem_cons_self)]
              exact ih fun j hj => hw j (List.mem_cons_of_mem _ hj)
          exact this vs vs σ fun _ hj => hj
        · have acc3 := own_keep st3 hacc.1 hacc.2.1 hacc.2.2
          refine ⟨ρ4, S2, F3, m2, sl4, ok3, ?_⟩
          split at e2
          · rename_i S5 e5
            rw [e5]
            intro b H5 F5 m5 st5 ok5 hb
            have hb' : b = true := hb
            subst hb'
            rw [if_pos rfl]
            have acc5 := own_keep st5 acc3.1 acc3.2.1 acc3.2.2
            refine ⟨ρ4, S5, F5, m5, sl4.mono st5.fr st5.pre, ok5, ?_⟩
            unfold stl at e2
            match e6 : f ρ4 S5, e2 with
            | none, e2 => cases e2
            | some (.er x S6), e2 => cases e2
            | some (.ok o S6), e2 =>
              intro v H6 F6 m6 st6 ok6 r6
              obtain ⟨F7, m7, st7, ok7, r7⟩ := settle_ok st6 ok6 r6
              have acc7 := own_keep st7 acc5.1 acc5.2.1 acc5.2.2
              have e2 : (if ys.length < sizeLine then (loopCI I t c f (wipeE ρ vs) (xs.drop (i + 1)) (ys.length + 1) (settle o S6).2).map (fun p => ((settle o S6).1 :: p.1, p.2)) else none) = some r := e2
              by_cases hk : ys.length < sizeLine
              · rw [if_pos hk] at e2
                cases e8 : loopCI I t c f (wipeE ρ vs) (xs.drop (i + 1)) (ys.length + 1) (settle o S6).2 with
                | none => rw [e8] at e2; cases e2
                | some r' =>
                  rw [e8] at e2
                  cases e2
                  refine ⟨acc, acc7.1, by rw [racc.length]; exact hk, ?_⟩
                  have st17 : Stp H1 F1 m1 H6 F7 m7 := ((st2.trans st3).trans st5).trans st7
                  have keep : ∀ a u, a ≠ Da → H6 a = some u → upd H6 Da (.lst (acc ++ [v])) a = some u := fun a u h q => by rw [upd_ne h]; exact q
                  refine ⟨(settle o S6).2, F7, m7, acc ++ [v], ys ++ [(settle o S6).1], r', ⟨fun a u q => keep a u (fun z => by rw [z, acc7.2.1] at q; cases q) (ok7.sub a u q), ok7.len, ok7.nd, ok7.off, fun n a u h1 h2 => ?_⟩, ?_, ⟨upd_same, acc7.2.1, acc7.2.2⟩, ?_, ?_, ?_⟩
                  · exact ObR.mono (Same.refl _) (Pre.refl _) (fun u q => keep a u (fun z => acc7.2.2 (z ▸ List.mem_of_getElem? h1)) q) u (ok7.obj n a u h1 h2)
                  · refine ⟨st17.fr, st17.pr, st17.nw, fun a u q hn => keep a u (fun z => by rw [z, hDa] at q; cases q) (st17.kp a u q hn), fun a q => ?_⟩
                    by_cases ha : a = Da
                    · rw [ha, upd_same] at q; cases q
                    · rw [upd_ne ha] at q
                      exact st17.dm a q
                  · exact (RepL.mono (((st3.fr.trans st5.fr)).trans st7.fr) ((st3.pre.trans st5.pre).trans st7.pre) ys racc).append (.cons r7 .nil)
                  · rw [List.length_append, List.length_singleton]
                    exact e8
                  · rw [List.append_assoc]
                    exact A2
              · rw [if_neg hk] at e2
                cases e2
          · rename_i S5 e5
            rw [e5]
            intro b H5 F5 m5 st5 ok5 hb
            have hb' : b = false := hb
            subst hb'
            rw [if_neg (by simp)]
            exact ⟨S5, F5, m5, acc, ys, r, ok5, (st2.trans st3).trans st5, own_keep st5 acc3.1 acc3.2.1 acc3.2.2, RepL.mono (st3.fr.trans st5.fr) (st3.pre.trans st5.pre) ys racc, e2, A2⟩
          · cases e2
    · have e : i = xs.length := by omega
      subst e
      rw [List.drop_length, lcI_nil hI] at e2
      cases e2
      refine .inl ⟨stop (Nat.le_refl _), A2 (.ref Da) H2 F2 m2 st2 ok2 ⟨Da, rfl, hDa, hacc.2.1, hacc.2.2, acc, hacc.1, ?_⟩⟩
      rw [List.append_nil]
      exact racc
section
variable {X : Cx} {W : WX'} {elt tg iter : Expr} {ifs : List Expr} {scope : Scope} {own : List (Str × Nat)} {pos : Pos} {g : Dn (List D × (Sto → Prop))} {t : Tn} {c : Dn Bool} {f : Dn Out} {js : List Nat}
theorem d_compI (hc : X.calm = true) (hN : X.N.Nodup) (hi : PiI X W tg iter g) (ok : BlkOk X.N X.env.scope scope own)
    (hg : ∀ (s : Shared) (H : Hp) (C : Addr) (cl : List (Str × Addr)) (fp : List Addr), PG (X.blk s H scope (compEnvC scope cl C X.env) fp) tg (Tt X.K js t)) (ht : ∀ (s : Shared) (H : Hp) (C : Addr) (cl : List (Str × Addr)) (fp : List Addr), Pts (X.blk s H scope (compEnvC scope cl C X.env) fp) W0 ifs c)
    (he : ∀ (s : Shared) (H : Hp) (C : Addr) (cl : List (Str × Addr)) (fp : List Addr), Pe (X.blk s H scope (compEnvC scope cl C X.env) fp) W0 elt f) (hj : ∀ j ∈ js, j ∈ own.map (·.2)) (hs : ∀ x, foldedSetIterable iter X.env x = pure x := by intro _; rfl) :
    Pe X W (.ListComp elt [⟨tg, iter, ifs, 0⟩] scope pos) (dCompB g t c f (own.map (·.2))) :=
  pe_imp (pe_lc hc hN hi ok hg ht he hs) fun _ _ _ q => tg_compI hj q
/-- name = [..]: frozen, or into the store -/
theorem s_compI {i : Nat} {y : Str} {py spos : Pos} (hc : X.calm = true) (hN : X.N.Nodup) (hy : X.N[i]? = some y) (hyl : X.env.scope.names.lookup y = some .local)
    (hsw : swapsWith (.ListComp elt [⟨tg, iter, ifs, 0⟩] scope pos) (some (.Name y py)) spos.line X.env = pure true) (hi : PiI X W tg iter g) (ok : BlkOk X.N X.env.scope scope own)
    (hg : ∀ (s : Shared) (H : Hp) (C : Addr) (cl : List (Str × Addr)) (fp : List Addr), PG (X.blk s H scope (compEnvC scope cl C X.env) fp) tg (Tt X.K js t)) (ht : ∀ (s : Shared) (H : Hp) (C : Addr) (cl : List (Str × Addr)) (fp : List Addr), Pts (X.blk s H scope (compEnvC scope cl C X.env) fp) W0 ifs c)
    (he : ∀ (s : Shared) (H : Hp) (C : Addr) (cl : List (Str × Addr)) (fp : List Addr), Pe (X.blk s H scope (compEnvC scope cl C X.env) fp) W0 elt f) (hj : ∀ j ∈ js, j ∈ own.map (·.2)) (hs : ∀ x, foldedSetIterable iter X.env x = pure x := by intro _; rfl) :
    Ps X W (.Assign [.Name y py] (.ListComp elt [⟨tg, iter, ifs, 0⟩] scope pos) spos) (sAsg i (dCompB g t c f (own.map (·.2)))) := by
  refine ps_imp (ps_setLc (i := i) (tt := Tg X.K X.mg RB W0 c) (te := Tg X.K X.mg (RO X.K X.mg) W0 f) hc hN hy hyl hsw hi ok hg ht he hs) fun Dd σ H z => ?_
  have z2 : Tg X.K X.mg (RO X.K X.mg) W (dCompB g t c f (own.map (·.2))) σ H fun v H1 => Dd.nx (σ.set i (some v)) H1 := by
    refine tg_stl ?_
    exact ts1 (R1 := RD X.K) (g := fun ρ (d : D) S1 => some (.nx (ρ.set i (some d)) S1)) z fun v _ H1 ρ S1 F1 m1 d sl ok r A _ _ => A _ H1 F1 m1 (Stp.refl ..) ok (sl.put i r)
  exact tg_compI hj z2
theorem s_compIB {i : Nat} {y : Str} {py spos : Pos} (hc : X.calm = true) (hN : X.N.Nodup) (hy : X.N[i]? = some y) (hyl : X.env.scope.names.lookup y = some .local)
    (hsw : swapsWith (.ListComp elt [⟨tg, iter, ifs, 0⟩] scope pos) (some (.Name y py)) spos.line X.env = pure true) (hi : PiI X W tg iter g) (ok : BlkOk X.N X.env.scope scope own)
    (hg : ∀ (s : Shared) (H : Hp) (C : Addr) (cl : List (Str × Addr)) (fp : List Addr), PG (X.blk s H scope (compEnvC scope cl C X.env) fp) tg (Tt X.K js t)) (ht : ∀ (s : Shared) (H : Hp) (C : Addr) (cl : List (Str × Addr)) (fp : List Addr), Pts (X.blk s H scope (compEnvC scope cl C X.env) fp) W0 ifs c)
    (he : ∀ (s : Shared) (H : Hp) (C : Addr) (cl : List (Str × Addr)) (fp : List Addr), Pe (X.blk s H scope (compEnvC scope cl C X.env) fp) W0 elt f) (hj : ∀ j ∈ js, j ∈ own.map (·.2)) (hs : ∀ x, foldedSetIterable iter X.env x = pure x := by intro _; rfl) :
    Ps X W (.Assign [.Name y py] (.ListComp elt [⟨tg, iter, ifs, 0⟩] scope pos) spos) (sAsgB i (dCompB g t c f (own.map (·.2)))) := by
  refine ps_imp (ps_setLc (i := i) (tt := Tg X.K X.mg RB W0 c) (te := Tg X.K X.mg (RO X.K X.mg) W0 f) hc hN hy hyl hsw hi ok hg ht he hs) fun Dd σ H z => ?_
  have z2 : Tg X.K X.mg (RO X.K X.mg) W (dCompB g t c f (own.map (·.2))) σ H fun v H1 => Dd.nx (σ.set i (some v)) H1 := by
    refine tg_bxd ?_
    exact ts1 (R1 := RD X.K) (g := fun ρ (d : D) S1 => some (.nx (ρ.set i (some d)) S1)) z fun v _ H1 ρ S1 F1 m1 d sl ok r A _ _ => A _ H1 F1 m1 (Stp.refl ..) ok (sl.put i r)
  exact tg_compI hj z2
end
/-! reckoning -/
theorem x_itBox (f : Dn Out) (ρ : En) (S : Sto) : itBox f ρ S = bnd (stl f ρ S) boxK := rfl
theorem x_boxK {S : Sto} {k : Nat} {es : List D} (h : S[k]? = some (.lst es)) : boxK (.ref k) S = some (.ok (es, boxI k es) S) := by
  simp only [boxK, h]
end Sf
/-! Sf21: exceptions: raised, caught and kept, asked of their class and fields. -/
namespace Sf
open L2 PySem PySem.Spec PyProof.Rows

/-! ### the hand layer: an exception kept behind its suite -/
section
variable {X : Cx} {pins : List (Addr × Obj)} {σ : L2.St} {H : Hp} {s : Shared} {a : Addr} {o : HO}
/-- an object that stands already, untracked so far, is tracked from now on -/
theorem inv_track (I : Inv X pins σ H s) (ha : H a = none) (n0 : X.s_0.heap.get? a = none) (nL : a ≠ X.env.locals) (nC : ∀ x c, X.env.cells.lookup x = some c → c ≠ a) (nP : ∀ p ∈ X.pn ++ pins, p.1 ≠ a)
    (new : ObjOk X.prog X.w (upd H a o) s.heap a o) : Inv X pins σ (upd H a o) s := by
  have off : ∀ {b : Addr} {u : HO}, H b = some u → upd H a o b = some u := fun {b u} e => by
    rw [upd_ne (fun z => by rw [z, ha] at e; cases e)]
    exact e
  have non : ∀ {b : Addr}, b ≠ a → H b = none → upd H a o b = none := fun {b} hb e => by
    rw [upd_ne hb]
    exact e
  have B := I.base
  refine { ok := I.ok, os := I.os, bare := I.bare, loc := I.loc, cell := I.cell, len := I.len, base := ?_, free := non nL.symm I.free, freeC := fun x c e => non (nC x c e) (I.freeC x c e), pin := fun p hp => ?_, hok := fun b u e => ?_ }
  · exact { keep := B.keep, slot := B.slot, there := B.there, tups := fun b xs e => off (B.tups b xs e), frzs := fun b ob u e => off (B.frzs b ob u e),
            tbls := fun b ps e => let ⟨more, q⟩ := B.tbls b ps e; ⟨more, off q⟩,
            free := fun b ob e n hx => non (fun z => by rw [z, n0] at e; cases e) (B.free b ob e n hx) }
  · obtain ⟨p1, p2, p3⟩ := I.pin p hp
    exact ⟨p1, non (nP p hp) p2, p3⟩
  · by_cases hb : b = a
    · subst hb
      rw [upd_same] at e
      cases e
      exact new
    · rw [upd_ne hb] at e
      exact (I.hok b u e).stay (fun _ _ _ q => q) (fun _ q => off q) (fun _ _ q => off q)
end
theorem exK_ok {P : Program} {w : World} {H : Hp} {h : Heap} {a : Addr} {cls : Value} {d : Option Addr} {ob : Obj} {vs : Array Value} (e : h.get? a = some ob) (z : Zc cls d ob) (hd : ob.data = .fields vs) : ObjOk P w H h a (exK cls d a) :=
  ⟨⟨ob, vs, e, z, hd⟩, ⟨ob, e⟩, fun _ _ q k => let ⟨o, v, q1, q2⟩ := q; ⟨o, v, k o q1, q2⟩⟩
/-- what 'except x as n: suite' wishes, the exception kept behind it -/
def wKp (K : PySem.W.Frag) (c : Value) (i : Nat) (ts : TS) (Wout : WX) (D : Ends) : WX := fun cls d σ H =>
  ∃ b, PySem.W.exmOne K cls c = some b ∧
    (b = true → ∀ a, H a = none → ts { nx := fun τ G => D.nx (τ.set i none) (upd G a (exK cls d a)), rt := fun _ _ => False } (σ.set i (some (.ref a))) H) ∧
    (b = false → Wout cls d σ H)
section
variable {X : Cx} {x n : Str} {c : Value} {i : Nat} {body suite : List Stmt} {b₀ : Stmt} {np pos pos' : Pos} {tb : WX → TS} {ts : TS} {Wout : WX}
theorem ps_try_kp (hs : X.stack = X.env :: X.outer) (hf : X.env.frame = some X.env.locals) (hex : X.ex = []) (hN : X.N.Nodup) (hi : X.N[i]? = some n) (hln : X.env.kindOf n = some .local) (hc : Names X x c) (tk : L2.Takes X Wout)
    (hb : ∀ (W : WX) (pn : List (Addr × Obj)) (xe : Value → Shared → Prop), L2.Takes (X.tr pn xe) W → PassesOwn (model X.prog X.w) X.A X.env xe → PSs (X.tr pn xe) body (tb W))
    (hsu : ∀ (a : Addr) (pn : List (Addr × Obj)), PSs (X.suite a pn) (b₀ :: suite) ts) :
    PS X (.Try body [.ExceptHandler (some (.Name x np)) (some n) (b₀ :: suite) pos'] [] [] pos) (fun D σ H => tb (wKp X.K c i ts Wout D) D σ H) := by
  constructor
  intro pq s τ G D I0 h0
  have ok := I0.ok
  have fr : X.A.frames = some (X.env :: X.outer) := by rw [ok.frames, hs]
  refine wpAny_Try_except ?_
  let land : Value → Shared → Prop := fun e s₁ =>
    wpAny (model X.prog X.w) X.A (noteFrame e X.env) (fun _ s₂ =>
      wpAny (model X.prog X.w) X.A (setFlight e none) (fun _ s₃ =>
        wpAny (model X.prog X.w) X.A (handleBy e X.env [.ExceptHandler (some (.Name x np)) (some n) (b₀ :: suite) pos']) (SP X pq D) X.xe s₃) X.xe s₂) X.xe s₁
  have take : L2.Takes (X.tr (X.pn ++ pq) land) (wKp X.K c i ts Wout D) := ?tk
  refine wpAny_mono ((hb _ _ _ take PassesOwn.looking).run [] s τ G D (I0.toTry _) h0) (fun f s1 hsp => ?fin) (fun e s1 he => he)
  case fin =>
    cases f with
    | next => obtain ⟨τ1, G1, J1, q⟩ := hsp; exact wpAny_execs_nil ⟨τ1, G1, J1.ofTry ok, q⟩
    | brk => obtain ⟨τ1, G1, J1, q⟩ := hsp; exact ⟨τ1, G1, J1.ofTry ok, q⟩
    | cont => obtain ⟨τ1, G1, J1, q⟩ := hsp; exact ⟨τ1, G1, J1.ofTry ok, q⟩
    | ret u => obtain ⟨v, τ1, G1, J1, r, q⟩ := hsp; exact ⟨v, τ1, G1, J1.ofTry ok, r, q⟩
  case tk =>
    rintro u s2 ⟨a, B, sI, pq1, τ1, G1, cls, d, rfl, J0, gr, up, sky, na, os, ag, b, hb1, yes, no⟩
    have J : Inv X pq τ1 G1 sI := Inv.ofTry J0 ok
    have sky : Sky B (X.env :: X.outer) a (Zc cls d) X.env.locals s2.heap := by rw [← hs]; exact sky
    show wpAny (model X.prog X.w) X.A (noteFrame (.ref a) X.env) _ _ _
    refine Sky.land Zc.steady fr hf sky fun g3 f3 u3 => ?_
    have J3 : Inv X pq τ1 G1 { s2 with heap := g3 } := J.landed gr f3.1 (up.trans u3) os ag
    obtain ⟨ob3, vs3, e3, z3, d3⟩ := f3.there
    have nfr : a ∉ frs (X.env :: X.outer) := fun hm => by
      obtain ⟨_, ob, e, hnf⟩ := f3.2.2.1.mem hm
      rw [e3] at e
      cases e
      exact hnf _ d3
    have nL : a ≠ X.env.locals := fun z => nfr (List.mem_filterMap.mpr ⟨X.env, List.mem_cons_self, by rw [hf, z]⟩)
    have nF : a ∉ X.fs := fun hm => by
      obtain ⟨en, he, q⟩ := List.mem_filterMap.mp hm
      exact nfr (List.mem_filterMap.mpr ⟨en, List.mem_cons_of_mem _ he, q⟩)
    have bn : B.get? a = none := f3.2.1
    have n0 : X.s_0.heap.get? a = none := by
      cases e : X.s_0.heap.get? a with
      | none => rfl
      | some ob =>
        obtain ⟨ob', q⟩ := J.base.there a ob e (by rw [hex]; exact fun z => nomatch z)
        have := gr a ob' q (by rw [hs]; exact nfr)
        rw [bn] at this
        cases this
    have nP : ∀ p ∈ X.pn ++ pq, p.1 ≠ a := fun p hp z => by
      have q := (J.pin p hp).1
      rw [z] at q
      have := gr a _ q (by rw [hs]; exact nfr)
      rw [bn] at this
      cases this
    have S3 := J3.suite e3 d3 na nL nF
    refine wpAny_handleBy_cons (codeAny_handlers_test ?_) (by intro q; cases q)
    have LT : PySem.W.Looks (model X.prog X.w) g3 (typeOf (.ref a)) cls := fun A Q E s k q => wpAny_typeOf_ref (k _ _ e3) (by rw [z3.1]; exact q)
    have LM := PySem.W.exm_one (M := model X.prog X.w) (J3.kIn) LT hb1
    have test : ∀ {Q E : Value → Shared → Prop}, Q c { s2 with heap := g3 } → wpAny (model X.prog X.w) (X.A.mark (some (.ref a))) (eval (.Name x np) X.env) Q E { s2 with heap := g3 } := fun {Q E} q => by
      obtain ⟨hg, hdb, hm | ⟨hm, hv, hnn⟩⟩ := hc
      · exact ld_glob (X := X.suite a ((a, ob3) :: (X.pn ++ pq))) S3 hg hm q hdb
      · exact ld_blt (X := X.suite a ((a, ob3) :: (X.pn ++ pq))) S3 hg hm hv q hnn hdb
    refine test (LM.here ?_)
    cases b with
    | true =>
      refine codeAny_handlers_suite_as ?_
      refine HandSPX.lands_againZ f3 fun g4 f4 u4 => ?_
      have J4 : Inv X pq τ1 G1 { s2 with heap := g4 } := J.landed gr f4.1 ((up.trans u3).trans u4) os ag
      obtain ⟨ob4, vs4, e4, z4, d4⟩ := f4.there
      have S4 := J4.suite e4 d4 na nL nF
      refine store_ok (X := X.suite a ((a, ob4) :: (X.pn ++ pq))) (v := .ref a) S4 hN hi (.inl hln) rfl (fun s5 S5 => ?_) (.inr hln)
      refine wpAny_mono ((hsu a _).run [] s5 _ G1 _ S5 (yes rfl a na)) (fun f s6 hsp => ?_) (fun _ _ z => False.elim z)
      cases f with
      | next =>
        obtain ⟨τ6, G6, S6, q6⟩ := hsp
        have S6 : Inv (X.suite a ((a, ob4) :: (X.pn ++ pq))) [] τ6 G6 s6 := S6
        obtain ⟨p1, p2, _⟩ := S6.pin (a, ob4) (List.mem_append_left _ List.mem_cons_self)
        have T6 := inv_track (S6.unsuite ok) p2 n0 nL (fun y cc ec z => by
          obtain ⟨v, ob, hob, hdt⟩ := S6.cell y cc ec
          rw [z, p1] at hob
          cases hob
          have hdt : ob4.data = _ := hdt
          rw [d4] at hdt
          cases hdt) nP (exK_ok (cls := cls) (d := d) p1 z4 d4)
        exact gone_ok T6 hN hi hln fun s7 J7 => ⟨_, _, J7, q6⟩
      | brk =>
        obtain ⟨_, _, _, q⟩ := hsp
        exact False.elim q
      | cont =>
        obtain ⟨_, _, _, q⟩ := hsp
        exact False.elim q
      | ret u =>
        obtain ⟨_, _, _, _, _, q⟩ := hsp
        exact False.elim q
    | false =>
      show wpAny _ X.A (handleBy (.ref a) X.env []) _ _ _
      refine wpAny_handleBy_nil ?_
      have f3' := f3
      obtain ⟨w1, w2, w3, ob, vs, T, oT, tsx, he, hz, hd, h1, hr⟩ := f3
      unfold PySem.passOn
      refine wpAny_bind (wpAny_field he hd h1 ?_)
      rw [if_neg (show ¬ ((Value.ref T == Value.none) = true) from by simp)]
      have out : wpAny (model X.prog X.w) X.A (setFlight (.ref a) X.env.frame) (fun _ s4 =>
          wpAny (model X.prog X.w) X.A (throw (.ref a) : Sem Flow) (SP X pq D) X.xe s4) X.xe { s2 with heap := g3 } := by
        rw [hf]
        refine HandSPX.setFlight_upZ f3' fun g4 hh4 u4 => wpAny_throw (tk _ _ ?_)
        exact ⟨a, B, sI, pq, τ1, G1, cls, d, rfl, J, gr, (up.trans u3).trans u4, .inr (.inr (by rw [hs]; exact hh4)), na, os, ag, no rfl⟩
      first
        | exact wpAny_bind (wpAny_pure (wpAny_bind out))
        | exact wpAny_bind out
end
end Sf
/-! Sf22: exceptions in the layer: raised, caught and kept, asked of their class, their fields read. -/
namespace Sf
open L2 PySem PySem.Spec PyProof.Rows

/-! ### raise C(e), C without own __init__ -/
def erK (c : Str) (ρ : En) (_ : D) (S : Sto) : Option Fl := some (.er ⟨c, []⟩ ρ S)
def sRaise (c : Str) (f : Dn Out) : Sn := fun ρ S => bnS (stl f ρ S) ρ (erK c ρ)
/-- what stands of an exception class that may be raised -/
structure RaC (K : PySem.W.Frag) (mg : Str → Option Value) (c : Str) (C : Addr) : Prop where
  g : mg c = some (.ref C)
  x : PySem.W.excIn K C [.type "ValueError", .type "Exception", .type "BaseException", .type "object"] "ValueError.__new__" = true
  k : PySem.W.keepIn K (.ref C) = true
  s : PySem.W.subIn K (.ref C) (.type "BaseException") = some true
  t : PySem.W.typeIn K (.ref C) = some (.type "type")
theorem s_raise {X : Cx} {W : WX'} {c : Str} {C : Addr} {e : Expr} {f : Dn Out} {k : Nat} {p pos pos2 : Pos} (Z : Stand X W k) (R : RaC X.K X.mg c C) (hg : Gl X c) (he : Pe X W e f)
    (hs : starEach [e] X.env = (false, eval e X.env) :: starEach [] X.env := by rfl) (hdb : (c == ("__debug__" : Str)) = false := by decide) :
    Ps X W (.Raise (some (.Call (.Name c p) [e] [] pos)) none pos2) (sRaise c f) := by
  refine ps_imp (L2.ps_raise Z.calm Z.take (SkE.pmk_own1 PySem.F.excBase_ValueError R.x R.g R.k (raises_own R.s R.t) hg he.d hs hdb)) fun Dd σ H z => ?_
  exact ts1 (R1 := RD X.K) (g := fun ρ d S1 => erK c ρ d S1) z fun v _ H1 ρ S1 F1 m1 d sl ok r A _ _ => A (.ref C) none σ H1 F1 m1 (Stp.refl ..) ok sl ⟨C, R.g, rfl, .inl ⟨rfl, rfl⟩⟩

/-! ### try: body, except T as n: w = n -/
def tryK (tbl : List (Str × Bool)) (i j : Nat) : Option Fl → Option Fl
  | some (.er x ρ S) => if i < ρ.length then (match tbl.lookup x.cls with
    | some true => some (.nx (((ρ.set i (some (.ref S.length))).set j (some (.ref S.length))).set i none) (S ++ [.exc x.cls x.fs]))
    | some false => some (.er x ρ S)
    | none => none) else none
  | r => r
def sTry (tbl : List (Str × Bool)) (i j : Nat) (p : Sn) : Sn := fun ρ S => tryK tbl i j (p ρ S)
/-- how the classes stand to the clause's class -/
def TrF (K : PySem.W.Frag) (mg : Str → Option Value) (T : Value) (tbl : List (Str × Bool)) : Prop := ∀ c b, tbl.lookup c = some b → ∀ C, mg c = some (.ref C) → PySem.W.exmOne K (.ref C) T = some b
theorem trF_nil {K : PySem.W.Frag} {mg : Str → Option Value} {T : Value} : TrF K mg T [] := fun _ _ h => by cases h
theorem trF_cons {K : PySem.W.Frag} {mg : Str → Option Value} {T : Value} {tbl : List (Str × Bool)} {c : Str} {b : Bool} {C : Addr} (g : mg c = some (.ref C)) (e : PySem.W.exmOne K (.ref C) T = some b) (h : TrF K mg T tbl) : TrF K mg T ((c, b) :: tbl) := fun c' b' q C' g' => by
  rw [List.lookup_cons] at q
  cases hc : c' == c with
  | true =>
    rw [hc] at q
    cases q
    rw [eq_of_beq hc] at g'
    rw [g] at g'
    cases g'
    exact e
  | false =>
    rw [hc] at q
    exact h c' b' q C' g'
theorem Stand.tr {X : Cx} {W W' : WX'} {k : Nat} (Z : Stand X W k) {pn : List (Addr × Obj)} {xe : Value → Shared → Prop} (tk : L2.Takes (X.tr pn xe) W') : Stand (X.tr pn xe) W' k := ⟨Z.room, Z.guard, tk, Z.calm⟩
/-- the suite w = n -/
def tsKp (i j : Nat) : TS := fun Dd σ H => ∃ v, σ[i]? = some (some v) ∧ Dd.nx (σ.set j (some v)) H
theorem pss_kp {X : Cx} {i j : Nat} {n w : Str} {np wp pos : Pos} (nd : X.N.Nodup) (hi : X.N[i]? = some n) (hj : X.N[j]? = some w) (hn : Vis X.env.scope n) (hw : X.env.scope.names.lookup w = some .local)
    (hs : swapsWith (.Name n np) (some (.Name w wp)) pos.line X.env = pure false) (hd : (n == ("__debug__" : Str)) = false) (hcd : (n == ("__classdict__" : Str)) = false) :
    PSs X [.Assign [.Name w wp] (.Name n np) pos] (tsKp i j) := by
  have h := pss_cons (ps_set (i := j) nd hj (.inl hw) (pe_var hi hn hd hcd) hs (.inr hw)) pss_nil
  exact pss_imp h fun Dd σ H z => z
theorem s_try {X : Cx} {W : WX'} {x n w : Str} {T : Value} {i j : Nat} {tbl : List (Str × Bool)} {body : List Stmt} {p : Sn} {k : Nat} {np wp ep spos pos pos' : Pos} (Z : Stand X W k) (nd : X.N.Nodup) (hi : X.N[i]? = some n) (hj : X.N[j]? = some w)
    (hT : Names X x T) (F : TrF X.K X.mg T tbl) (hln : X.env.kindOf n = some .local) (hw : X.env.scope.names.lookup w = some .local)
    (hb : ∀ (W' : WX') (pn : List (Addr × Obj)) (xe : Value → Shared → Prop), Stand (X.tr pn xe) W' k → PassesOwn (model X.prog X.w) X.A X.env xe → Pss (X.tr pn xe) W' body p)
    (hs : X.stack = X.env :: X.outer := by rfl) (hf : X.env.frame = some X.env.locals := by rfl) (hex : X.ex = [] := by rfl)
    (hsw : swapsWith (.Name n ep) (some (.Name w wp)) spos.line X.env = pure false := by rfl) (hd : (n == ("__debug__" : Str)) = false := by decide) (hcd : (n == ("__classdict__" : Str)) = false := by decide) :
    Ps X W (.Try body [.ExceptHandler (some (.Name x np)) (some n) [.Assign [.Name w wp] (.Name n ep) spos] pos'] [] [] pos) (sTry tbl i j p) := by
  refine ps_imp (ps_try_kp (i := i) (ts := tsKp i j) (tb := fun W' => Ts X.K X.mg W' p) (Wout := W) hs hf hex nd hi hln hT Z.take (fun W' pn xe tk ho => hb W' pn xe (Z.tr tk) ho)
    (fun a pn => pss_kp (X := X.suite a pn) nd hi hj (.inl hln) hw hsw hd hcd)) fun Dd σ H z => ?_
  obtain ⟨ρ, S, F0, m, sl, ok, A⟩ := z
  refine ⟨ρ, S, F0, m, sl, ok, ?_⟩
  unfold sTry at A
  match e : p ρ S, A with
  | none, A => exact A
  | some (.nx ρ' S'), A => exact A
  | some (.rt o S'), A => exact A
  | some (.bk ρ' S'), A => exact A
  | some (.ct ρ' S'), A => exact A
  | some (.er y ρ1 S1), A =>
    intro c d σ' H' F' m' st ok' sl' xr
    obtain ⟨C, hC, rfl, hx⟩ := xr
    unfold tryK at A
    dsimp only at A
    by_cases hlt : i < ρ1.length
    · rw [if_pos hlt] at A
      cases eb : tbl.lookup y.cls with
      | none => rw [eb] at A; exact A.elim
      | some b =>
        rw [eb] at A
        refine ⟨b, F y.cls b eb C hC, fun hb2 a ha => ?_, fun hb2 => ?_⟩
        · subst hb2
          have A : AftS X.K X.mg W H F0 m (some (.nx (((ρ1.set i (some (.ref S1.length))).set j (some (.ref S1.length))).set i none) (S1 ++ [.exc y.cls y.fs]))) Dd := A
          obtain ⟨k1, t1⟩ := ok'.new (p := a) (o := exK (.ref C) d a) ha
          obtain ⟨m2, t2, k2, r2⟩ := box_ok (o := .exc y.cls y.fs) (v := .ref a) t1 k1 ⟨a, rfl, ha, ok'.fnone ha, ok'.notin ha, C, d, hC, upd_same, hx⟩
          have sl2 := ((sl'.mono t2.fr t2.pre).put i r2).put j r2
          refine ⟨.ref a, List.getElem?_set_self (by rw [sl'.len]; exact hlt), ?_⟩
          exact A _ _ _ _ (st.trans t2) k2 (sl2.wipe [i])
        · subst hb2
          exact A (.ref C) d σ' H' F' m' st ok' sl' ⟨C, hC, rfl, hx⟩
    · rw [if_neg hlt] at A
      exact A.elim

/-! ### isinstance(w, T), w an exception that was kept (without fields) -/
structure IsF (K : PySem.W.Frag) (mg : Str → Option Value) (T : Value) (tbl : List (Str × Bool)) : Prop where
  at_ : ∀ c b, tbl.lookup c = some b → ∀ C, mg c = some (.ref C) → ExcC K C ∧ PySem.W.kitOne K (.ref C) T = some b
theorem isF_nil {K : PySem.W.Frag} {mg : Str → Option Value} {T : Value} : IsF K mg T [] := ⟨fun _ _ h => by cases h⟩
theorem isF_cons {K : PySem.W.Frag} {mg : Str → Option Value} {T : Value} {tbl : List (Str × Bool)} {c : Str} {b : Bool} {C : Addr} (g : mg c = some (.ref C)) (x : ExcC K C) (e : PySem.W.kitOne K (.ref C) T = some b) (h : IsF K mg T tbl) : IsF K mg T ((c, b) :: tbl) := ⟨fun c' b' q C' g' => by
  rw [List.lookup_cons] at q
  cases hc : c' == c with
  | true =>
    rw [hc] at q
    cases q
    rw [eq_of_beq hc] at g'
    rw [g] at g'
    cases g'
    exact ⟨x, e⟩
  | false =>
    rw [hc] at q
    exact h.at_ c' b' q C' g'⟩
def isxK (tbl : List (Str × Bool)) (d : D) (S : Sto) : Option (Rz Out) := match d with
  | .ref n => match S[n]? with
    | some (.exc c []) => match tbl.lookup c with
      | some b => some (.ok (.val (.bl b)) S)
      | none => none
    | _ => none
  | _ => none
def dIsX (tbl : List (Str × Bool)) (f : Dn Out) : Dn Out := fun ρ S => bnd (stl f ρ S) (isxK tbl)
theorem call_isX {X : Cx} : CallR X (.builtin "isinstance") (fun xs H Q => ∃ (a C : Addr) (c : V) (cv : Value) (b : Bool), xs = [.ref a, c] ∧ H a = some (exK (.ref C) none a) ∧ ExcC X.K C ∧ (∀ u, RelV c u → u = cv) ∧ PySem.W.kitOne X.K (.ref C) cv = some b ∧ Q (.bl b) H) := by
  intro pins s σ H xs us Q I r h
  obtain ⟨a, C, c, cv, b, rfl, ha, E, hcv, e, q⟩ := h
  match r with
  | .cons rx (.cons rt .nil) =>
    cases rx
    have ec := hcv _ rt
    subst ec
    obtain ⟨⟨ob, vs, hget, z, hd⟩, _, _⟩ := I.hok a _ ha
    have J : PySem.W.InstAt s.heap a ob C none := by
      refine ⟨hget, z.1, ?_, ?_⟩
      · unfold PySem.W.notCls
        rw [hd] <;> rfl
      · rw [z.2]
        trivial
    exact PySem.W.kia_one (PySem.W.handS_kitx_exc E.hg E.hk E.hs E.hd E.ha E.hn E.ht E.hm) I.kIn J e (fun z => nomatch z) fun tk => ⟨.bl b, H, I.kept (t' := tk) fun _ _ z => z, rfl, q⟩
section
variable {X : Cx} {W : WX'} {e : Expr} {f : Dn Out} {T : Str} {tbl : List (Str × Bool)} {p p2 pos : Pos}
theorem isx_of {cv : V} {u : Value} (F : IsF X.K X.mg u tbl) (hcv : ∀ v, RelV cv v → v = u) {σ : L2.St} {H : Hp} {Q : VK} (q : Tg X.K X.mg (RO X.K X.mg) W (dIsX tbl f) σ H Q) :
    Tg X.K X.mg (RD X.K) W (stl f) σ H fun x H1 => ∃ (a C : Addr) (c : V) (cv' : Value) (b : Bool), [x, cv] = [.ref a, c] ∧ H1 a = some (exK (.ref C) none a) ∧ ExcC X.K C ∧ (∀ v, RelV c v → v = cv') ∧ PySem.W.kitOne X.K (.ref C) cv' = some b ∧ Q (.bl b) H1 := by
  refine tg1 (R2 := RO X.K X.mg) (g := fun _ d S1 => isxK tbl d S1) sh_O q fun x _ H1 ρ S1 F1 m1 d sl ok1 rx A => ?_
  unfold isxK at A
  split at A
  · rename_i n
    split at A
    · rename_i c e1
      split at A
      · rename_i b e2
        cases rx with
        | @ref a _ h1 =>
          obtain ⟨C, dd, hC, hH, hx⟩ := ok1.at h1 e1
          rcases hx with ⟨_, rfl⟩ | ⟨hne, _⟩
          · obtain ⟨E, ek⟩ := F.at_ c b e2 C hC
            exact ⟨a, C, cv, u, b, rfl, hH, E, hcv, ek, A _ H1 F1 m1 (Stp.refl ..) ok1 (.bl _)⟩
          · exact absurd rfl hne
      · exact A.elim
    · exact A.elim
  · exact A.elim
theorem d_isx {C : Addr} (F : IsF X.K X.mg (.ref C) tbl) (he : Pe X W e f) (hg : Gl X "isinstance") (hm : X.mg "isinstance" = none) (hg2 : Gl X T) (hm2 : X.mg T = some (.ref C)) (hd : (T == ("__debug__" : Str)) = false := by decide)
    (hs : starEach [e, .Name T p2] X.env = (false, eval e X.env) :: starEach [.Name T p2] X.env := by rfl)
    (hs2 : starEach [.Name T p2] X.env = (false, eval (.Name T p2) X.env) :: starEach [] X.env := by rfl)
    (hpl : (backTo pos (starEach [.Name T p2] X.env)).any (·.1) = false := by rfl) :
    Pe X W (.Call (.Name "isinstance" p) [e, .Name T p2] [] pos) (dIsX tbl f) :=
  pe_imp (pe_callB call_isX hg hm (by rfl) (pa_cons he.d (pa_cons (pe_glob (v := .ref C) hg2 hm2 rfl hd) pa_nil hs2) hs) (by decide) (by decide) hs hpl) fun σ H Q q => isx_of (cv := .ref C) F (fun _ r => r) q
theorem d_isxB {S : String} (F : IsF X.K X.mg (.type S) tbl) (he : Pe X W e f) (hg : Gl X "isinstance") (hm : X.mg "isinstance" = none) (hg2 : Gl X T) (hm2 : X.mg T = none) (hv : bootBuiltins T = some (.type S)) (hn : T ≠ "__name__" := by decide) (hd : (T == ("__debug__" : Str)) = false := by decide)
    (hs : starEach [e, .Name T p2] X.env = (false, eval e X.env) :: starEach [.Name T p2] X.env := by rfl)
    (hs2 : starEach [.Name T p2] X.env = (false, eval (.Name T p2) X.env) :: starEach [] X.env := by rfl)
    (hpl : (backTo pos (starEach [.Name T p2] X.env)).any (·.1) = false := by rfl) :
    Pe X W (.Call (.Name "isinstance" p) [e, .Name T p2] [] pos) (dIsX tbl f) :=
  pe_imp (pe_callB call_isX hg hm (by rfl) (pa_cons he.d (pa_cons (pe_bltn (v := .ty S) hg2 hm2 hv rfl hn hd) pa_nil hs2) hs) (by decide) (by decide) hs hpl) fun σ H Q q => isx_of (cv := .ty S) F (fun _ r => r) q
end
end Sf
/-! Sf23: dict(pairs). -/
namespace Sf
open L2 PySem PySem.Spec PyProof.Rows
def pairD : D → Option (Key × D)
  | .tup [k, v] => (keyD k).map fun q => (q, v)
  | _ => none
theorem pairD_inv {d : D} {p : Key × D} (h : pairD d = some p) : ∃ k, d = .tup [k, p.2] ∧ keyD k = some p.1 := by
  unfold pairD at h
  split at h
  · obtain ⟨q, e, rfl⟩ := Option.map_eq_some_iff.mp h
    exact ⟨_, rfl, e⟩
  · cases h
def pairsD : List D → Option (List (Key × D))
  | [] => some []
  | d :: r => (pairD d).bind fun p => (pairsD r).map fun l => p :: l
def mergeP (kvs more : List (Key × D)) : List (Key × D) := more.foldl (fun acc kv => putD acc kv.1 kv.2) kvs
theorem pr_mergeP {K : PySem.W.Frag} {F : Hp} {m : List Addr} : ∀ {ks : List (Key × V)} {ls : List (Key × D)} {k0 : List (Key × V)} {l0 : List (Key × D)}, PR K F m ks ls → PR K F m k0 l0 → PR K F m (mergeK k0 ks) (mergeP l0 ls)
  | _, _, _, _, .nil, h => h
  | p :: ks, q :: ls, k0, l0, .cons a t, h => by
    show PR K F m (mergeK (putK k0 p.1 p.2) ks) (mergeP (putD l0 q.1 q.2) ls)
    rw [a.1]
    exact pr_mergeP t (pr_put q.1 h a.2)
theorem pairsP_ok {K : PySem.W.Frag} {mg : Str → Option Value} {H F : Hp} {m : List Addr} {S : Sto} (ok : SOk K mg H F m S) (ds : List D) :
    ∀ (vs : List V) (ls : List (Key × D)), RepL K F m vs ds → pairsD ds = some ls → ∃ (ps : List Addr) (ks : List (Key × V)), vs = ps.map V.ref ∧ Paired (fun p kv => SqT K H p [kV kv.1, kv.2]) ps ks ∧ PR K F m ks ls := by
  induction ds with
  | nil =>
    intro vs ls r h
    have h : some [] = some ls := h
    cases h
    cases r
    exact ⟨[], [], rfl, .nil, .nil⟩
  | cons d ds ih =>
    intro vs ls r h
    have h : ((pairD d).bind fun p => (pairsD ds).map fun l => p :: l) = some ls := h
    obtain ⟨p, e1, h⟩ := Option.bind_eq_some_iff.mp h
    obtain ⟨l, e2, rfl⟩ := Option.map_eq_some_iff.mp h
    obtain ⟨k, rfl, e3⟩ := pairD_inv e1
    cases r with
    | cons r t =>
      obtain ⟨ps, ks, rfl, h2, h3⟩ := ih _ _ t e2
      cases r with
      | tup hs hr =>
        cases hr with
        | cons rk hr =>
          cases hr with
          | cons rv hr =>
            cases hr
            have := key_ok rk e3
            subst this
            exact ⟨_ :: ps, (p.1, _) :: ks, rfl, .cons (same_t ok.sub hs) h2, .cons ⟨rfl, rv⟩ h3⟩
def dictP : OC := fun S ds => match ds with
  | [d] => match (view S d).bind pairsD with
    | some kvs => some (.own (.dct (mergeP [] kvs)))
    | none => none
  | _ => none
theorem cl_dictP {X : Cx} (hc : X.calm = true) : CallR X (.type "dict") (rCl X.K X.mg dictP) := by
  refine CallR.imp (call_dictP hc) fun xs H Q h => ?_
  obtain ⟨S, F, m, ds, u, ok, r, e, q⟩ := h
  unfold dictP at e
  split at e
  · rename_i d
    split at e
    · rename_i kvs e1
      cases e
      obtain ⟨es, e2, e3⟩ := Option.bind_eq_some_iff.mp e1
      match r with
      | .cons r1 .nil =>
        obtain ⟨p, vs, rfl, h1, h2⟩ := view_ok ok r1 e2
        obtain ⟨ps, ks, rfl, h3, h4⟩ := pairsP_ok ok _ _ _ h2 e3
        refine ⟨p, ps, ks, rfl, h1, h3, fun b hb => ?_⟩
        obtain ⟨k, st⟩ := ok.new (o := .dK (mergeK [] ks)) hb
        exact q (.ref b) _ _ _ st k ⟨b, rfl, hb, ok.fnone hb, ok.notin hb, mergeK [] ks, upd_same, pr_mergeP h4 .nil⟩
    · cases e
  · cases e
end Sf
/-! Sf24: repr of a list that holds boxed lists. -/
namespace Sf
open L2 PySem PySem.Spec PyProof.Rows
def deep2 (S : Sto) (d : D) : D := match topd S d with
  | .lst ds => .lst (ds.map (topd S))
  | .tup ds => .tup (ds.map (topd S))
  | e => e
theorem topd_H {K : PySem.W.Frag} {mg : Str → Option Value} {H F : Hp} {m : List Addr} {S : Sto} (ok : SOk K mg H F m S) {F0 : Hp} (e0 : Same F0 H) {v : V} {d : D} (r : Rep K F0 m v d) : Rep K H m v (topd S d) := by
  by_cases hr : ∃ n, d = .ref n
  · obtain ⟨n, rfl⟩ := hr
    cases r with
    | ref h1 =>
      have r2 : Rep K F m _ (.ref n) := .ref h1
      obtain ⟨F1, e1, r3⟩ := topd_rep ok r2
      exact Rep.mono e1 (Pre.refl m) _ r3
  · have e : topd S d = d := by
      cases d <;> first | rfl | exact absurd ⟨_, rfl⟩ hr
    rw [e]
    exact Rep.mono e0 (Pre.refl m) _ r
theorem repl_topd {K : PySem.W.Frag} {mg : Str → Option Value} {H F : Hp} {m : List Addr} {S : Sto} (ok : SOk K mg H F m S) (ds : List D) : ∀ vs : List V, RepL K H m vs ds → RepL K H m vs (ds.map (topd S)) := by
  induction ds with
  | nil =>
    intro vs r
    cases r
    exact .nil
  | cons d ds ih =>
    intro vs r
    cases r with
    | cons r t => exact .cons (topd_H ok (Same.refl H) r) (ih _ t)
theorem deep2_rep {K : PySem.W.Frag} {mg : Str → Option Value} {H F : Hp} {m : List Addr} {S : Sto} (ok : SOk K mg H F m S) {v : V} {d : D} (r : Rep K F m v d) : ∃ F', Same F' H ∧ Rep K F' m v (deep2 S d) := by
  have r1 := topd_H ok ok.sub r
  refine ⟨H, Same.refl H, ?_⟩
  unfold deep2
  generalize topd S d = e at r1
  cases r1 with
  | lst h1 h2 => exact .lst h1 (repl_topd ok _ _ h2)
  | tup h1 h2 => exact .tup h1 (repl_topd ok _ _ h2)
  | non => exact .non
  | bl b => exact .bl b
  | int i => exact .int i
  | str x => exact .str x
  | fls h1 h2 => exact .fls h1 h2
  | emp h => exact .emp h
  | ref h => exact .ref h
def reprZ : OC := fun S ds => match ds with
  | [d] => if (deep2 S d).plain = true ∧ (deep2 S d).py.showable = true ∧ (deep2 S d).py.depth ≤ 60 ∧ (deep2 S d).py.shown.length ≤ sizeLine then some (.val (.str (deep2 S d).py.shown)) else none
  | _ => none
theorem cl_reprZ {X : Cx} (Z : SysB X.base) (hg : X.A.guards = some []) (hu : X.A.units + 64 < cLine) : CallR X (.builtin "repr") (rCl X.K X.mg reprZ) := by
  intro pins s σ H xs us Q I rx ⟨S, F, m, ds, u, ok, r, e, q⟩
  unfold reprZ at e
  split at e
  · rename_i d
    cases r with
    | cons r1 r2 =>
      cases r2
      obtain ⟨u1, rfl, ru⟩ := vals1 rx
      split at e
      · rename_i hc
        cases e
        obtain ⟨h1, h2, h4, h5⟩ := hc
        have hq := rof_val ok q (.str _)
        cases hf : d.flat with
        | false =>
          obtain ⟨F', s1, r3⟩ := deep2_rep ok r1
          obtain ⟨as, q1, off⟩ := rep_readsZ Z I s1 _ _ _ r3 h1 ru
          obtain ⟨a, rfl⟩ : ∃ a, u1 = Value.ref a := by
            cases r1 <;> first | exact ⟨_, ru⟩ | cases hf
          exact PySem.repr_of_reads' q1 h2 (fun _ => off) hg (by omega) (fun _ _ z => z) (fun h' t tk hk => ⟨.str _, H, I.kept hk, ⟨t, rfl⟩, hq⟩) h5
        | true =>
          cases r1 with
          | non =>
            cases ru
            exact PySem.P.repr_of_none ⟨.str _, H, I.tok _, ⟨_, rfl⟩, hq⟩
          | bl b =>
            cases ru
            have e : (deep2 S (.bl b)).py.shown = (if b then ("True" : Str) else "False") := by cases b <;> rfl
            rw [e] at hq
            exact PySem.P.repr_of_bool ⟨.str _, H, I.tok _, ⟨_, rfl⟩, hq⟩
          | int i =>
            obtain ⟨t, rfl⟩ := ru
            have hs : (PyData.int i).showable = true := h2
            exact PySem.P.repr_of_int (of_decide_eq_true (by simpa only [PyData.showable] using hs)) ⟨.str _, H, I.tok _, ⟨_, rfl⟩, hq⟩
          | str x =>
            obtain ⟨t, rfl⟩ := ru
            exact PySem.P.repr_of_str ⟨.str _, H, I.tok _, ⟨_, rfl⟩, hq⟩ h5
          | tup _ _ => cases hf
          | lst _ _ => cases hf
          | fls _ _ => cases hf
          | emp _ => cases hf
          | ref _ => cases hf
      · cases e
  · cases e

end Sf
/-! Sf25: how an own class stands to another one, as isinstance asks. -/
namespace Sf
open L2 PySem PySem.Spec PyProof.Rows
theorem kit_ref {K : PySem.W.Frag} {C T : Addr} {b : Bool} (h1 : PySem.W.hasDictIn K T = true) (h2 : PySem.W.typeIn K (.ref T) = some (.type "type")) (h3 : PySem.W.subIn K (.ref C) (.ref T) = some b) (h0 : PySem.W.subIn K (.ref C) (.ref C) = some true) : PySem.W.kitOne K (.ref C) (.ref T) = some b := by
  unfold PySem.W.kitOne
  by_cases e : C = T
  · subst e
    rw [h0] at h3
    cases h3
    exact if_pos (beq_self_eq_true _)
  · rw [if_neg (fun z => e (Value.ref.inj (eq_of_beq z)))]
    obtain ⟨cd, hc, _⟩ := PySem.W.any_some h1
    unfold PySem.W.kitCls
    dsimp only
    rw [if_pos (by rw [hc, h2]; rfl), h3]
theorem kit_VE {K : PySem.W.Frag} {C : Addr} {b : Bool} (h3 : PySem.W.subIn K (.ref C) (.type "ValueError") = some b) : PySem.W.kitOne K (.ref C) (.type "ValueError") = some b := by
  unfold PySem.W.kitOne
  rw [if_neg (by intro z; exact absurd (eq_of_beq z) (by intro q; cases q))]
  unfold PySem.W.kitCls
  dsimp only
  rw [if_pos (by decide +kernel), h3]
end Sf
/-! Sx: reckoning with denotations: each combinator opens only where its first part is known. -/
namespace Sf
open L2 PySem PySem.Spec PyProof.Rows

section
variable {α β : Type} {f g h : Dn Out} {p q : Dn Bool} {a : Dn (List D)} {ρ : En} {S : Sto} {i : Nat} {d e : D} {o o' : O2} {n : Nat} {m : MD} {s t : Sn}
theorem x_bnd (x : α) (k : α → Sto → Option (Rz β)) : bnd (some (.ok x S)) k = k x S := rfl
theorem x_bnS (x : α) (k : α → Sto → Option Fl) : bnS (some (.ok x S)) ρ k = k x S := rfl
theorem x_c : dC d ρ S = some (.ok (.val d) S) := rfl
def varK (x : Option (Option D)) (S : Sto) : Option (Rz Out) := match x with
  | some (some d) => some (.ok (.val d) S)
  | _ => none
theorem x_var : dVar i ρ S = varK (ρ[i]?) S := rfl
theorem x_varK : varK (some (some d)) S = some (.ok (.val d) S) := rfl
def stlK (o : Out) (S : Sto) : Option (Rz D) := some (.ok (Sf.settle o S).1 (Sf.settle o S).2)
theorem x_stl : stl f ρ S = bnd (f ρ S) stlK := rfl
theorem x_stlV : stlK (.val d) S = some (.ok d S) := rfl
theorem x_stlL (ds : List D) : stlK (.own (.lst ds)) S = some (.ok (.lst ds) S) := rfl
theorem x_stlE : stlK (.own (.dct [])) S = some (.ok .emp S) := rfl
theorem x_stlD (kv : Key × D) (l : List (Key × D)) : stlK (.own (.dct (kv :: l))) S = some (.ok (.ref S.length) (S ++ [.dct (kv :: l)])) := rfl
def bxK (o : Out) (S : Sto) : Option (Rz D) := match o with
  | .val d => some (.ok d S)
  | .own ob => some (.ok (.ref S.length) (S ++ [ob]))
theorem x_bxd : bxd f ρ S = bnd (f ρ S) bxK := by unfold bxd; congr 1
theorem x_bxV : bxK (.val d) S = some (.ok d S) := rfl
theorem x_bxK (ob : Ob) : bxK (.own ob) S = some (.ok (.ref S.length) (S ++ [ob])) := rfl
theorem x_okv (u : Out) : okv (some u) S = some (.ok u S) := rfl
theorem x_okm (u : Out) (S' : Sto) : okm (some (u, S')) = some (.ok u S') := rfl
def d2L (o : O2) (a b : D) (S : Sto) : Option (Rz Out) := okv (o S a b) S
def d2K (o : O2) (g : Dn Out) (ρ : En) (a : D) (S : Sto) : Option (Rz Out) := bnd (stl g ρ S) (d2L o a)
theorem x_d2 : d2 o f g ρ S = bnd (stl f ρ S) (d2K o g ρ) := rfl
theorem x_d2K : d2K o g ρ d S = bnd (stl g ρ S) (d2L o d) := rfl
theorem x_d2L : d2L o d e S = okv (o S d e) S := rfl
def tstK (o : Out) (S : Sto) : Option (Rz Bool) := match o with
  | .val (.bl c) => some (.ok c S)
  | _ => none
theorem x_tst : tst f ρ S = bnd (f ρ S) tstK := by unfold tst; congr 1
theorem x_tstK (c : Bool) : tstK (.val (.bl c)) S = some (.ok c S) := rfl
def chN (o' : O2) (b c : D) (S : Sto) : Option (Rz Out) := okv (o' S b c) S
def chM (o' : O2) (h : Dn Out) (ρ : En) (b : D) (r : Option Out) (S : Sto) : Option (Rz Out) := match r with
  | some (.val (.bl true)) => bnd (stl h ρ S) (chN o' b)
  | some (.val (.bl false)) => some (.ok (.val (.bl false)) S)
  | _ => none
def chL (o o' : O2) (h : Dn Out) (ρ : En) (a b : D) (S : Sto) : Option (Rz Out) := chM o' h ρ b (o S a b) S
def chK (o o' : O2) (g h : Dn Out) (ρ : En) (a : D) (S : Sto) : Option (Rz Out) := bnd (stl g ρ S) (chL o o' h ρ a)
theorem x_ch : dChain o o' f g h ρ S = bnd (stl f ρ S) (chK o o' g h ρ) := by
  unfold dChain
  congr 1
theorem x_chK : chK o o' g h ρ d S = bnd (stl g ρ S) (chL o o' h ρ d) := rfl
theorem x_chL : chL o o' h ρ d e S = chM o' h ρ e (o S d e) S := rfl
theorem x_chMt : chM o' h ρ e (some (.val (.bl true))) S = bnd (stl h ρ S) (chN o' e) := rfl
theorem x_chMf : chM o' h ρ e (some (.val (.bl false))) S = some (.ok (.val (.bl false)) S) := rfl
theorem x_chN : chN o' d e S = okv (o' S d e) S := rfl
def andL (g : Dn Out) (ρ : En) (a : D) (r : Option Bool) (S : Sto) : Option (Rz Out) := match r with
  | some true => g ρ S
  | some false => some (.ok (.val a) S)
  | none => none
def andK (g : Dn Out) (ρ : En) (a : D) (S : Sto) : Option (Rz Out) := andL g ρ a (truthD S a) S
theorem x_and : dAnd f g ρ S = bnd (stl f ρ S) (andK g ρ) := by
  unfold dAnd
  congr 1
theorem x_andK : andK g ρ d S = andL g ρ d (truthD S d) S := rfl
theorem x_andT : andL g ρ d (some true) S = g ρ S := rfl
theorem x_andF : andL g ρ d (some false) S = some (.ok (.val d) S) := rfl
def orL (g : Dn Out) (ρ : En) (a : D) (r : Option Bool) (S : Sto) : Option (Rz Out) := match r with
  | some true => some (.ok (.val a) S)
  | some false => g ρ S
  | none => none
def orK (g : Dn Out) (ρ : En) (a : D) (S : Sto) : Option (Rz Out) := orL g ρ a (truthD S a) S
theorem x_or : dOr f g ρ S = bnd (stl f ρ S) (orK g ρ) := by
  unfold dOr
  congr 1
theorem x_orK : orK g ρ d S = orL g ρ d (truthD S d) S := rfl
theorem x_orT : orL g ρ d (some true) S = some (.ok (.val d) S) := rfl
theorem x_orF : orL g ρ d (some false) S = g ρ S := rfl
def notL (r : Option Bool) (S : Sto) : Option (Rz Out) := match r with
  | some k => some (.ok (.val (.bl (!k))) S)
  | none => none
def notK (a : D) (S : Sto) : Option (Rz Out) := notL (truthD S a) S
theorem x_not : dNot f ρ S = bnd (stl f ρ S) notK := by
  unfold dNot
  congr 1
theorem x_notK : notK d S = notL (truthD S d) S := rfl
theorem x_notL (k : Bool) : notL (some k) S = some (.ok (.val (.bl (!k))) S) := rfl
def truL (r : Option Bool) (S : Sto) : Option (Rz Bool) := match r with
  | some k => some (.ok k S)
  | none => none
def truK (a : D) (S : Sto) : Option (Rz Bool) := truL (truthD S a) S
theorem x_tru : dTru f ρ S = bnd (stl f ρ S) truK := by
  unfold dTru
  congr 1
theorem x_truK : truK d S = truL (truthD S d) S := rfl
theorem x_truL (k : Bool) : truL (some k) S = some (.ok k S) := rfl
def bandK (q : Dn Bool) (ρ : En) (c : Bool) (S : Sto) : Option (Rz Bool) := if c = true then q ρ S else some (.ok false S)
theorem x_band : bAnd p q ρ S = bnd (p ρ S) (bandK q ρ) := rfl
theorem x_bandT : bandK q ρ true S = q ρ S := rfl
theorem x_bandF : bandK q ρ false S = some (.ok false S) := rfl
def borK (q : Dn Bool) (ρ : En) (c : Bool) (S : Sto) : Option (Rz Bool) := if c = true then some (.ok true S) else q ρ S
theorem x_bor : bOr p q ρ S = bnd (p ρ S) (borK q ρ) := rfl
theorem x_borT : borK q ρ true S = some (.ok true S) := rfl
theorem x_borF : borK q ρ false S = q ρ S := rfl
def bnotK (c : Bool) (S : Sto) : Option (Rz Bool) := some (.ok (!c) S)
theorem x_bnot : bNot p ρ S = bnd (p ρ S) bnotK := rfl
theorem x_bnotK (c : Bool) : bnotK c S = some (.ok (!c) S) := rfl
def difK (f g : Dn Out) (ρ : En) (c : Bool) (S : Sto) : Option (Rz Out) := if c = true then f ρ S else g ρ S
theorem x_dif : dIf p f g ρ S = bnd (p ρ S) (difK f g ρ) := rfl
theorem x_difT : difK f g ρ true S = f ρ S := rfl
theorem x_difF : difK f g ρ false S = g ρ S := rfl
theorem x_anil : aNil ρ S = some (.ok [] S) := rfl
def aL (d : D) (ds : List D) (S : Sto) : Option (Rz (List D)) := some (.ok (d :: ds) S)
def aK (a : Dn (List D)) (ρ : En) (d : D) (S : Sto) : Option (Rz (List D)) := bnd (a ρ S) (aL d)
theorem x_acons : aCons f a ρ S = bnd (stl f ρ S) (aK a ρ) := rfl
theorem x_aK : aK a ρ d S = bnd (a ρ S) (aL d) := rfl
theorem x_aL (ds : List D) : aL d ds S = some (.ok (d :: ds) S) := rfl
def tupK (ds : List D) (S : Sto) : Option (Rz Out) := if ds.length ≤ sizeLine then some (.ok (.val (.tup ds)) S) else none
theorem x_tup : dTup a ρ S = bnd (a ρ S) tupK := rfl
theorem x_tupK (ds : List D) (hl : ds.length ≤ 1000) : tupK ds S = some (.ok (.val (.tup ds)) S) := if_pos (Nat.le_trans hl (by decide))
def lstK (ds : List D) (S : Sto) : Option (Rz Out) := if ds.length ≤ sizeLine then some (.ok (.own (.lst ds)) S) else none
theorem x_lst : dLst a ρ S = bnd (a ρ S) lstK := rfl
theorem x_lstK (ds : List D) (hl : ds.length ≤ 1000) : lstK ds S = some (.ok (.own (.lst ds)) S) := if_pos (Nat.le_trans hl (by decide))
def clK (o : OC) (ds : List D) (S : Sto) : Option (Rz Out) := okv (o S ds) S
theorem x_cl (o : OC) : dCl o a ρ S = bnd (a ρ S) (clK o) := rfl
theorem x_clK (o : OC) (ds : List D) : clK o ds S = okv (o S ds) S := rfl
def fnK (n : Nat) (m : MD) (ds : List D) (S : Sto) : Option (Rz Out) := if ds.length = n then m ds S else none
theorem x_fn : dFn n m a ρ S = bnd (a ρ S) (fnK n m) := rfl
theorem x_fnK (ds : List D) (hl : ds.length = n) : fnK n m ds S = m ds S := if_pos hl
def isiL (T : String) (r : Option String) (S : Sto) : Option (Rz Out) := match r with
  | some k => some (.ok (.val (.bl (isiB T k))) S)
  | none => none
def isiK (T : String) (d : D) (S : Sto) : Option (Rz Out) := isiL T (kindD S d) S
theorem x_isi (T : String) : dIsi T f ρ S = bnd (stl f ρ S) (isiK T) := by
  unfold dIsi
  congr 1
theorem x_isiK (T : String) : isiK T d S = isiL T (kindD S d) S := rfl
theorem x_isiL (T k : String) : isiL T (some k) S = some (.ok (.val (.bl (isiB T k))) S) := rfl
theorem x_neg : dNeg f ρ S = bnd (stl f ρ S) negK := rfl
theorem x_negK (i : Int) : negK (.int i) S = some (.ok (.val (.int (-i))) S) := rfl
theorem x_revL : dRevL f ρ S = bnd (stl f ρ S) revK := rfl
theorem x_kget (tbl : List (Str × D)) : dKget tbl a ρ S = bnd (a ρ S) (kgetK tbl) := rfl
theorem x_kgetK (tbl : List (Str × D)) (z : Str) : kgetK tbl [.str z, d] S = some (.ok (.val ((tbl.lookup z).getD d)) S) := rfl
def slL (h : Dn (Option Int)) (ρ : En) (d : D) (lo : Option Int) (S : Sto) : Option (Rz Out) := bnd (h ρ S) fun hi S3 => okv (slD S3 d lo hi) S3
def slK (g h : Dn (Option Int)) (ρ : En) (d : D) (S : Sto) : Option (Rz Out) := bnd (g ρ S) (slL h ρ d)
theorem x_sl {g h : Dn (Option Int)} : dSl f g h ρ S = bnd (stl f ρ S) (slK g h ρ) := rfl
theorem x_slK {g h : Dn (Option Int)} : slK g h ρ d S = bnd (g ρ S) (slL h ρ d) := rfl
theorem x_slL {h : Dn (Option Int)} (lo : Option Int) : slL h ρ d lo S = bnd (h ρ S) fun hi S3 => okv (slD S3 d lo hi) S3 := rfl
theorem x_pnone : pNone ρ S = some (.ok none S) := rfl
def psK (d : D) (S : Sto) : Option (Rz (Option Int)) := match d with
  | .int i => some (.ok (some i) S)
  | _ => none
theorem x_psome : pSome f ρ S = bnd (stl f ρ S) psK := by
  unfold pSome
  congr 1
theorem x_psK (i : Int) : psK (.int i) S = some (.ok (some i) S) := rfl
def mtL (o : OM) (a : D) (ds : List D) (S : Sto) : Option (Rz Out) := okm (o S a ds)
def mtK (T : String) (o : OM) (g : Dn (List D)) (ρ : En) (d : D) (S : Sto) : Option (Rz Out) := if tyB T S d = true then bnd (g ρ S) (mtL o d) else none
theorem x_mt (T : String) (o : OM) : dMt T o f a ρ S = bnd (stl f ρ S) (mtK T o a ρ) := rfl
theorem x_mtK (T : String) (o : OM) (ht : tyB T S d = true) : mtK T o a ρ d S = bnd (a ρ S) (mtL o d) := if_pos ht
theorem x_mtL (o : OM) (ds : List D) : mtL o d ds S = okm (o S d ds) := rfl
def itL (r : Option (List D)) (S : Sto) : Option (Rz (List D)) := match r with
  | some xs => some (.ok xs S)
  | none => none
def itAK (r : List D → Option (List D)) (ds : List D) (S : Sto) : Option (Rz (List D)) := itL (r ds) S
theorem x_itA (r : List D → Option (List D)) : itA r a ρ S = bnd (a ρ S) (itAK r) := by
  unfold itA
  congr 1
theorem x_itAK (r : List D → Option (List D)) (ds : List D) : itAK r ds S = itL (r ds) S := rfl
theorem x_itL (xs : List D) : itL (some xs) S = some (.ok xs S) := rfl
def seqK (d : D) (S : Sto) : Option (Rz (List D)) := itL (fixed d) S
theorem x_itSeq : itSeq f ρ S = bnd (stl f ρ S) seqK := by
  unfold itSeq
  congr 1
theorem x_seqK : seqK d S = itL (fixed d) S := rfl
def istrK (d : D) (S : Sto) : Option (Rz (List D)) := match d with
  | .str x => some (.ok (signsL x) S)
  | _ => none
theorem x_itStr : itStr f ρ S = bnd (stl f ρ S) istrK := by
  unfold itStr
  congr 1
theorem x_istrK (x : Str) : istrK (.str x) S = some (.ok (signsL x) S) := rfl
def compL (r : Option (List D × Sto)) : Option (Rz Out) := match r with
  | some (ys, S2) => some (.ok (.own (.lst ys)) S2)
  | none => none
def compK (t : Tn) (c : Dn Bool) (f : Dn Out) (ρ : En) (xs : List D) (S : Sto) : Option (Rz Out) := compL (loopC t c f ρ xs 0 S)
theorem x_comp (t : Tn) (vs : List Nat) : dComp a t p f vs ρ S = bnd (a ρ S) (compK t p f (wipeE ρ vs)) := by
  unfold dComp
  congr 1
theorem x_compK (t : Tn) (xs : List D) : compK t p f ρ xs S = compL (loopC t p f ρ xs 0 S) := rfl
theorem x_compL (ys : List D) (S2 : Sto) : compL (some (ys, S2)) = some (.ok (.own (.lst ys)) S2) := rfl
theorem x_wipe1 (i : Nat) : wipeE ρ [i] = ρ.set i none := rfl
theorem x_wipe2 (i j : Nat) : wipeE ρ [i, j] = (ρ.set j none).set i none := rfl
/-! statements -/
def sqK (g : Sn) (r : Option Fl) : Option Fl := match r with
  | some (.nx ρ' S') => g ρ' S'
  | r => r
theorem x_seq : sSeq s t ρ S = sqK t (s ρ S) := rfl
theorem x_sqN : sqK t (some (.nx ρ S)) = t ρ S := rfl
theorem x_sqR (u : Out) : sqK t (some (.rt u S)) = some (.rt u S) := rfl
theorem x_sqB : sqK t (some (.bk ρ S)) = some (.bk ρ S) := rfl
theorem x_sqC : sqK t (some (.ct ρ S)) = some (.ct ρ S) := rfl
theorem x_next : sNext ρ S = some (.nx ρ S) := rfl
def retK (o : Out) (S : Sto) : Option Fl := some (.rt o S)
theorem x_ret : sRet f ρ S = bnS (f ρ S) ρ retK := rfl
theorem x_retK (u : Out) : retK u S = some (.rt u S) := rfl
theorem x_retN : sRetN ρ S = some (.rt (.val .non) S) := rfl
def asgK (i : Nat) (ρ : En) (d : D) (S : Sto) : Option Fl := some (.nx (ρ.set i (some d)) S)
theorem x_asg : sAsg i f ρ S = bnS (stl f ρ S) ρ (asgK i ρ) := rfl
theorem x_asgB : sAsgB i f ρ S = bnS (bxd f ρ S) ρ (asgK i ρ) := rfl
theorem x_asgK : asgK i ρ d S = some (.nx (ρ.set i (some d)) S) := rfl
def dropK (ρ : En) (_ : Out) (S : Sto) : Option Fl := some (.nx ρ S)
theorem x_drop : sDrop f ρ S = bnS (f ρ S) ρ (dropK ρ) := rfl
theorem x_dropK (u : Out) : dropK ρ u S = some (.nx ρ S) := rfl
def ifK (s t : Sn) (ρ : En) (c : Bool) (S : Sto) : Option Fl := if c = true then s ρ S else t ρ S
theorem x_if : sIf p s t ρ S = bnS (p ρ S) ρ (ifK s t ρ) := rfl
theorem x_ifT : ifK s t ρ true S = s ρ S := rfl
theorem x_ifF : ifK s t ρ false S = t ρ S := rfl
def forK (t : Tn) (s : Sn) (ρ : En) (xs : List D) (S : Sto) : Option Fl := loopS t s xs ρ S
theorem x_for (t : Tn) : sFor a t s ρ S = bnS (a ρ S) ρ (forK t s ρ) := rfl
theorem x_forK (t : Tn) (xs : List D) : forK t s ρ xs S = loopS t s xs ρ S := rfl
def tgtL (r : Option En) (S : Sto) : Option Fl := match r with
  | some ρ' => some (.nx ρ' S)
  | none => none
def tgtK (t : Tn) (ρ : En) (d : D) (S : Sto) : Option Fl := tgtL (t ρ d) S
theorem x_tgt (t : Tn) : sTgt t f ρ S = bnS (stl f ρ S) ρ (tgtK t ρ) := by
  unfold sTgt
  congr 1
theorem x_tgtK (t : Tn) : tgtK t ρ d S = tgtL (t ρ d) S := rfl
theorem x_tgtL (ρ' : En) : tgtL (some ρ') S = some (.nx ρ' S) := rfl
theorem x_tname : tName i ρ d = some (ρ.set i (some d)) := rfl
def parK (i j : Nat) (ρ : En) (ds : List D) (S : Sto) : Option Fl := match ds with
  | [a, b] => some (.nx ((ρ.set i (some a)).set j (some b)) S)
  | _ => none
theorem x_par (i j : Nat) : sPar i j a ρ S = bnS (a ρ S) ρ (parK i j ρ) := by
  unfold sPar
  congr 1
theorem x_parK (i j : Nat) (x y : D) : parK i j ρ [x, y] S = some (.nx ((ρ.set i (some x)).set j (some y)) S) := rfl
def putM (d a b : D) (ρ : En) (S : Sto) : Option Fl := tgtL none S
def dputL (ρ : En) (r : Option Sto) : Option Fl := match r with
  | some S4 => some (.nx ρ S4)
  | none => none
def dputK2 (ρ : En) (d a b : D) (S : Sto) : Option Fl := dputL ρ (dputS S a b d)
def dputK1 (g : Dn Out) (ρ : En) (d a : D) (S : Sto) : Option Fl := bnS (stl g ρ S) ρ (dputK2 ρ d a)
def dputK (f g : Dn Out) (ρ : En) (d : D) (S : Sto) : Option Fl := bnS (stl f ρ S) ρ (dputK1 g ρ d)
theorem x_dput : sDput f g h ρ S = bnS (stl h ρ S) ρ (dputK f g ρ) := by
  unfold sDput
  congr 1
theorem x_dputK : dputK f g ρ d S = bnS (stl f ρ S) ρ (dputK1 g ρ d) := rfl
theorem x_dputK1 : dputK1 g ρ d e S = bnS (stl g ρ S) ρ (dputK2 ρ d e) := rfl
theorem x_dputK2 (b : D) : dputK2 ρ d e b S = dputL ρ (dputS S e b d) := rfl
theorem x_dputL (S4 : Sto) : dputL ρ (some S4) = some (.nx ρ S4) := rfl
def defK (r : Option Fl) : Option (Rz Out) := match r with
  | some (.nx _ S') => some (.ok (.val .non) S')
  | some (.rt o S') => some (.ok o S')
  | some (.er x _ S') => some (.er x S')
  | _ => none
theorem x_def (ds : List D) : defD n s ds S = defK (s (startE n ds) S) := rfl
theorem x_defR (u : Out) : defK (some (.rt u S)) = some (.ok u S) := rfl
theorem x_defN : defK (some (.nx ρ S)) = some (.ok (.val .non) S) := rfl
theorem x_size : sizeLine = 16777216 := rfl
/-! operations -/
theorem y_add (i j : Int) : addD S (.int i) (.int j) = some (.val (.int (i + j))) := rfl
theorem y_sub (i j : Int) : subD S (.int i) (.int j) = some (.val (.int (i - j))) := rfl
theorem y_mul (i j : Int) (hm : mulOk i j = true) : mulD S (.int i) (.int j) = some (.val (.int (i * j))) := if_pos hm
theorem y_mulX (i j : Int) (hm : mulOk i j = true) : mulX S (.int i) (.int j) = some (.val (.int (i * j))) := if_pos hm
theorem y_mod (i j : Int) (hj : j ≠ 0) : modD S (.int i) (.int j) = some (.val (.int (i.fmod j))) := if_pos hj
theorem y_fdiv (i j : Int) (hj : j ≠ 0 ∧ j.natAbs < 1073741824) : fdivD S (.int i) (.int j) = some (.val (.int (i.fdiv j))) := if_pos hj
theorem y_lt (i j : Int) : ltD S (.int i) (.int j) = some (.val (.bl (decide (i < j)))) := rfl
theorem y_le (i j : Int) : leD S (.int i) (.int j) = some (.val (.bl (decide (i ≤ j)))) := rfl
theorem y_gt (i j : Int) : gtD S (.int i) (.int j) = some (.val (.bl (decide (j < i)))) := rfl
theorem y_ge (i j : Int) : geD S (.int i) (.int j) = some (.val (.bl (decide (j ≤ i)))) := rfl
theorem y_eqI (i j : Int) : eqX S (.int i) (.int j) = some (.val (.bl (decide (i = j)))) := rfl
theorem y_eqS (x y : Str) : eqX S (.str x) (.str y) = some (.val (.bl (decide (x = y)))) := rfl
theorem y_neI (i j : Int) : neX S (.int i) (.int j) = some (.val (.bl (!decide (i = j)))) := rfl
theorem y_neS (x y : Str) : neX S (.str x) (.str y) = some (.val (.bl (!decide (x = y)))) := rfl
theorem y_eqYI (i j : Int) : eqY S (.int i) (.int j) = some (.val (.bl (decide (i = j)))) := rfl
theorem y_eqYS (x y : Str) : eqY S (.str x) (.str y) = some (.val (.bl (decide (x = y)))) := rfl
theorem y_neYI (i j : Int) : neY S (.int i) (.int j) = some (.val (.bl (!decide (i = j)))) := rfl
theorem y_neYS (x y : Str) : neY S (.str x) (.str y) = some (.val (.bl (!decide (x = y)))) := rfl
theorem y_ixT (ds : List D) (i : Int) : ixD S (.tup ds) (.int i) = (atI ds i).map .val := rfl
theorem y_ixL (ds : List D) (i : Int) : ixD S (.lst ds) (.int i) = (atI ds i).map .val := rfl
theorem y_trB (b : Bool) : truthD S (.bl b) = some b := rfl
theorem y_k0 : kindD S .non = some "NoneType" := rfl
theorem y_k1 (b : Bool) : kindD S (.bl b) = some "bool" := rfl
theorem y_k2 (i : Int) : kindD S (.int i) = some "int" := rfl
theorem y_k3 (x : Str) : kindD S (.str x) = some "str" := rfl
theorem y_k4 (ds : List D) : kindD S (.tup ds) = some "tuple" := rfl
theorem y_k5 (ds : List D) : kindD S (.lst ds) = some "list" := rfl
theorem y_k6 : kindD S .emp = some "dict" := rfl
theorem y_lenT (ds : List D) : lenD S [.tup ds] = some (.val (.int ds.length)) := rfl
theorem y_lenL (ds : List D) : lenD S [.lst ds] = some (.val (.int ds.length)) := rfl
theorem y_lenS (x : Str) (hx : x.length ≤ sizeLine) : lenD S [.str x] = some (.val (.int x.length)) := if_pos hx
end
/-- the elements of a comprehension of tests -/
theorem loop_bl (ρ : En) (c : D → Bool) (f : Dn Out) (i : Nat) : ∀ (l : List D) (k : Nat) (S : Sto), k + l.length ≤ sizeLine → (∀ x ∈ l, f (ρ.set i (some x)) S = some (.ok (.val (.bl (c x))) S)) →
    loopC (tName i) bYes f ρ l k S = some (l.map fun x => .bl (c x), S)
  | [], k, S, _, _ => rfl
  | x :: l, k, S, hk, h => by
    have h1 := h x List.mem_cons_self
    have hl : (x :: l).length = l.length + 1 := rfl
    have ih := loop_bl ρ c f i l (k + 1) S (by omega) fun y hy => h y (List.mem_cons_of_mem _ hy)
    have hz : k < sizeLine := by omega
    simp only [List.map, loopC, tName, bYes, x_stl, x_bnd, h1, x_stlV, if_pos hz, ih, Option.map]
/-- those that pass a test -/
theorem loop_flt (ρ : En) (c : D → Bool) (p : Dn Bool) (i : Nat) : ∀ (l : List D) (k : Nat) (S : Sto), i < ρ.length → k + l.length ≤ sizeLine → (∀ x ∈ l, p (ρ.set i (some x)) S = some (.ok (c x) S)) →
    loopC (tName i) p (dVar i) ρ l k S = some (l.filter c, S)
  | [], k, S, _, _, _ => rfl
  | x :: l, k, S, hi, hk, h => by
    have h1 := h x List.mem_cons_self
    have hl : (x :: l).length = l.length + 1 := rfl
    have hz : k < sizeLine := by omega
    have hv : dVar i (ρ.set i (some x)) S = some (.ok (.val x) S) := by
      rw [x_var, List.getElem?_set_self hi]
      rfl
    cases hc : c x with
    | true =>
      rw [hc] at h1
      have ih := loop_flt ρ c p i l (k + 1) S hi (by omega) fun y hy => h y (List.mem_cons_of_mem _ hy)
      simp only [loopC, tName, h1, x_stl, x_bnd, hv, x_stlV, if_pos hz, ih, Option.map, List.filter, hc]
    | false =>
      rw [hc] at h1
      have ih := loop_flt ρ c p i l k S hi (by omega) fun y hy => h y (List.mem_cons_of_mem _ hy)
      simp only [loopC, tName, h1, ih, List.filter, hc]
theorem bls_map (l : List D) (c : D → Bool) : blsD (l.map fun x => .bl (c x)) = some (l.map c) := by
  induction l with
  | nil => rfl
  | cons x l ih =>
    simp only [List.map, blsD, ih]
    rfl
theorem y_all (S : Sto) (l : List D) (c : D → Bool) : allD S [.lst (l.map fun x => .bl (c x))] = some (.val (.bl (l.all c))) := by
  simp only [allD, view, Option.bind, bls_map, List.all_map]
  rfl
theorem y_any (S : Sto) (l : List D) (c : D → Bool) : anyD S [.lst (l.map fun x => .bl (c x))] = some (.val (.bl (l.any c))) := by
  simp only [anyD, view, Option.bind, bls_map, List.any_map]
  rfl
end Sf
/-! Si: data of bounded size; repr of it. -/
namespace Sf
open L2 PySem PySem.Spec PyProof.Rows

/-! isinstance -/
theorem z_int0 : isiB "int" "NoneType" = false := by decide
theorem z_int1 : isiB "int" "bool" = true := by decide
theorem z_int2 : isiB "int" "int" = true := by decide
theorem z_int3 : isiB "int" "str" = false := by decide
theorem z_int4 : isiB "int" "tuple" = false := by decide
theorem z_int5 : isiB "int" "list" = false := by decide
theorem z_int6 : isiB "int" "dict" = false := by decide
theorem z_bool0 : isiB "bool" "NoneType" = false := by decide
theorem z_bool1 : isiB "bool" "bool" = true := by decide
theorem z_bool2 : isiB "bool" "int" = false := by decide
theorem z_bool3 : isiB "bool" "str" = false := by decide
theorem z_bool4 : isiB "bool" "tuple" = false := by decide
theorem z_bool5 : isiB "bool" "list" = false := by decide
theorem z_bool6 : isiB "bool" "dict" = false := by decide
theorem z_str0 : isiB "str" "NoneType" = false := by decide
theorem z_str1 : isiB "str" "bool" = false := by decide
theorem z_str2 : isiB "str" "int" = false := by decide
theorem z_str3 : isiB "str" "str" = true := by decide
theorem z_str4 : isiB "str" "tuple" = false := by decide
theorem z_str5 : isiB "str" "list" = false := by decide
theorem z_str6 : isiB "str" "dict" = false := by decide
theorem z_tuple0 : isiB "tuple" "NoneType" = false := by decide
theorem z_tuple1 : isiB "tuple" "bool" = false := by decide
theorem z_tuple2 : isiB "tuple" "int" = false := by decide
theorem z_tuple3 : isiB "tuple" "str" = false := by decide
theorem z_tuple4 : isiB "tuple" "tuple" = true := by decide
theorem z_tuple5 : isiB "tuple" "list" = false := by decide
theorem z_tuple6 : isiB "tuple" "dict" = false := by decide
theorem z_list0 : isiB "list" "NoneType" = false := by decide
theorem z_list1 : isiB "list" "bool" = false := by decide
theorem z_list2 : isiB "list" "int" = false := by decide
theorem z_list3 : isiB "list" "str" = false := by decide
theorem z_list4 : isiB "list" "tuple" = false := by decide
theorem z_list5 : isiB "list" "list" = true := by decide
theorem z_list6 : isiB "list" "dict" = false := by decide
theorem z_dict0 : isiB "dict" "NoneType" = false := by decide
theorem z_dict1 : isiB "dict" "bool" = false := by decide
theorem z_dict2 : isiB "dict" "int" = false := by decide
theorem z_dict3 : isiB "dict" "str" = false := by decide
theorem z_dict4 : isiB "dict" "tuple" = false := by decide
theorem z_dict5 : isiB "dict" "list" = false := by decide
theorem z_dict6 : isiB "dict" "dict" = true := by decide
mutual
/-- new data, its numbers and signs within bounds -/
def fitB : D → Bool
  | .ref _ => false
  | .fls _ => false
  | .int i => decide (i.natAbs < 10 ^ 19)
  | .str s => s.cps.toList.all fun c => decide (c < 16 ^ 8)
  | .tup ds => fitL ds
  | .lst ds => fitL ds
  | .non => true
  | .bl _ => true
  | .emp => true
def fitL : List D → Bool
  | [] => true
  | d :: ds => fitB d && fitL ds
end
abbrev wt (d : D) : Nat := d.py.weight
abbrev dp (d : D) : Nat := d.py.depth
abbrev wtL (ds : List D) : Nat := PyData.weightAll (pyL ds)
abbrev dpL (ds : List D) : Nat := PyData.depthAll (pyL ds)
theorem log_of {i : Int} (h : i.natAbs < 10 ^ 19) : i.natAbs.log2 < 1920 := by
  by_cases h0 : i.natAbs = 0
  · rw [h0]; decide
  · rw [Nat.log2_lt h0]
    exact Nat.lt_of_lt_of_le h (Nat.le_trans (show 10 ^ 19 ≤ 2 ^ 1900 by decide +kernel) (Nat.pow_le_pow_right (by decide) (by decide)))
mutual
theorem fit_all : ∀ d : D, fitB d = true → d.plain = true ∧ d.py.showable = true ∧ d.py.leavesShort 20 = true
  | .non, _ => ⟨rfl, rfl, rfl⟩
  | .bl _, _ => ⟨rfl, rfl, rfl⟩
  | .emp, _ => ⟨rfl, rfl, rfl⟩
  | .int i, h => by
    have h' : i.natAbs < 10 ^ 19 := of_decide_eq_true (by simpa only [fitB] using h)
    refine ⟨rfl, ?_, ?_⟩
    · simp only [D.py, PyData.showable, decide_eq_true_eq]
      exact log_of h'
    · simp only [D.py, PyData.leavesShort, decide_eq_true_eq]
      have e := int_text_length_le10 (k := 19) (by decide) h'
      show (Str.ofString (toString i)).length ≤ 20
      rw [PySem.ofString_length]
      exact e
  | .str s, h => by
    refine ⟨rfl, rfl, ?_⟩
    simp only [D.py, PyData.leavesShort]
    simpa only [fitB] using h
  | .tup ds, h => by
    obtain ⟨h1, h2, h3⟩ := fitL_all ds (by simpa only [fitB] using h)
    refine ⟨by simpa only [D.plain] using h1, ?_, ?_⟩
    · simpa only [D.py, PyData.showable] using h2
    · simpa only [D.py, PyData.leavesShort] using h3
  | .lst ds, h => by
    obtain ⟨h1, h2, h3⟩ := fitL_all ds (by simpa only [fitB] using h)
    refine ⟨by simpa only [D.plain] using h1, ?_, ?_⟩
    · simpa only [D.py, PyData.showable] using h2
    · simpa only [D.py, PyData.leavesShort] using h3
  | .fls _, h => by simp only [fitB] at h; cases h
  | .ref _, h => by simp only [fitB] at h; cases h
theorem fitL_all : ∀ ds : List D, fitL ds = true → plainL ds = true ∧ PyData.showableAll (pyL ds) = true ∧ PyData.leavesShortAll 20 (pyL ds) = true
  | [], _ => ⟨rfl, rfl, rfl⟩
  | d :: ds, h => by
    simp only [fitL, Bool.and_eq_true] at h
    obtain ⟨a1, a2, a3⟩ := fit_all d h.1
    obtain ⟨b1, b2, b3⟩ := fitL_all ds h.2
    refine ⟨?_, ?_, ?_⟩
    · simp only [plainL, a1, b1, Bool.and_self]
    · simp only [pyL, PyData.showableAll, a2, b2, Bool.and_self]
    · simp only [pyL, PyData.leavesShortAll, a3, b3, Bool.and_self]
end
theorem fitL_cons {d : D} {ds : List D} : fitL (d :: ds) = (fitB d && fitL ds) := by simp only [fitL]
theorem fitL_append : ∀ {as bs : List D}, fitL (as ++ bs) = (fitL as && fitL bs)
  | [], bs => by simp only [List.nil_append, fitL, Bool.true_and]
  | a :: as, bs => by simp only [List.cons_append, fitL, fitL_append (as := as), Bool.and_assoc]
theorem fitL_mem : ∀ {ds : List D}, fitL ds = true → ∀ d ∈ ds, fitB d = true
  | e :: ds, h, d, hd => by
    simp only [fitL, Bool.and_eq_true] at h
    rcases List.mem_cons.mp hd with rfl | hd
    · exact h.1
    · exact fitL_mem h.2 d hd
theorem fitL_of : ∀ {ds : List D}, (∀ d ∈ ds, fitB d = true) → fitL ds = true
  | [], _ => rfl
  | e :: ds, h => by
    simp only [fitL, h e List.mem_cons_self, fitL_of fun d hd => h d (List.mem_cons_of_mem _ hd), Bool.and_self]
theorem wtL_cons (d : D) (ds : List D) : wtL (d :: ds) = wt d + 1 + wtL ds := by simp only [wtL, wt, pyL, PyData.weightAll]
theorem wtL_append : ∀ (as bs : List D), wtL (as ++ bs) = wtL as + wtL bs
  | [], bs => by simp only [List.nil_append, wtL, pyL, PyData.weightAll, Nat.zero_add]
  | a :: as, bs => by rw [List.cons_append, wtL_cons, wtL_cons, wtL_append as]; omega
theorem wtL_len : ∀ ds : List D, ds.length ≤ wtL ds
  | [] => Nat.zero_le _
  | d :: ds => by
    have := wtL_len ds
    rw [wtL_cons, List.length_cons]
    omega
theorem wtL_mem : ∀ {ds : List D} {d : D}, d ∈ ds → wt d + 1 ≤ wtL ds
  | e :: ds, d, h => by
    rw [wtL_cons]
    rcases List.mem_cons.mp h with rfl | h
    · omega
    · have := wtL_mem h
      omega
theorem dpL_cons (d : D) (ds : List D) : dpL (d :: ds) = max (dp d) (dpL ds) := by simp only [dpL, dp, pyL, PyData.depthAll]
theorem dpL_append : ∀ (as bs : List D), dpL (as ++ bs) = max (dpL as) (dpL bs)
  | [], bs => by simp only [List.nil_append, dpL, pyL, PyData.depthAll, Nat.zero_max]
  | a :: as, bs => by rw [List.cons_append, dpL_cons, dpL_cons, dpL_append as]; omega
theorem dpL_mem : ∀ {ds : List D} {d : D}, d ∈ ds → dp d ≤ dpL ds
  | e :: ds, d, h => by
    rw [dpL_cons]
    rcases List.mem_cons.mp h with rfl | h
    · omega
    · have := dpL_mem h
      omega
theorem wt_tup (ds : List D) : wt (.tup ds) = wtL ds := by simp only [wt, wtL, D.py, PyData.weight]
theorem wt_lst (ds : List D) : wt (.lst ds) = wtL ds := by simp only [wt, wtL, D.py, PyData.weight]
theorem dp_tup (ds : List D) : dp (.tup ds) = dpL ds + 1 := by simp only [dp, dpL, D.py, PyData.depth]
theorem dp_lst (ds : List D) : dp (.lst ds) = dpL ds + 1 := by simp only [dp, dpL, D.py, PyData.depth]
theorem wtL_split (ds : List D) (n : Nat) : wtL (ds.take n) + wtL (ds.drop n) = wtL ds := by
  rw [← wtL_append, List.take_append_drop]
theorem dpL_take (ds : List D) (n : Nat) : dpL (ds.take n) ≤ dpL ds := by
  have h : dpL (ds.take n ++ ds.drop n) = dpL ds := by rw [List.take_append_drop]
  rw [dpL_append] at h
  omega
theorem dpL_drop (ds : List D) (n : Nat) : dpL (ds.drop n) ≤ dpL ds := by
  have h : dpL (ds.take n ++ ds.drop n) = dpL ds := by rw [List.take_append_drop]
  rw [dpL_append] at h
  omega
theorem fitL_take {ds : List D} (n : Nat) (h : fitL ds = true) : fitL (ds.take n) = true := fitL_of fun d hd => fitL_mem h d (List.mem_of_mem_take hd)
theorem fitL_drop {ds : List D} (n : Nat) (h : fitL ds = true) : fitL (ds.drop n) = true := fitL_of fun d hd => fitL_mem h d (List.mem_of_mem_drop hd)

/-! == with an empty list or tuple -/
theorem y_eqNil (S : Sto) (ys : List D) : eqX S (.lst ys) (.lst []) = some (.val (.bl ys.isEmpty)) := by
  cases ys with
  | nil => rfl
  | cons y ys =>
    have e : eqB S (.lst (y :: ys)) (.lst []) = if (shp (.lst (y :: ys)) && shp (.lst [])) = true then some false else none := rfl
    unfold eqX eqD
    rw [e]
    by_cases h : (shp (.lst (y :: ys)) && shp (.lst [])) = true
    · rw [if_pos h]
      rfl
    · rw [if_neg h]
      rfl
theorem y_neNil (S : Sto) (ys : List D) : neX S (.lst ys) (.lst []) = some (.val (.bl (!ys.isEmpty))) := by
  cases ys with
  | nil => rfl
  | cons y ys =>
    have e : eqB S (.lst (y :: ys)) (.lst []) = if (shp (.lst (y :: ys)) && shp (.lst [])) = true then some false else none := rfl
    unfold neX neD
    rw [e]
    by_cases h : (shp (.lst (y :: ys)) && shp (.lst [])) = true
    · rw [if_pos h]
      rfl
    · rw [if_neg h]
      rfl
theorem y_eqTup0 (S : Sto) (ys : List D) : eqX S (.tup ys) (.tup []) = some (.val (.bl ys.isEmpty)) := by
  cases ys with
  | nil => rfl
  | cons y ys =>
    have e : eqB S (.tup (y :: ys)) (.tup []) = if (shp (.tup (y :: ys)) && shp (.tup [])) = true then some false else none := rfl
    unfold eqX eqD
    rw [e]
    by_cases h : (shp (.tup (y :: ys)) && shp (.tup [])) = true
    · rw [if_pos h]
      rfl
    · rw [if_neg h]
      rfl

/-- data within bounds -/
structure Fit (w p : Nat) (d : D) : Prop where
  fit : fitB d = true
  wt : wt d ≤ w
  dp : dp d ≤ p
structure FitL (w p : Nat) (ds : List D) : Prop where
  fit : fitL ds = true
  wt : wtL ds ≤ w
  dp : dpL ds ≤ p
theorem Fit.mono {w p w' p' : Nat} {d : D} (h : Fit w p d) (hw : w ≤ w') (hp : p ≤ p') : Fit w' p' d := ⟨h.fit, Nat.le_trans h.wt hw, Nat.le_trans h.dp hp⟩
theorem FitL.mono {w p w' p' : Nat} {d : List D} (h : FitL w p d) (hw : w ≤ w') (hp : p ≤ p') : FitL w' p' d := ⟨h.fit, Nat.le_trans h.wt hw, Nat.le_trans h.dp hp⟩
theorem FitL.nil {w p : Nat} : FitL w p [] := ⟨rfl, Nat.zero_le _, Nat.zero_le _⟩
theorem FitL.cons {w w' p : Nat} {d : D} {ds : List D} (h : Fit w p d) (k : FitL w' p ds) : FitL (w + 1 + w') p (d :: ds) :=
  ⟨by rw [fitL_cons, h.fit, k.fit]; rfl, by rw [wtL_cons]; have := h.wt; have := k.wt; omega, by rw [dpL_cons]; have := h.dp; have := k.dp; omega⟩
theorem FitL.append {w w' p : Nat} {as bs : List D} (h : FitL w p as) (k : FitL w' p bs) : FitL (w + w') p (as ++ bs) :=
  ⟨by rw [fitL_append, h.fit, k.fit]; rfl, by rw [wtL_append]; have := h.wt; have := k.wt; omega, by rw [dpL_append]; have := h.dp; have := k.dp; omega⟩
theorem FitL.tup {w p : Nat} {ds : List D} (h : FitL w p ds) : Fit w (p + 1) (.tup ds) :=
  ⟨by simp only [fitB]; exact h.fit, by rw [wt_tup]; have := h.wt; omega, by rw [dp_tup]; have := h.dp; omega⟩
theorem FitL.lst {w p : Nat} {ds : List D} (h : FitL w p ds) : Fit w (p + 1) (.lst ds) :=
  ⟨by simp only [fitB]; exact h.fit, by rw [wt_lst]; have := h.wt; omega, by rw [dp_lst]; have := h.dp; omega⟩
theorem Fit.ofTup {w p : Nat} {ds : List D} (h : Fit w p (.tup ds)) : FitL w (p - 1) ds := by
  have h1 := h.wt
  have h2 := h.dp
  rw [wt_tup] at h1
  rw [dp_tup] at h2
  exact ⟨by have := h.fit; simp only [fitB] at this; exact this, by omega, by omega⟩
theorem Fit.inTup {w p : Nat} {ds : List D} (h : Fit w p (.tup ds)) : FitL w p ds := h.ofTup.mono (by omega) (by omega)
theorem FitL.mem {w p : Nat} {ds : List D} (h : FitL w p ds) {d : D} (hd : d ∈ ds) : Fit w p d :=
  ⟨fitL_mem h.fit d hd, by have := wtL_mem hd; have := h.wt; omega, by have := dpL_mem hd; have := h.dp; omega⟩
theorem FitL.take {w p : Nat} {ds : List D} (h : FitL w p ds) (n : Nat) : FitL w p (ds.take n) :=
  ⟨fitL_take n h.fit, by have := wtL_split ds n; have := h.wt; omega, by have := dpL_take ds n; have := h.dp; omega⟩
theorem FitL.drop {w p : Nat} {ds : List D} (h : FitL w p ds) (n : Nat) : FitL w p (ds.drop n) :=
  ⟨fitL_drop n h.fit, by have := wtL_split ds n; have := h.wt; omega, by have := dpL_drop ds n; have := h.dp; omega⟩
theorem FitL.len {w p : Nat} {ds : List D} (h : FitL w p ds) : ds.length ≤ w := Nat.le_trans (wtL_len ds) h.wt
theorem Fit.str_len {w p : Nat} {s : Str} (h : Fit w p (.str s)) : s.length ≤ w := by
  have h1 := h.wt
  have e : s.length + 0 ≤ Sf.wt (.str s) := by
    simp only [Sf.wt, D.py, PyData.weight]
    have : s.length = s.cps.size := rfl
    omega
  omega
theorem Fit.kind {w p : Nat} {d : D} (h : Fit w p d) : (∀ n, d ≠ .ref n) ∧ (∀ ds, d ≠ .fls ds) := by
  refine ⟨fun n e => ?_, fun ds e => ?_⟩ <;> (have := h.fit; rw [e] at this; simp only [fitB] at this; cases this)

/-- repr of it -/
theorem Fit.shown {w p : Nat} {d : D} (h : Fit w p d) (hw : w ≤ 500000) : d.py.shown.length ≤ sizeLine := by
  have e := PyData.shown_le 20 (by omega) d.py (fit_all d h.fit).2.2
  have := h.wt
  have e2 : (20 + 2) * d.py.weight ≤ 22 * 500000 := Nat.mul_le_mul (by omega) (Nat.le_trans h.wt hw)
  show _ ≤ 2 ^ 24
  omega
theorem y_repr {w p : Nat} {S : Sto} {d : D} (h : Fit w p d) (hw : w ≤ 500000) (hp : p ≤ 60) : reprY S [d] = some (.val (.str d.py.shown)) := by
  obtain ⟨h1, h2, _⟩ := fit_all d h.fit
  have ht : topd S d = d := by
    cases d <;> first | rfl | exact absurd rfl (h.kind.1 _)
  have e := h.shown hw
  have e2 := Nat.le_trans h.dp hp
  rw [← ht] at h1 h2 e
  have e3 : (topd S d).py.depth ≤ 60 := by rw [ht]; exact e2
  refine Eq.trans (b := if (topd S d).plain = true ∧ (topd S d).py.showable = true ∧ (topd S d).py.depth ≤ 60 ∧ (topd S d).py.shown.length ≤ sizeLine then some (Out.val (.str (topd S d).py.shown)) else _) rfl ?_
  rw [if_pos ⟨h1, h2, e3, e⟩, ht]
theorem y_reprB {w p : Nat} {S : Sto} {n : Nat} {ds : List D} (hS : S[n]? = some (.lst ds)) (h : Fit w p (.lst ds)) (hw : w ≤ 500000) (hp : p ≤ 60) : reprY S [.ref n] = some (.val (.str (D.lst ds).py.shown)) := by
  obtain ⟨h1, h2, _⟩ := fit_all _ h.fit
  have ht : topd S (.ref n) = .lst ds := by
    simp only [topd, hS]
  have e := h.shown hw
  have e2 := Nat.le_trans h.dp hp
  rw [← ht] at h1 h2 e
  have e3 : (topd S (.ref n)).py.depth ≤ 60 := by rw [ht]; exact e2
  refine Eq.trans (b := if (topd S (.ref n)).plain = true ∧ (topd S (.ref n)).py.showable = true ∧ (topd S (.ref n)).py.depth ≤ 60 ∧ (topd S (.ref n)).py.shown.length ≤ sizeLine then some (Out.val (.str (topd S (.ref n)).py.shown)) else _) rfl ?_
  rw [if_pos ⟨h1, h2, e3, e⟩, ht]
end Sf
/-! printed by gen.py: the derivations of this law's defs -/
namespace W03
open Sf L2 PySem PySem.Spec PyProof.Rows
def top (i : Nat) : Stmt := PySem.Challenge.pw_sameface_k03_what_faces_tell.main.body.getD i (.Pass ⟨0, 0, 0, 0⟩)
def tr_FaceError : List (Str × Bool) := [("OutOfPlace", true)]
def xt_BadFace : List (Str × Bool) := [("OutOfPlace", false)]
def xt_BadInput : List (Str × Bool) := [("OutOfPlace", false)]
def xt_BadLead : List (Str × Bool) := [("OutOfPlace", false)]
def xt_BadMaking : List (Str × Bool) := [("OutOfPlace", false)]
def xt_BadModule : List (Str × Bool) := [("OutOfPlace", false)]
def xt_BadPaper : List (Str × Bool) := [("OutOfPlace", false)]
def xt_BadProgram : List (Str × Bool) := [("OutOfPlace", false)]
def xt_BadRow : List (Str × Bool) := [("OutOfPlace", false)]
def xt_BadSteps : List (Str × Bool) := [("OutOfPlace", false)]
def xt_BadUse : List (Str × Bool) := [("OutOfPlace", false)]
def xt_BadUser : List (Str × Bool) := [("OutOfPlace", false)]
def xt_FaceError : List (Str × Bool) := [("OutOfPlace", true)]
def xt_OutOfPlace : List (Str × Bool) := [("OutOfPlace", true)]
def xt_Refused : List (Str × Bool) := [("OutOfPlace", false)]
def xt_ToldApart : List (Str × Bool) := [("OutOfPlace", false)]
def xt_TooGreat : List (Str × Bool) := [("OutOfPlace", false)]
def xt_ValueError : List (Str × Bool) := [("OutOfPlace", true)]
structure Txt (w : World) (K : PySem.W.Frag) (mg : Str → Option Value) (base : Heap) (X_BadFace : Addr) (X_BadInput : Addr) (X_BadLead : Addr) (X_BadMaking : Addr) (X_BadModule : Addr) (X_BadPaper : Addr) (X_BadProgram : Addr) (X_BadRow : Addr) (X_BadSteps : Addr) (X_BadUse : Addr) (X_BadUser : Addr) (X_FaceError : Addr) (X_OutOfPlace : Addr) (X_Refused : Addr) (X_ToldApart : Addr) (X_TooGreat : Addr) : Prop where
  sys : SysB base
  n_ValueError : mg "ValueError" = none
  n_all : mg "all" = none
  n_bool : mg "bool" = none
  n_dict : mg "dict" = none
  n_enumerate : mg "enumerate" = none
  n_int : mg "int" = none
  n_isinstance : mg "isinstance" = none
  n_len : mg "len" = none
  n_list : mg "list" = none
  n_range : mg "range" = none
  n_repr : mg "repr" = none
  n_sorted : mg "sorted" = none
  n_str : mg "str" = none
  n_sum : mg "sum" = none
  n_tuple : mg "tuple" = none
  c_LETTERS : GS mg "LETTERS" "abcdefghijklmnopqrstuvwxyz"
  c_MOST_DEEDS : GI mg "MOST_DEEDS" 8
  c_MOST_HIDDEN : GI mg "MOST_HIDDEN" 2
  c_MOST_LETTERS : GI mg "MOST_LETTERS" 8
  c_MOST_TAKEN : GI mg "MOST_TAKEN" 3
  d_is_whole : Dk K mg "is_whole" (top 20) ["thing"]
  d_is_among : Dk K mg "is_among" (top 21) ["thing", "least", "most"]
  d_is_name : Dk K mg "is_name" (top 22) ["thing"]
  d_is_plain : Dk K mg "is_plain" (top 27) ["thing"]
  d_is_kind : Dk K mg "is_kind" (top 28) ["thing", "hidden"]
  d_are_taken : Dk K mg "are_taken" (top 29) ["thing", "hidden"]
  d_is_deed : Dk K mg "is_deed" (top 30) ["thing", "hidden"]
  d_is_part : Dk K mg "is_part" (top 31) ["thing", "most"]
  d_bad_hidden : Dk K mg "bad_hidden" (top 32) ["hidden"]
  d_bad_deed : Dk K mg "bad_deed" (top 33) ["deeds", "hidden"]
  d_need_face : Dk K mg "need_face" (top 34) ["face"]
  d_is_face : Dk K mg "is_face" (top 35) ["thing"]
  d_deeds_by_name : Dk K mg "deeds_by_name" (top 36) ["face"]
  d_need_deed : Dk K mg "need_deed" (top 37) ["face", "name"]
  d_hidden_of : Dk K mg "hidden_of" (top 38) ["face"]
  d_names_of : Dk K mg "names_of" (top 39) ["face"]
  d_takes_of : Dk K mg "takes_of" (top 40) ["face", "name"]
  d_gives_of : Dk K mg "gives_of" (top 41) ["face", "name"]
  d_law_mixed : Dk K mg "_law_mixed" (top 43) ["_law_cell", "_law_k"]
  d_law_kinds : Dk K mg "_law_kinds" (top 44) ["_law_error"]
  d_law_draw : Dk K mg "_law_draw" (top 45) ["_law_cell", "_law_k"]
  d_law_digit : Dk K mg "_law_digit" (top 46) ["_law_state", "_law_many"]
  d_law_names : Dk K mg "_law_names" (top 47) ["_law_state", "_law_many"]
  d_law_kind : Dk K mg "_law_kind" (top 48) ["_law_state", "_law_hidden"]
  d_law_face : Dk K mg "_law_face" (top 49) ["_law_state", "_law_most"]
  d_law_refused : Dk K mg "_law_refused" (top 50) ["_law_way", "_law_face_here", "_law_name"]
  d_law_right : Dk K mg "_law_right" (top 51) ["_law_face_here"]
  d_law : Dk K mg "law" (top 52) ["_law_script"]
  gx_BadFace : mg "BadFace" = some (.ref X_BadFace)
  gx_BadInput : mg "BadInput" = some (.ref X_BadInput)
  gx_BadLead : mg "BadLead" = some (.ref X_BadLead)
  gx_BadMaking : mg "BadMaking" = some (.ref X_BadMaking)
  gx_BadModule : mg "BadModule" = some (.ref X_BadModule)
  gx_BadPaper : mg "BadPaper" = some (.ref X_BadPaper)
  gx_BadProgram : mg "BadProgram" = some (.ref X_BadProgram)
  gx_BadRow : mg "BadRow" = some (.ref X_BadRow)
  gx_BadSteps : mg "BadSteps" = some (.ref X_BadSteps)
  gx_BadUse : mg "BadUse" = some (.ref X_BadUse)
  gx_BadUser : mg "BadUser" = some (.ref X_BadUser)
  gx_FaceError : mg "FaceError" = some (.ref X_FaceError)
  gx_OutOfPlace : mg "OutOfPlace" = some (.ref X_OutOfPlace)
  gx_Refused : mg "Refused" = some (.ref X_Refused)
  gx_ToldApart : mg "ToldApart" = some (.ref X_ToldApart)
  gx_TooGreat : mg "TooGreat" = some (.ref X_TooGreat)
  rc_OutOfPlace : RaC K mg "OutOfPlace" X_OutOfPlace
  tf_FaceError : TrF K mg (.ref X_FaceError) tr_FaceError
  xf_BadFace : IsF K mg (.ref X_BadFace) xt_BadFace
  xf_BadInput : IsF K mg (.ref X_BadInput) xt_BadInput
  xf_BadLead : IsF K mg (.ref X_BadLead) xt_BadLead
  xf_BadMaking : IsF K mg (.ref X_BadMaking) xt_BadMaking
  xf_BadModule : IsF K mg (.ref X_BadModule) xt_BadModule
  xf_BadPaper : IsF K mg (.ref X_BadPaper) xt_BadPaper
  xf_BadProgram : IsF K mg (.ref X_BadProgram) xt_BadProgram
  xf_BadRow : IsF K mg (.ref X_BadRow) xt_BadRow
  xf_BadSteps : IsF K mg (.ref X_BadSteps) xt_BadSteps
  xf_BadUse : IsF K mg (.ref X_BadUse) xt_BadUse
  xf_BadUser : IsF K mg (.ref X_BadUser) xt_BadUser
  xf_FaceError : IsF K mg (.ref X_FaceError) xt_FaceError
  xf_OutOfPlace : IsF K mg (.ref X_OutOfPlace) xt_OutOfPlace
  xf_Refused : IsF K mg (.ref X_Refused) xt_Refused
  xf_ToldApart : IsF K mg (.ref X_ToldApart) xt_ToldApart
  xf_TooGreat : IsF K mg (.ref X_TooGreat) xt_TooGreat
  xf_ValueError : IsF K mg (.type "ValueError") xt_ValueError
section
variable {P : Program} {w : World} {K : PySem.W.Frag} {mg : Str → Option Value} {base : Heap} {X_BadFace : Addr} {X_BadInput : Addr} {X_BadLead : Addr} {X_BadMaking : Addr} {X_BadModule : Addr} {X_BadPaper : Addr} {X_BadProgram : Addr} {X_BadRow : Addr} {X_BadSteps : Addr} {X_BadUse : Addr} {X_BadUser : Addr} {X_FaceError : Addr} {X_OutOfPlace : Addr} {X_Refused : Addr} {X_ToldApart : Addr} {X_TooGreat : Addr}
theorem sc_is_whole : FnScope ["thing"] ["thing"] (L2.defScope (top 20)) := sc_by (by decide +kernel)
def den_is_whole : MD := defD 1
 ((sRet (dAnd (dIsi "int" (dVar 0)) (dNot (dIsi "bool" (dVar 0))))))
theorem g_is_whole (T : Txt w K mg base X_BadFace X_BadInput X_BadLead X_BadMaking X_BadModule X_BadPaper X_BadProgram X_BadRow X_BadSteps X_BadUse X_BadUser X_FaceError X_OutOfPlace X_Refused X_ToldApart X_TooGreat) : Cl P w K mg base 1 "is_whole" 1 den_is_whole := cl_of (k := 0) T.d_is_whole sc_is_whole fun f cdv A outer s H E Z =>
 (ss_one
 (s_ret (d_and (d_isi (T := "int") (by decide +kernel) (d_var 0) (by rfl) T.n_isinstance (by rfl) T.n_int bt_int bt_isinstance) (d_one (d_not (d_isi (T := "bool") (by decide +kernel) (d_var 0) (by rfl) T.n_isinstance (by rfl) T.n_bool bt_bool bt_isinstance))))))
theorem sc_is_among : FnScope ["thing", "least", "most"] ["thing", "least", "most"] (L2.defScope (top 21)) := sc_by (by decide +kernel)
def den_is_among : MD := defD 3
 ((sRet (dAnd (dFn 1 den_is_whole (aCons (dVar 0) aNil)) (dChain leD leD (dVar 1) (dVar 0) (dVar 2)))))
theorem g_is_among (T : Txt w K mg base X_BadFace X_BadInput X_BadLead X_BadMaking X_BadModule X_BadPaper X_BadProgram X_BadRow X_BadSteps X_BadUse X_BadUser X_FaceError X_OutOfPlace X_Refused X_ToldApart X_TooGreat) : Cl P w K mg base 2 "is_among" 3 den_is_among := cl_of (k := 1) T.d_is_among sc_is_among fun f cdv A outer s H E Z =>
 (ss_one
 (s_ret (d_and (d_c (g_is_whole T) Z (by decide) (by rfl) (a_cons (d_var 0) a_nil)) (d_one (d_chain op_leD op_leD (d_var 1) (d_var 0) (d_var 2))))))
theorem sc_is_name : FnScope ["thing", "sign"] ["thing"] (L2.defScope (top 22)) := sc_by (by decide +kernel)
def den_is_name : MD := defD 2
 ((sSeq (sIf (bOr (bNot (dTru (dIsi "str" (dVar 0)))) (bNot (tst (dChain leD leD (dC (.int 1)) (dCl lenD (aCons (dVar 0) aNil)) (dC (.int 8)))))) (sRet (dC (.bl false))) sNext)
 (sRet (dCl allD (aCons (dComp (itStr (dVar 0)) (tName 1) bYes (d2 inD (dVar 1) (dC (.str "abcdefghijklmnopqrstuvwxyz"))) [1]) aNil)))))
theorem g_is_name (T : Txt w K mg base X_BadFace X_BadInput X_BadLead X_BadMaking X_BadModule X_BadPaper X_BadProgram X_BadRow X_BadSteps X_BadUse X_BadUser X_FaceError X_OutOfPlace X_Refused X_ToldApart X_TooGreat) : Cl P w K mg base 1 "is_name" 1 den_is_name := cl_of (k := 0) T.d_is_name sc_is_name fun f cdv A outer s H E Z =>
 (ss_cons
 (s_if (t_w (w_or (t_not (t_tru (d_isi (T := "str") (by decide +kernel) (d_var 0) (by rfl) T.n_isinstance (by rfl) T.n_str bt_str bt_isinstance))) (w_or1 (t_not (t_chain op_leD op_leD d_int (d_callB cl_len (by rfl) T.n_len bt_len (a_cons (d_var 0) a_nil)) (d_gI T.c_MOST_LETTERS (by rfl))))))) (ss_one
 (s_ret d_bl)) ss_nil) (ss_one
 (s_ret (d_callB (cl_all Z.calm) (by rfl) T.n_all bt_all (a_cons (d_comp Z.calm sc_is_name.nd (i_str (d_var 0)) (blkOk_by (own := [("sign", 1)]) (by kernel_rfl)) (fun _ _ _ _ _ => (g_name sc_is_name.nd (by rfl) (by first | exact Or.inl rfl | exact Or.inr rfl))) (fun _ _ _ _ _ => ts_nil) (fun _ _ _ _ _ => (d_cmp (op_inD Z.blk.hu1) (d_var 1) (d_gS T.c_LETTERS (by rfl)) (by with_unfolding_all rfl))) (by decide)) a_nil)))))
theorem sc_is_plain : FnScope ["thing"] ["thing"] (L2.defScope (top 27)) := sc_by (by decide +kernel)
def den_is_plain : MD := defD 1
 ((sRet (dFn 3 den_is_among (aCons (dVar 0) (aCons (dC (.int 2)) (aCons (dC (.int 9)) aNil))))))
theorem g_is_plain (T : Txt w K mg base X_BadFace X_BadInput X_BadLead X_BadMaking X_BadModule X_BadPaper X_BadProgram X_BadRow X_BadSteps X_BadUse X_BadUser X_FaceError X_OutOfPlace X_Refused X_ToldApart X_TooGreat) : Cl P w K mg base 3 "is_plain" 1 den_is_plain := cl_of (k := 2) T.d_is_plain sc_is_plain fun f cdv A outer s H E Z =>
 (ss_one
 (s_ret (d_c (g_is_among T) Z (by decide) (by rfl) (a_cons (d_var 0) (a_cons d_int (a_cons d_int a_nil))))))
theorem sc_is_kind : FnScope ["thing", "hidden"] ["thing", "hidden"] (L2.defScope (top 28)) := sc_by (by decide +kernel)
def den_is_kind : MD := defD 2
 ((sRet (dOr (dFn 1 den_is_plain (aCons (dVar 0) aNil)) (dAnd (dIsi "str" (dVar 0)) (d2 inD (dVar 0) (dVar 1))))))
theorem g_is_kind (T : Txt w K mg base X_BadFace X_BadInput X_BadLead X_BadMaking X_BadModule X_BadPaper X_BadProgram X_BadRow X_BadSteps X_BadUse X_BadUser X_FaceError X_OutOfPlace X_Refused X_ToldApart X_TooGreat) : Cl P w K mg base 4 "is_kind" 2 den_is_kind := cl_of (k := 3) T.d_is_kind sc_is_kind fun f cdv A outer s H E Z =>
 (ss_one
 (s_ret (d_or (d_c (g_is_plain T) Z (by decide) (by rfl) (a_cons (d_var 0) a_nil)) (d_one (d_and (d_isi (T := "str") (by decide +kernel) (d_var 0) (by rfl) T.n_isinstance (by rfl) T.n_str bt_str bt_isinstance) (d_one (d_cmp (op_inD Z.hu1) (d_var 0) (d_var 1) (by with_unfolding_all rfl))))))))
theorem sc_are_taken : FnScope ["thing", "hidden", "one"] ["thing", "hidden"] (L2.defScope (top 29)) := sc_by (by decide +kernel)
def den_are_taken : MD := defD 3
 ((sSeq (sIf (bOr (bNot (dTru (dIsi "tuple" (dVar 0)))) (bOr (tst (d2 gtD (dCl lenD (aCons (dVar 0) aNil)) (dC (.int 3)))) (bNot (dTru (dCl allD (aCons (dComp (itSeq (dVar 0)) (tName 2) bYes (dFn 2 den_is_kind (aCons (dVar 2) (aCons (dVar 1) aNil))) [2]) aNil)))))) (sRet (dC (.bl false))) sNext)
 (sRet (d2 leD (dCl lenD (aCons (dComp (itSeq (dVar 0)) (tName 2) (bNot (dTru (dFn 1 den_is_plain (aCons (dVar 2) aNil)))) (dVar 2) [2]) aNil)) (dC (.int 2))))))
theorem g_are_taken (T : Txt w K mg base X_BadFace X_BadInput X_BadLead X_BadMaking X_BadModule X_BadPaper X_BadProgram X_BadRow X_BadSteps X_BadUse X_BadUser X_FaceError X_OutOfPlace X_Refused X_ToldApart X_TooGreat) : Cl P w K mg base 5 "are_taken" 2 den_are_taken := cl_of (k := 4) T.d_are_taken sc_are_taken fun f cdv A outer s H E Z =>
 (ss_cons
 (s_if (t_w (w_or (t_not (t_tru (d_isi (T := "tuple") (by decide +kernel) (d_var 0) (by rfl) T.n_isinstance (by rfl) T.n_tuple bt_tuple bt_isinstance))) (w_or (t_cmp op_gtD (d_callB cl_len (by rfl) T.n_len bt_len (a_cons (d_var 0) a_nil)) (d_gI T.c_MOST_TAKEN (by rfl)) (nomark _)) (w_or1 (t_not (t_tru (d_callB (cl_all Z.calm) (by rfl) T.n_all bt_all (a_cons (d_comp Z.calm sc_are_taken.nd (i_seq (d_var 0)) (blkOk_by (own := [("one", 2)]) (by kernel_rfl)) (fun _ _ _ _ _ => (g_name sc_are_taken.nd (by rfl) (by first | exact Or.inl rfl | exact Or.inr rfl))) (fun _ _ _ _ _ => ts_nil) (fun _ _ _ _ _ => (d_c (g_is_kind T) Z.blk (by decide) (by rfl) (a_cons (d_var 2) (a_cons (d_var 1) a_nil)))) (by decide)) a_nil)))))))) (ss_one
 (s_ret d_bl)) ss_nil) (ss_one
 (s_ret (d_cmp op_leD (d_callB cl_len (by rfl) T.n_len bt_len (a_cons (d_comp Z.calm sc_are_taken.nd (i_seq (d_var 0)) (blkOk_by (own := [("one", 2)]) (by kernel_rfl)) (fun _ _ _ _ _ => (g_name sc_are_taken.nd (by rfl) (by first | exact Or.inl rfl | exact Or.inr rfl))) (fun _ _ _ _ _ => (ts_one (t_not (t_tru (d_c (g_is_plain T) Z.blk (by decide) (by rfl) (a_cons (d_var 2) a_nil)))))) (fun _ _ _ _ _ => (d_var 2)) (by decide)) a_nil)) (d_gI T.c_MOST_HIDDEN (by rfl)) (nomark _)))))
theorem sc_is_deed : FnScope ["thing", "hidden"] ["thing", "hidden"] (L2.defScope (top 30)) := sc_by (by decide +kernel)
def den_is_deed : MD := defD 2
 ((sSeq (sIf (bOr (bNot (dTru (dIsi "tuple" (dVar 0)))) (bOr (tst (d2 neX (dCl lenD (aCons (dVar 0) aNil)) (dC (.int 3)))) (bNot (dTru (dFn 1 den_is_name (aCons (d2 ixD (dVar 0) (dC (.int 0))) aNil)))))) (sRet (dC (.bl false))) sNext)
 (sRet (dAnd (dFn 2 den_are_taken (aCons (d2 ixD (dVar 0) (dC (.int 1))) (aCons (dVar 1) aNil))) (dFn 2 den_is_kind (aCons (d2 ixD (dVar 0) (dC (.int 2))) (aCons (dVar 1) aNil)))))))
theorem g_is_deed (T : Txt w K mg base X_BadFace X_BadInput X_BadLead X_BadMaking X_BadModule X_BadPaper X_BadProgram X_BadRow X_BadSteps X_BadUse X_BadUser X_FaceError X_OutOfPlace X_Refused X_ToldApart X_TooGreat) : Cl P w K mg base 6 "is_deed" 2 den_is_deed := cl_of (k := 5) T.d_is_deed sc_is_deed fun f cdv A outer s H E Z =>
 (ss_cons
 (s_if (t_w (w_or (t_not (t_tru (d_isi (T := "tuple") (by decide +kernel) (d_var 0) (by rfl) T.n_isinstance (by rfl) T.n_tuple bt_tuple bt_isinstance))) (w_or (t_cmp (op_neX Z.hu) (d_callB cl_len (by rfl) T.n_len bt_len (a_cons (d_var 0) a_nil)) d_int (nomark _)) (w_or1 (t_not (t_tru (d_c (g_is_name T) Z (by decide) (by rfl) (a_cons (d_ix (d_var 0) d_int) a_nil)))))))) (ss_one
 (s_ret d_bl)) ss_nil) (ss_one
 (s_ret (d_and (d_c (g_are_taken T) Z (by decide) (by rfl) (a_cons (d_ix (d_var 0) d_int) (a_cons (d_var 1) a_nil))) (d_one (d_c (g_is_kind T) Z (by decide) (by rfl) (a_cons (d_ix (d_var 0) d_int) (a_cons (d_var 1) a_nil))))))))
theorem sc_is_part : FnScope ["thing", "most"] ["thing", "most"] (L2.defScope (top 31)) := sc_by (by decide +kernel)
def den_is_part : MD := defD 2
 ((sRet (dAnd (dIsi "tuple" (dVar 0)) (dChain leD leD (dC (.int 1)) (dCl lenD (aCons (dVar 0) aNil)) (dVar 1)))))
theorem g_is_part (T : Txt w K mg base X_BadFace X_BadInput X_BadLead X_BadMaking X_BadModule X_BadPaper X_BadProgram X_BadRow X_BadSteps X_BadUse X_BadUser X_FaceError X_OutOfPlace X_Refused X_ToldApart X_TooGreat) : Cl P w K mg base 1 "is_part" 2 den_is_part := cl_of (k := 0) T.d_is_part sc_is_part fun f cdv A outer s H E Z =>
 (ss_one
 (s_ret (d_and (d_isi (T := "tuple") (by decide +kernel) (d_var 0) (by rfl) T.n_isinstance (by rfl) T.n_tuple bt_tuple bt_isinstance) (d_one (d_chain op_leD op_leD d_int (d_callB cl_len (by rfl) T.n_len bt_len (a_cons (d_var 0) a_nil)) (d_var 1))))))
theorem sc_bad_hidden : FnScope ["hidden", "ahead", "number", "one"] ["hidden"] (L2.defScope (top 32)) := sc_by (by decide +kernel)
def den_bad_hidden : MD := defD 4
 ((sSeq (sAsg 1 (dC (.str "")))
 (sSeq (sFor (itA enumT (aCons (dVar 0) aNil)) (tTup (tsCons (tName 2) (tsCons (tName 3) tsNil))) (sSeq (sIf (bOr (bNot (dTru (dFn 1 den_is_name (aCons (dVar 3) aNil)))) (tst (d2 leD (dVar 3) (dVar 1)))) (sRet (dVar 2)) sNext)
 (sAsg 1 (dVar 3))))
 (sRet (dC .non)))))
theorem g_bad_hidden (T : Txt w K mg base X_BadFace X_BadInput X_BadLead X_BadMaking X_BadModule X_BadPaper X_BadProgram X_BadRow X_BadSteps X_BadUse X_BadUser X_FaceError X_OutOfPlace X_Refused X_ToldApart X_TooGreat) : Cl P w K mg base 2 "bad_hidden" 1 den_bad_hidden := cl_of (k := 1) T.d_bad_hidden sc_bad_hidden fun f cdv A outer s H E Z =>
 (ss_cons
 (s_asg (i := 1) sc_bad_hidden.nd (by rfl) (by first | exact Or.inl rfl | exact Or.inr rfl) d_str) (ss_cons
 (s_for (L2.passes_of rfl) Z.calm (i_enumT (by rfl) T.n_enumerate (a_cons (d_var 0) a_nil)) (g_tup Z.calm (gs_cons (g_name sc_bad_hidden.nd (by rfl) (by first | exact Or.inl rfl | exact Or.inr rfl)) (gs_cons (g_name sc_bad_hidden.nd (by rfl) (by first | exact Or.inl rfl | exact Or.inr rfl)) gs_nil)) (len_cons (len_cons (fun _ _ _ h => len_nil h)))) (ss_cons
 (s_if (t_w (w_or (t_not (t_tru (d_c (g_is_name T) Z (by decide) (by rfl) (a_cons (d_var 3) a_nil)))) (w_or1 (t_cmp op_leD (d_var 3) (d_var 1) (nomark _))))) (ss_one
 (s_ret (d_var 2))) ss_nil) (ss_one
 (s_asg (i := 1) sc_bad_hidden.nd (by rfl) (by first | exact Or.inl rfl | exact Or.inr rfl) (d_var 3))))) (ss_one
 (s_ret d_non))))
theorem sc_bad_deed : FnScope ["deeds", "hidden", "ahead", "number", "one"] ["deeds", "hidden"] (L2.defScope (top 33)) := sc_by (by decide +kernel)
def den_bad_deed : MD := defD 5
 ((sSeq (sAsg 2 (dC (.str "")))
 (sSeq (sFor (itA enumT (aCons (dVar 0) aNil)) (tTup (tsCons (tName 3) (tsCons (tName 4) tsNil))) (sSeq (sIf (bOr (bNot (dTru (dFn 2 den_is_deed (aCons (dVar 4) (aCons (dVar 1) aNil))))) (tst (d2 leD (d2 ixD (dVar 4) (dC (.int 0))) (dVar 2)))) (sRet (dVar 3)) sNext)
 (sAsg 2 (d2 ixD (dVar 4) (dC (.int 0))))))
 (sRet (dC .non)))))
theorem g_bad_deed (T : Txt w K mg base X_BadFace X_BadInput X_BadLead X_BadMaking X_BadModule X_BadPaper X_BadProgram X_BadRow X_BadSteps X_BadUse X_BadUser X_FaceError X_OutOfPlace X_Refused X_ToldApart X_TooGreat) : Cl P w K mg base 7 "bad_deed" 2 den_bad_deed := cl_of (k := 6) T.d_bad_deed sc_bad_deed fun f cdv A outer s H E Z =>
 (ss_cons
 (s_asg (i := 2) sc_bad_deed.nd (by rfl) (by first | exact Or.inl rfl | exact Or.inr rfl) d_str) (ss_cons
 (s_for (L2.passes_of rfl) Z.calm (i_enumT (by rfl) T.n_enumerate (a_cons (d_var 0) a_nil)) (g_tup Z.calm (gs_cons (g_name sc_bad_deed.nd (by rfl) (by first | exact Or.inl rfl | exact Or.inr rfl)) (gs_cons (g_name sc_bad_deed.nd (by rfl) (by first | exact Or.inl rfl | exact Or.inr rfl)) gs_nil)) (len_cons (len_cons (fun _ _ _ h => len_nil h)))) (ss_cons
 (s_if (t_w (w_or (t_not (t_tru (d_c (g_is_deed T) Z (by decide) (by rfl) (a_cons (d_var 4) (a_cons (d_var 1) a_nil))))) (w_or1 (t_cmp op_leD (d_ix (d_var 4) d_int) (d_var 2) (nomark _))))) (ss_one
 (s_ret (d_var 3))) ss_nil) (ss_one
 (s_asg (i := 2) sc_bad_deed.nd (by rfl) (by first | exact Or.inl rfl | exact Or.inr rfl) (d_ix (d_var 4) d_int))))) (ss_one
 (s_ret d_non))))
theorem sc_need_face : FnScope ["face", "number"] ["face"] (L2.defScope (top 34)) := sc_by (by decide +kernel)
def den_need_face : MD := defD 2
 ((sSeq (sIf (bOr (bNot (dTru (dIsi "tuple" (dVar 0)))) (tst (d2 neX (dCl lenD (aCons (dVar 0) aNil)) (dC (.int 2))))) sNever sNext)
 (sSeq (sIf (bNot (dTru (dFn 2 den_is_part (aCons (d2 ixD (dVar 0) (dC (.int 0))) (aCons (dC (.int 2)) aNil))))) sNever sNext)
 (sSeq (sIf (bNot (dTru (dFn 2 den_is_part (aCons (d2 ixD (dVar 0) (dC (.int 1))) (aCons (dC (.int 8)) aNil))))) sNever sNext)
 (sSeq (sAsg 1 (dFn 1 den_bad_hidden (aCons (d2 ixD (dVar 0) (dC (.int 0))) aNil)))
 (sSeq (sIf (tst (d2 isNotD (dVar 1) (dC .non))) sNever sNext)
 (sSeq (sAsg 1 (dFn 2 den_bad_deed (aCons (d2 ixD (dVar 0) (dC (.int 1))) (aCons (d2 ixD (dVar 0) (dC (.int 0))) aNil))))
 (sIf (tst (d2 isNotD (dVar 1) (dC .non))) sNever sNext))))))))
theorem g_need_face (T : Txt w K mg base X_BadFace X_BadInput X_BadLead X_BadMaking X_BadModule X_BadPaper X_BadProgram X_BadRow X_BadSteps X_BadUse X_BadUser X_FaceError X_OutOfPlace X_Refused X_ToldApart X_TooGreat) : Cl P w K mg base 8 "need_face" 1 den_need_face := cl_of (k := 7) T.d_need_face sc_need_face fun f cdv A outer s H E Z =>
 (ss_cons
 (s_if (t_w (w_or (t_not (t_tru (d_isi (T := "tuple") (by decide +kernel) (d_var 0) (by rfl) T.n_isinstance (by rfl) T.n_tuple bt_tuple bt_isinstance))) (w_or1 (t_cmp (op_neX Z.hu) (d_callB cl_len (by rfl) T.n_len bt_len (a_cons (d_var 0) a_nil)) d_int (nomark _))))) (ss_one
 s_never) ss_nil) (ss_cons
 (s_if (t_not (t_tru (d_c (g_is_part T) Z (by decide) (by rfl) (a_cons (d_ix (d_var 0) d_int) (a_cons (d_gI T.c_MOST_HIDDEN (by rfl)) a_nil))))) (ss_one
 s_never) ss_nil) (ss_cons
 (s_if (t_not (t_tru (d_c (g_is_part T) Z (by decide) (by rfl) (a_cons (d_ix (d_var 0) d_int) (a_cons (d_gI T.c_MOST_DEEDS (by rfl)) a_nil))))) (ss_one
 s_never) ss_nil) (ss_cons
 (s_asg (i := 1) sc_need_face.nd (by rfl) (by first | exact Or.inl rfl | exact Or.inr rfl) (d_c (g_bad_hidden T) Z (by decide) (by rfl) (a_cons (d_ix (d_var 0) d_int) a_nil))) (ss_cons
 (s_if (t_cmp op_isNotD (d_var 1) d_non (nomark _)) (ss_one
 s_never) ss_nil) (ss_cons
 (s_asg (i := 1) sc_need_face.nd (by rfl) (by first | exact Or.inl rfl | exact Or.inr rfl) (d_c (g_bad_deed T) Z (by decide) (by rfl) (a_cons (d_ix (d_var 0) d_int) (a_cons (d_ix (d_var 0) d_int) a_nil)))) (ss_one
 (s_if (t_cmp op_isNotD (d_var 1) d_non (nomark _)) (ss_one
 s_never) ss_nil))))))))
theorem sc_is_face : FnScope ["thing"] ["thing"] (L2.defScope (top 35)) := sc_by (by decide +kernel)
def den_is_face : MD := defD 1
 ((sSeq (sIf (bOr (bNot (dTru (dIsi "tuple" (dVar 0)))) (tst (d2 neX (dCl lenD (aCons (dVar 0) aNil)) (dC (.int 2))))) (sRet (dC (.bl false))) sNext)
 (sSeq (sIf (bOr (bNot (dTru (dFn 2 den_is_part (aCons (d2 ixD (dVar 0) (dC (.int 0))) (aCons (dC (.int 2)) aNil))))) (bNot (dTru (dFn 2 den_is_part (aCons (d2 ixD (dVar 0) (dC (.int 1))) (aCons (dC (.int 8)) aNil)))))) (sRet (dC (.bl false))) sNext)
 (sRet (dAnd (d2 isD (dFn 1 den_bad_hidden (aCons (d2 ixD (dVar 0) (dC (.int 0))) aNil)) (dC .non)) (d2 isD (dFn 2 den_bad_deed (aCons (d2 ixD (dVar 0) (dC (.int 1))) (aCons (d2 ixD (dVar 0) (dC (.int 0))) aNil))) (dC .non)))))))
theorem g_is_face (T : Txt w K mg base X_BadFace X_BadInput X_BadLead X_BadMaking X_BadModule X_BadPaper X_BadProgram X_BadRow X_BadSteps X_BadUse X_BadUser X_FaceError X_OutOfPlace X_Refused X_ToldApart X_TooGreat) : Cl P w K mg base 8 "is_face" 1 den_is_face := cl_of (k := 7) T.d_is_face sc_is_face fun f cdv A outer s H E Z =>
 (ss_cons
 (s_if (t_w (w_or (t_not (t_tru (d_isi (T := "tuple") (by decide +kernel) (d_var 0) (by rfl) T.n_isinstance (by rfl) T.n_tuple bt_tuple bt_isinstance))) (w_or1 (t_cmp (op_neX Z.hu) (d_callB cl_len (by rfl) T.n_len bt_len (a_cons (d_var 0) a_nil)) d_int (nomark _))))) (ss_one
 (s_ret d_bl)) ss_nil) (ss_cons
 (s_if (t_w (w_or (t_not (t_tru (d_c (g_is_part T) Z (by decide) (by rfl) (a_cons (d_ix (d_var 0) d_int) (a_cons (d_gI T.c_MOST_HIDDEN (by rfl)) a_nil))))) (w_or1 (t_not (t_tru (d_c (g_is_part T) Z (by decide) (by rfl) (a_cons (d_ix (d_var 0) d_int) (a_cons (d_gI T.c_MOST_DEEDS (by rfl)) a_nil)))))))) (ss_one
 (s_ret d_bl)) ss_nil) (ss_one
 (s_ret (d_and (d_cmp op_isD (d_c (g_bad_hidden T) Z (by decide) (by rfl) (a_cons (d_ix (d_var 0) d_int) a_nil)) d_non (nomark _)) (d_one (d_cmp op_isD (d_c (g_bad_deed T) Z (by decide) (by rfl) (a_cons (d_ix (d_var 0) d_int) (a_cons (d_ix (d_var 0) d_int) a_nil))) d_non (nomark _))))))))
theorem sc_deeds_by_name : FnScope ["face", "name", "takes", "gives"] ["face"] (L2.defScope (top 36)) := sc_by (by decide +kernel)
def den_deeds_by_name : MD := defD 4
 ((sRet (dCl dictP (aCons (dComp (itSeq (d2 ixD (dVar 0) (dC (.int 1)))) (tTup (tsCons (tName 1) (tsCons (tName 2) (tsCons (tName 3) tsNil)))) bYes (dTup (aCons (dVar 1) (aCons (dTup (aCons (dVar 2) (aCons (dVar 3) aNil))) aNil))) [1, 2, 3]) aNil))))
theorem g_deeds_by_name (T : Txt w K mg base X_BadFace X_BadInput X_BadLead X_BadMaking X_BadModule X_BadPaper X_BadProgram X_BadRow X_BadSteps X_BadUse X_BadUser X_FaceError X_OutOfPlace X_Refused X_ToldApart X_TooGreat) : Cl P w K mg base 1 "deeds_by_name" 1 den_deeds_by_name := cl_of (k := 0) T.d_deeds_by_name sc_deeds_by_name fun f cdv A outer s H E Z =>
 (ss_one
 (s_ret (d_callTy (cl_dictP Z.calm) (by rfl) T.n_dict bt_dict (a_cons (d_comp Z.calm sc_deeds_by_name.nd (i_seq (d_ix (d_var 0) d_int)) (blkOk_by (own := [("name", 1), ("takes", 2), ("gives", 3)]) (by kernel_rfl)) (fun _ _ _ _ _ => (g_tup Z.calm (gs_cons (g_name sc_deeds_by_name.nd (by rfl) (by first | exact Or.inl rfl | exact Or.inr rfl)) (gs_cons (g_name sc_deeds_by_name.nd (by rfl) (by first | exact Or.inl rfl | exact Or.inr rfl)) (gs_cons (g_name sc_deeds_by_name.nd (by rfl) (by first | exact Or.inl rfl | exact Or.inr rfl)) gs_nil))) (len_cons (len_cons (len_cons (fun _ _ _ h => len_nil h)))))) (fun _ _ _ _ _ => ts_nil) (fun _ _ _ _ _ => (d_tup (a_cons (d_var 1) (a_cons (d_tup (a_cons (d_var 2) (a_cons (d_var 3) a_nil))) a_nil)))) (by decide)) a_nil))))
theorem sc_need_deed : FnScope ["face", "name"] ["face", "name"] (L2.defScope (top 37)) := sc_by (by decide +kernel)
def den_need_deed : MD := defD 2
 ((sIf (bOr (bNot (dTru (dFn 1 den_is_name (aCons (dVar 1) aNil)))) (tst (d2 dnotinD (dVar 1) (dFn 1 den_deeds_by_name (aCons (dVar 0) aNil))))) (sRaise "OutOfPlace" (dC (.str "no such deed"))) sNext))
theorem g_need_deed (T : Txt w K mg base X_BadFace X_BadInput X_BadLead X_BadMaking X_BadModule X_BadPaper X_BadProgram X_BadRow X_BadSteps X_BadUse X_BadUser X_FaceError X_OutOfPlace X_Refused X_ToldApart X_TooGreat) : Cl P w K mg base 2 "need_deed" 2 den_need_deed := cl_of (k := 1) T.d_need_deed sc_need_deed fun f cdv A outer s H E Z =>
 (ss_one
 (s_if (t_w (w_or (t_not (t_tru (d_c (g_is_name T) Z (by decide) (by rfl) (a_cons (d_var 1) a_nil)))) (w_or1 (t_cmp (op_dnotinD Z.hus) (d_var 1) (d_c (g_deeds_by_name T) Z (by decide) (by rfl) (a_cons (d_var 0) a_nil)) (by with_unfolding_all rfl))))) (ss_one
 (s_raise Z T.rc_OutOfPlace (by rfl) d_str)) ss_nil))
theorem sc_hidden_of : FnScope ["face"] ["face"] (L2.defScope (top 38)) := sc_by (by decide +kernel)
def den_hidden_of : MD := defD 1
 ((sSeq (sDrop (dFn 1 den_need_face (aCons (dVar 0) aNil)))
 (sRet (dCl listD (aCons (d2 ixD (dVar 0) (dC (.int 0))) aNil)))))
theorem g_hidden_of (T : Txt w K mg base X_BadFace X_BadInput X_BadLead X_BadMaking X_BadModule X_BadPaper X_BadProgram X_BadRow X_BadSteps X_BadUse X_BadUser X_FaceError X_OutOfPlace X_Refused X_ToldApart X_TooGreat) : Cl P w K mg base 9 "hidden_of" 1 den_hidden_of := cl_of (k := 8) T.d_hidden_of sc_hidden_of fun f cdv A outer s H E Z =>
 (ss_cons
 (s_drop (d_c (g_need_face T) Z (by decide) (by rfl) (a_cons (d_var 0) a_nil))) (ss_one
 (s_ret (d_callTy cl_list (by rfl) T.n_list bt_list (a_cons (d_ix (d_var 0) d_int) a_nil)))))
theorem sc_names_of : FnScope ["face", "name", "takes", "gives"] ["face"] (L2.defScope (top 39)) := sc_by (by decide +kernel)
def den_names_of : MD := defD 4
 ((sSeq (sDrop (dFn 1 den_need_face (aCons (dVar 0) aNil)))
 (sRet (dComp (itSeq (d2 ixD (dVar 0) (dC (.int 1)))) (tTup (tsCons (tName 1) (tsCons (tName 2) (tsCons (tName 3) tsNil)))) bYes (dVar 1) [1, 2, 3]))))
theorem g_names_of (T : Txt w K mg base X_BadFace X_BadInput X_BadLead X_BadMaking X_BadModule X_BadPaper X_BadProgram X_BadRow X_BadSteps X_BadUse X_BadUser X_FaceError X_OutOfPlace X_Refused X_ToldApart X_TooGreat) : Cl P w K mg base 9 "names_of" 1 den_names_of := cl_of (k := 8) T.d_names_of sc_names_of fun f cdv A outer s H E Z =>
 (ss_cons
 (s_drop (d_c (g_need_face T) Z (by decide) (by rfl) (a_cons (d_var 0) a_nil))) (ss_one
 (s_ret (d_comp Z.calm sc_names_of.nd (i_seq (d_ix (d_var 0) d_int)) (blkOk_by (own := [("name", 1), ("takes", 2), ("gives", 3)]) (by kernel_rfl)) (fun _ _ _ _ _ => (g_tup Z.calm (gs_cons (g_name sc_names_of.nd (by rfl) (by first | exact Or.inl rfl | exact Or.inr rfl)) (gs_cons (g_name sc_names_of.nd (by rfl) (by first | exact Or.inl rfl | exact Or.inr rfl)) (gs_cons (g_name sc_names_of.nd (by rfl) (by first | exact Or.inl rfl | exact Or.inr rfl)) gs_nil))) (len_cons (len_cons (len_cons (fun _ _ _ h => len_nil h)))))) (fun _ _ _ _ _ => ts_nil) (fun _ _ _ _ _ => (d_var 1)) (by decide)))))
theorem sc_takes_of : FnScope ["face", "name"] ["face", "name"] (L2.defScope (top 40)) := sc_by (by decide +kernel)
def den_takes_of : MD := defD 2
 ((sSeq (sDrop (dFn 1 den_need_face (aCons (dVar 0) aNil)))
 (sSeq (sDrop (dFn 2 den_need_deed (aCons (dVar 0) (aCons (dVar 1) aNil))))
 (sRet (d2 ixD (d2 dgD (dFn 1 den_deeds_by_name (aCons (dVar 0) aNil)) (dVar 1)) (dC (.int 0)))))))
theorem g_takes_of (T : Txt w K mg base X_BadFace X_BadInput X_BadLead X_BadMaking X_BadModule X_BadPaper X_BadProgram X_BadRow X_BadSteps X_BadUse X_BadUser X_FaceError X_OutOfPlace X_Refused X_ToldApart X_TooGreat) : Cl P w K mg base 9 "takes_of" 2 den_takes_of := cl_of (k := 8) T.d_takes_of sc_takes_of fun f cdv A outer s H E Z =>
 (ss_cons
 (s_drop (d_c (g_need_face T) Z (by decide) (by rfl) (a_cons (d_var 0) a_nil))) (ss_cons
 (s_drop (d_c (g_need_deed T) Z (by decide) (by rfl) (a_cons (d_var 0) (a_cons (d_var 1) a_nil)))) (ss_one
 (s_ret (d_ix (d_dg Z.hus (d_c (g_deeds_by_name T) Z (by decide) (by rfl) (a_cons (d_var 0) a_nil)) (d_var 1)) d_int)))))
theorem sc_gives_of : FnScope ["face", "name"] ["face", "name"] (L2.defScope (top 41)) := sc_by (by decide +kernel)
def den_gives_of : MD := defD 2
 ((sSeq (sDrop (dFn 1 den_need_face (aCons (dVar 0) aNil)))
 (sSeq (sDrop (dFn 2 den_need_deed (aCons (dVar 0) (aCons (dVar 1) aNil))))
 (sRet (d2 ixD (d2 dgD (dFn 1 den_deeds_by_name (aCons (dVar 0) aNil)) (dVar 1)) (dC (.int 1)))))))
theorem g_gives_of (T : Txt w K mg base X_BadFace X_BadInput X_BadLead X_BadMaking X_BadModule X_BadPaper X_BadProgram X_BadRow X_BadSteps X_BadUse X_BadUser X_FaceError X_OutOfPlace X_Refused X_ToldApart X_TooGreat) : Cl P w K mg base 9 "gives_of" 2 den_gives_of := cl_of (k := 8) T.d_gives_of sc_gives_of fun f cdv A outer s H E Z =>
 (ss_cons
 (s_drop (d_c (g_need_face T) Z (by decide) (by rfl) (a_cons (d_var 0) a_nil))) (ss_cons
 (s_drop (d_c (g_need_deed T) Z (by decide) (by rfl) (a_cons (d_var 0) (a_cons (d_var 1) a_nil)))) (ss_one
 (s_ret (d_ix (d_dg Z.hus (d_c (g_deeds_by_name T) Z (by decide) (by rfl) (a_cons (d_var 0) a_nil)) (d_var 1)) d_int)))))
theorem sc_law_mixed : FnScope ["_law_cell", "_law_k"] ["_law_cell", "_law_k"] (L2.defScope (top 43)) := sc_by (by decide +kernel)
def den_law_mixed : MD := defD 2
 ((sSeq (sAsg 0 (d2 addD (d2 addD (d2 modD (dVar 0) (dC (.int 1000000007))) (d2 mulX (dC (.int 7919)) (dVar 1))) (dC (.int 13))))
 (sRet (d2 modD (d2 mulX (d2 modD (d2 mulX (dVar 0) (dVar 0)) (dC (.int 1000000007))) (dC (.int 48271))) (dC (.int 2147483647))))))
theorem g_law_mixed (T : Txt w K mg base X_BadFace X_BadInput X_BadLead X_BadMaking X_BadModule X_BadPaper X_BadProgram X_BadRow X_BadSteps X_BadUse X_BadUser X_FaceError X_OutOfPlace X_Refused X_ToldApart X_TooGreat) : Cl P w K mg base 1 "_law_mixed" 2 den_law_mixed := cl_of (k := 0) T.d_law_mixed sc_law_mixed fun f cdv A outer s H E Z =>
 (ss_cons
 (s_asg (i := 0) sc_law_mixed.nd (by rfl) (by first | exact Or.inl rfl | exact Or.inr rfl) (d_op op_addD (d_op op_addD (d_op op_modD (d_var 0) d_int) (d_op op_mulX d_int (d_var 1))) d_int)) (ss_one
 (s_ret (d_op op_modD (d_op op_mulX (d_op op_modD (d_op op_mulX (d_var 0) (d_var 0)) d_int) d_int) d_int))))
theorem sc_law_kinds : FnScope ["_law_error", "_law_kinds_here", "_law_name", "_law_fits"] ["_law_error"] (L2.defScope (top 44)) := sc_by (by decide +kernel)
noncomputable def den_law_kinds : MD := defD 4
 ((sSeq (sAsgB 1 (dLst (aCons (dTup (aCons (dC (.str "row")) (aCons (dIsX xt_BadRow (dVar 0)) aNil))) (aCons (dTup (aCons (dC (.str "face")) (aCons (dIsX xt_BadFace (dVar 0)) aNil))) aNil))))
 (sSeq (sAsgB 1 (d2 addD (dVar 1) (dLst (aCons (dTup (aCons (dC (.str "making")) (aCons (dIsX xt_BadMaking (dVar 0)) aNil))) (aCons (dTup (aCons (dC (.str "user")) (aCons (dIsX xt_BadUser (dVar 0)) aNil))) aNil)))))
 (sSeq (sAsgB 1 (d2 addD (dVar 1) (dLst (aCons (dTup (aCons (dC (.str "steps")) (aCons (dIsX xt_BadSteps (dVar 0)) aNil))) (aCons (dTup (aCons (dC (.str "lead")) (aCons (dIsX xt_BadLead (dVar 0)) aNil))) aNil)))))
 (sSeq (sAsgB 1 (d2 addD (dVar 1) (dLst (aCons (dTup (aCons (dC (.str "apart")) (aCons (dIsX xt_ToldApart (dVar 0)) aNil))) (aCons (dTup (aCons (dC (.str "place")) (aCons (dIsX xt_OutOfPlace (dVar 0)) aNil))) aNil)))))
 (sSeq (sAsgB 1 (d2 addD (dVar 1) (dLst (aCons (dTup (aCons (dC (.str "great")) (aCons (dIsX xt_TooGreat (dVar 0)) aNil))) (aCons (dTup (aCons (dC (.str "paper")) (aCons (dIsX xt_BadPaper (dVar 0)) aNil))) aNil)))))
 (sSeq (sAsgB 1 (d2 addD (dVar 1) (dLst (aCons (dTup (aCons (dC (.str "program")) (aCons (dIsX xt_BadProgram (dVar 0)) aNil))) (aCons (dTup (aCons (dC (.str "module")) (aCons (dIsX xt_BadModule (dVar 0)) aNil))) aNil)))))
 (sSeq (sAsgB 1 (d2 addD (dVar 1) (dLst (aCons (dTup (aCons (dC (.str "refused")) (aCons (dIsX xt_Refused (dVar 0)) aNil))) (aCons (dTup (aCons (dC (.str "use")) (aCons (dIsX xt_BadUse (dVar 0)) aNil))) aNil)))))
 (sSeq (sDrop (dMt "list" appD (dVar 1) (aCons (dTup (aCons (dC (.str "input")) (aCons (dIsX xt_BadInput (dVar 0)) aNil))) aNil)))
 (sSeq (sDrop (dMt "list" appD (dVar 1) (aCons (dTup (aCons (dC (.str "other")) (aCons (dOr (dNot (dIsX xt_ValueError (dVar 0))) (dNot (dIsX xt_FaceError (dVar 0)))) aNil))) aNil)))
 (sRet (dCompB (itBox (dVar 1)) (tTup (tsCons (tName 2) (tsCons (tName 3) tsNil))) (dTru (dVar 3)) (dVar 2) [2, 3]))))))))))))
theorem g_law_kinds (T : Txt w K mg base X_BadFace X_BadInput X_BadLead X_BadMaking X_BadModule X_BadPaper X_BadProgram X_BadRow X_BadSteps X_BadUse X_BadUser X_FaceError X_OutOfPlace X_Refused X_ToldApart X_TooGreat) : Cl P w K mg base 1 "_law_kinds" 1 den_law_kinds := cl_of (k := 0) T.d_law_kinds sc_law_kinds fun f cdv A outer s H E Z =>
 (ss_cons
 (s_asgB (i := 1) sc_law_kinds.nd (by rfl) (by first | exact Or.inl rfl | exact Or.inr rfl) (d_lst (a_cons (d_tup (a_cons d_str (a_cons (d_isx T.xf_BadRow (d_var 0) (by rfl) T.n_isinstance (by rfl) T.gx_BadRow) a_nil))) (a_cons (d_tup (a_cons d_str (a_cons (d_isx T.xf_BadFace (d_var 0) (by rfl) T.n_isinstance (by rfl) T.gx_BadFace) a_nil))) a_nil)))) (ss_cons
 (s_asgB (i := 1) sc_law_kinds.nd (by rfl) (by first | exact Or.inl rfl | exact Or.inr rfl) (d_op op_addD (d_var 1) (d_lst (a_cons (d_tup (a_cons d_str (a_cons (d_isx T.xf_BadMaking (d_var 0) (by rfl) T.n_isinstance (by rfl) T.gx_BadMaking) a_nil))) (a_cons (d_tup (a_cons d_str (a_cons (d_isx T.xf_BadUser (d_var 0) (by rfl) T.n_isinstance (by rfl) T.gx_BadUser) a_nil))) a_nil))))) (ss_cons
 (s_asgB (i := 1) sc_law_kinds.nd (by rfl) (by first | exact Or.inl rfl | exact Or.inr rfl) (d_op op_addD (d_var 1) (d_lst (a_cons (d_tup (a_cons d_str (a_cons (d_isx T.xf_BadSteps (d_var 0) (by rfl) T.n_isinstance (by rfl) T.gx_BadSteps) a_nil))) (a_cons (d_tup (a_cons d_str (a_cons (d_isx T.xf_BadLead (d_var 0) (by rfl) T.n_isinstance (by rfl) T.gx_BadLead) a_nil))) a_nil))))) (ss_cons
 (s_asgB (i := 1) sc_law_kinds.nd (by rfl) (by first | exact Or.inl rfl | exact Or.inr rfl) (d_op op_addD (d_var 1) (d_lst (a_cons (d_tup (a_cons d_str (a_cons (d_isx T.xf_ToldApart (d_var 0) (by rfl) T.n_isinstance (by rfl) T.gx_ToldApart) a_nil))) (a_cons (d_tup (a_cons d_str (a_cons (d_isx T.xf_OutOfPlace (d_var 0) (by rfl) T.n_isinstance (by rfl) T.gx_OutOfPlace) a_nil))) a_nil))))) (ss_cons
 (s_asgB (i := 1) sc_law_kinds.nd (by rfl) (by first | exact Or.inl rfl | exact Or.inr rfl) (d_op op_addD (d_var 1) (d_lst (a_cons (d_tup (a_cons d_str (a_cons (d_isx T.xf_TooGreat (d_var 0) (by rfl) T.n_isinstance (by rfl) T.gx_TooGreat) a_nil))) (a_cons (d_tup (a_cons d_str (a_cons (d_isx T.xf_BadPaper (d_var 0) (by rfl) T.n_isinstance (by rfl) T.gx_BadPaper) a_nil))) a_nil))))) (ss_cons
 (s_asgB (i := 1) sc_law_kinds.nd (by rfl) (by first | exact Or.inl rfl | exact Or.inr rfl) (d_op op_addD (d_var 1) (d_lst (a_cons (d_tup (a_cons d_str (a_cons (d_isx T.xf_BadProgram (d_var 0) (by rfl) T.n_isinstance (by rfl) T.gx_BadProgram) a_nil))) (a_cons (d_tup (a_cons d_str (a_cons (d_isx T.xf_BadModule (d_var 0) (by rfl) T.n_isinstance (by rfl) T.gx_BadModule) a_nil))) a_nil))))) (ss_cons
 (s_asgB (i := 1) sc_law_kinds.nd (by rfl) (by first | exact Or.inl rfl | exact Or.inr rfl) (d_op op_addD (d_var 1) (d_lst (a_cons (d_tup (a_cons d_str (a_cons (d_isx T.xf_Refused (d_var 0) (by rfl) T.n_isinstance (by rfl) T.gx_Refused) a_nil))) (a_cons (d_tup (a_cons d_str (a_cons (d_isx T.xf_BadUse (d_var 0) (by rfl) T.n_isinstance (by rfl) T.gx_BadUse) a_nil))) a_nil))))) (ss_cons
 (s_drop (d_mt F.plainAttrs_list F.slot_list_append F.type_list_append mt_appD (d_var 1) (a_cons (d_tup (a_cons d_str (a_cons (d_isx T.xf_BadInput (d_var 0) (by rfl) T.n_isinstance (by rfl) T.gx_BadInput) a_nil))) a_nil))) (ss_cons
 (s_drop (d_mt F.plainAttrs_list F.slot_list_append F.type_list_append mt_appD (d_var 1) (a_cons (d_tup (a_cons d_str (a_cons (d_or (d_not (d_isxB (S := "ValueError") T.xf_ValueError (d_var 0) (by rfl) T.n_isinstance (by rfl) T.n_ValueError (by rfl))) (d_one (d_not (d_isx T.xf_FaceError (d_var 0) (by rfl) T.n_isinstance (by rfl) T.gx_FaceError)))) a_nil))) a_nil))) (ss_one
 (s_ret (d_compI Z.calm sc_law_kinds.nd (i_box (d_var 1)) (blkOk_by (own := [("_law_name", 2), ("_law_fits", 3)]) (by kernel_rfl)) (fun _ _ _ _ _ => (g_tup Z.calm (gs_cons (g_name sc_law_kinds.nd (by rfl) (by first | exact Or.inl rfl | exact Or.inr rfl)) (gs_cons (g_name sc_law_kinds.nd (by rfl) (by first | exact Or.inl rfl | exact Or.inr rfl)) gs_nil)) (len_cons (len_cons (fun _ _ _ h => len_nil h))))) (fun _ _ _ _ _ => (ts_one (t_tru (d_var 3)))) (fun _ _ _ _ _ => (d_var 2)) (by decide)))))))))))))
theorem sc_law_draw : FnScope ["_law_cell", "_law_k"] ["_law_cell", "_law_k"] (L2.defScope (top 45)) := sc_by (by decide +kernel)
def den_law_draw : MD := defD 2
 ((sRet (dDisp [("left", (dIf (tst (d2 geD (dVar 0) (d2 powD (dC (.int 10)) (dC (.int 18))))) (dVar 0) (dC (.int 0)))), ("seed", (dFn 2 den_law_mixed (aCons (dVar 0) (aCons (dVar 1) aNil)))), ("turns", (dVar 1))])))
theorem g_law_draw (T : Txt w K mg base X_BadFace X_BadInput X_BadLead X_BadMaking X_BadModule X_BadPaper X_BadProgram X_BadRow X_BadSteps X_BadUse X_BadUser X_FaceError X_OutOfPlace X_Refused X_ToldApart X_TooGreat) : Cl P w K mg base 2 "_law_draw" 2 den_law_draw := cl_of (k := 1) T.d_law_draw sc_law_draw fun f cdv A outer s H E Z =>
 (ss_one
 (s_ret (d_disp [("left", (dIf (tst (d2 geD (dVar 0) (d2 powD (dC (.int 10)) (dC (.int 18))))) (dVar 0) (dC (.int 0)))), ("seed", (dFn 2 den_law_mixed (aCons (dVar 0) (aCons (dVar 1) aNil)))), ("turns", (dVar 1))] (pps_cons pe_str (d_if (t_cmp op_geD (d_var 0) (d_op op_powD d_int d_int) (nomark _)) (d_var 0) d_int).d (pps_cons pe_str (d_c (g_law_mixed T) Z (by decide) (by rfl) (a_cons (d_var 0) (a_cons (d_var 1) a_nil))).d (pps_cons pe_str (d_var 1).d pps_nil))) (by rfl) (by rfl) (by simp) (by decide) (by decide) (by decide +kernel))))
theorem sc_law_digit : FnScope ["_law_state", "_law_many", "_law_found", "_law_j"] ["_law_state", "_law_many"] (L2.defScope (top 46)) := sc_by (by decide +kernel)
def den_law_digit : MD := defD 4
 ((sSeq (sIf (tst (d2 eqX (d2 dgD (dVar 0) (dC (.str "left"))) (dC (.int 0)))) (sSeq (sDput (dVar 0) (dC (.str "turns")) (d2 addD (d2 dgD (dVar 0) (dC (.str "turns"))) (dC (.int 1))))
 (sFor (itA range1D (aCons (dC (.int 4)) aNil)) (tName 3) (sDput (dVar 0) (dC (.str "left")) (d2 addD (d2 mulX (d2 dgD (dVar 0) (dC (.str "left"))) (dC (.int 2147483647))) (dFn 2 den_law_mixed (aCons (d2 dgD (dVar 0) (dC (.str "seed"))) (aCons (d2 addD (d2 mulX (dC (.int 4)) (d2 dgD (dVar 0) (dC (.str "turns")))) (dVar 3)) aNil))))))) sNext)
 (sSeq (sAsg 2 (d2 modD (d2 dgD (dVar 0) (dC (.str "left"))) (dVar 1)))
 (sSeq (sDput (dVar 0) (dC (.str "left")) (d2 fdivD (d2 dgD (dVar 0) (dC (.str "left"))) (dVar 1)))
 (sRet (dVar 2))))))
theorem g_law_digit (T : Txt w K mg base X_BadFace X_BadInput X_BadLead X_BadMaking X_BadModule X_BadPaper X_BadProgram X_BadRow X_BadSteps X_BadUse X_BadUser X_FaceError X_OutOfPlace X_Refused X_ToldApart X_TooGreat) : Cl P w K mg base 2 "_law_digit" 2 den_law_digit := cl_of (k := 1) T.d_law_digit sc_law_digit fun f cdv A outer s H E Z =>
 (ss_cons
 (s_if (t_cmp (op_eqX Z.hu) (d_dg Z.hus (d_var 0) d_str) d_int (nomark _)) (ss_cons
 (s_dput Z.hus (d_var 0) d_str (d_op op_addD (d_dg Z.hus (d_var 0) d_str) d_int)) (ss_one
 (s_for (L2.passes_of rfl) Z.calm (i_range1 (by rfl) T.n_range (a_cons d_int a_nil)) (g_name sc_law_digit.nd (by rfl) (by first | exact Or.inl rfl | exact Or.inr rfl)) (ss_one
 (s_dput Z.hus (d_var 0) d_str (d_op op_addD (d_op op_mulX (d_dg Z.hus (d_var 0) d_str) d_int) (d_c (g_law_mixed T) Z (by decide) (by rfl) (a_cons (d_dg Z.hus (d_var 0) d_str) (a_cons (d_op op_addD (d_op op_mulX d_int (d_dg Z.hus (d_var 0) d_str)) (d_var 3)) a_nil))))))))) ss_nil) (ss_cons
 (s_asg (i := 2) sc_law_digit.nd (by rfl) (by first | exact Or.inl rfl | exact Or.inr rfl) (d_op op_modD (d_dg Z.hus (d_var 0) d_str) (d_var 1))) (ss_cons
 (s_dput Z.hus (d_var 0) d_str (d_op op_fdivD (d_dg Z.hus (d_var 0) d_str) (d_var 1))) (ss_one
 (s_ret (d_var 2))))))
theorem sc_law_names : FnScope ["_law_state", "_law_many", "_law_found", "_law_k", "_law_signs", "_law_word", "_law_j"] ["_law_state", "_law_many"] (L2.defScope (top 47)) := sc_by (by decide +kernel)
def den_law_names : MD := defD 7
 ((sSeq (sAsgB 2 (dLst aNil))
 (sSeq (sFor (itA range1D (aCons (d2 mulX (dC (.int 2)) (dVar 1)) aNil)) (tName 3) (sSeq (sAsg 4 (dComp (itA range1D (aCons (d2 addD (dC (.int 1)) (dFn 2 den_law_digit (aCons (dVar 0) (aCons (dC (.int 8)) aNil)))) aNil)) (tName 6) bYes (d2 ixD (dC (.str "abcdefghijklmnopqrstuvwxyz")) (dFn 2 den_law_digit (aCons (dVar 0) (aCons (dC (.int 26)) aNil)))) [6]))
 (sSeq (sAsg 5 (d2 ixD (dLst (aCons (dMt "str" joinD (dC (.str "")) (aCons (dVar 4) aNil)) (aCons (dC (.str "a")) (aCons (dC (.str "b")) (aCons (dC (.str "ab")) (aCons (dC (.str "ba")) (aCons (dC (.str "abc")) (aCons (dC (.str "hidden")) aNil)))))))) (dFn 2 den_law_digit (aCons (dVar 0) (aCons (dC (.int 7)) aNil)))))
 (sIf (bAnd (tst (d2 notInD (dVar 5) (dVar 2))) (tst (d2 ltD (dCl lenD (aCons (dVar 2) aNil)) (dVar 1)))) (sDrop (dMt "list" appD (dVar 2) (aCons (dVar 5) aNil))) sNext))))
 (sRet (dCl sortedD (aCons (dVar 2) aNil))))))
theorem g_law_names (T : Txt w K mg base X_BadFace X_BadInput X_BadLead X_BadMaking X_BadModule X_BadPaper X_BadProgram X_BadRow X_BadSteps X_BadUse X_BadUser X_FaceError X_OutOfPlace X_Refused X_ToldApart X_TooGreat) : Cl P w K mg base 3 "_law_names" 2 den_law_names := cl_of (k := 2) T.d_law_names sc_law_names fun f cdv A outer s H E Z =>
 (ss_cons
 (s_asgB (i := 2) sc_law_names.nd (by rfl) (by first | exact Or.inl rfl | exact Or.inr rfl) (d_lst a_nil)) (ss_cons
 (s_for (L2.passes_of rfl) Z.calm (i_range1 (by rfl) T.n_range (a_cons (d_op op_mulX d_int (d_var 1)) a_nil)) (g_name sc_law_names.nd (by rfl) (by first | exact Or.inl rfl | exact Or.inr rfl)) (ss_cons
 (s_comp (i := 4) Z.calm sc_law_names.nd (by rfl) (by rfl) (by rfl) (i_range1 (by rfl) T.n_range (a_cons (d_op op_addD d_int (d_c (g_law_digit T) Z (by decide) (by rfl) (a_cons (d_var 0) (a_cons d_int a_nil)))) a_nil)) (blkOk_by (own := [("_law_j", 6)]) (by kernel_rfl)) (fun _ _ _ _ _ => (g_name sc_law_names.nd (by rfl) (by first | exact Or.inl rfl | exact Or.inr rfl))) (fun _ _ _ _ _ => ts_nil) (fun _ _ _ _ _ => (d_ix d_str (d_c (g_law_digit T) Z.blk (by decide) (by rfl) (a_cons (d_var 0) (a_cons d_int a_nil))))) (by decide)) (ss_cons
 (s_asg (i := 5) sc_law_names.nd (by rfl) (by first | exact Or.inl rfl | exact Or.inr rfl) (d_ix (d_lst (a_cons (d_mt F.plainAttrs_str F.slot_str_join F.type_str_join mt_joinD d_str (a_cons (d_var 4) a_nil)) (a_cons d_str (a_cons d_str (a_cons d_str (a_cons d_str (a_cons d_str (a_cons d_str a_nil)))))))) (d_c (g_law_digit T) Z (by decide) (by rfl) (a_cons (d_var 0) (a_cons d_int a_nil))))) (ss_one
 (s_if (t_w (w_and (t_cmp (op_notInD Z.hu1) (d_var 5) (d_var 2) (by with_unfolding_all rfl)) (w_and1 (t_cmp op_ltD (d_callB cl_len (by rfl) T.n_len bt_len (a_cons (d_var 2) a_nil)) (d_var 1) (nomark _))))) (ss_one
 (s_drop (d_mt F.plainAttrs_list F.slot_list_append F.type_list_append mt_appD (d_var 2) (a_cons (d_var 5) a_nil)))) ss_nil))))) (ss_one
 (s_ret (d_callB cl_sorted (by rfl) T.n_sorted bt_sorted (a_cons (d_var 2) a_nil))))))
theorem sc_law_kind : FnScope ["_law_state", "_law_hidden", "_law_own"] ["_law_state", "_law_hidden"] (L2.defScope (top 48)) := sc_by (by decide +kernel)
def den_law_kind : MD := defD 3
 ((sSeq (sAsg 2 (d2 addD (dC (.int 2)) (dFn 2 den_law_digit (aCons (dVar 0) (aCons (dC (.int 8)) aNil)))))
 (sRet (d2 ixD (d2 addD (d2 addD (dCl listD (aCons (dVar 1) aNil)) (dCl listD (aCons (dVar 1) aNil))) (dLst (aCons (dC (.int 2)) (aCons (dC (.int 9)) (aCons (dVar 2) aNil))))) (dFn 2 den_law_digit (aCons (dVar 0) (aCons (d2 addD (d2 mulX (dC (.int 2)) (dCl lenD (aCons (dVar 1) aNil))) (dC (.int 3))) aNil)))))))
theorem g_law_kind (T : Txt w K mg base X_BadFace X_BadInput X_BadLead X_BadMaking X_BadModule X_BadPaper X_BadProgram X_BadRow X_BadSteps X_BadUse X_BadUser X_FaceError X_OutOfPlace X_Refused X_ToldApart X_TooGreat) : Cl P w K mg base 3 "_law_kind" 2 den_law_kind := cl_of (k := 2) T.d_law_kind sc_law_kind fun f cdv A outer s H E Z =>
 (ss_cons
 (s_asg (i := 2) sc_law_kind.nd (by rfl) (by first | exact Or.inl rfl | exact Or.inr rfl) (d_op op_addD d_int (d_c (g_law_digit T) Z (by decide) (by rfl) (a_cons (d_var 0) (a_cons d_int a_nil))))) (ss_one
 (s_ret (d_ix (d_op op_addD (d_op op_addD (d_callTy cl_list (by rfl) T.n_list bt_list (a_cons (d_var 1) a_nil)) (d_callTy cl_list (by rfl) T.n_list bt_list (a_cons (d_var 1) a_nil))) (d_lst (a_cons d_int (a_cons d_int (a_cons (d_var 2) a_nil))))) (d_c (g_law_digit T) Z (by decide) (by rfl) (a_cons (d_var 0) (a_cons (d_op op_addD (d_op op_mulX d_int (d_callB cl_len (by rfl) T.n_len bt_len (a_cons (d_var 1) a_nil))) d_int) a_nil)))))))
theorem sc_law_face : FnScope ["_law_state", "_law_most", "_law_hidden", "_law_deeds", "_law_name", "_law_takes", "_law_k", "_law_kind_here", "_law_own", "_law_one"] ["_law_state", "_law_most"] (L2.defScope (top 49)) := sc_by (by decide +kernel)
noncomputable def den_law_face : MD := defD 10
 ((sSeq (sAsg 2 (dCl tupleD (aCons (dFn 2 den_law_names (aCons (dVar 0) (aCons (d2 addD (dC (.int 1)) (dFn 2 den_law_digit (aCons (dVar 0) (aCons (dC (.int 2)) aNil)))) aNil))) aNil)))
 (sSeq (sAsgB 3 (dLst aNil))
 (sSeq (sFor (itSeq (dFn 2 den_law_names (aCons (dVar 0) (aCons (d2 addD (dC (.int 1)) (dFn 2 den_law_digit (aCons (dVar 0) (aCons (dVar 1) aNil)))) aNil)))) (tName 4) (sSeq (sAsgB 5 (dLst aNil))
 (sSeq (sFor (itA range1D (aCons (dFn 2 den_law_digit (aCons (dVar 0) (aCons (dC (.int 4)) aNil))) aNil)) (tName 6) (sSeq (sPar 7 8 (aCons (dFn 2 den_law_kind (aCons (dVar 0) (aCons (dVar 2) aNil))) (aCons (d2 addD (dC (.int 2)) (dFn 2 den_law_digit (aCons (dVar 0) (aCons (dC (.int 8)) aNil)))) aNil)))
 (sDrop (dMt "list" appD (dVar 5) (aCons (dIf (tst (d2 eqX (dCl lenD (aCons (dCompB (itBox (dVar 5)) (tName 9) (tst (d2 inD (dVar 9) (dVar 2))) (dVar 9) [9]) aNil)) (dC (.int 2)))) (dVar 8) (dVar 7)) aNil)))))
 (sDrop (dMt "list" appD (dVar 3) (aCons (dTup (aCons (dVar 4) (aCons (dCl tupleD (aCons (dVar 5) aNil)) (aCons (dFn 2 den_law_kind (aCons (dVar 0) (aCons (dVar 2) aNil))) aNil)))) aNil))))))
 (sRet (dTup (aCons (dVar 2) (aCons (dCl tupleD (aCons (dVar 3) aNil)) aNil))))))))
theorem g_law_face (T : Txt w K mg base X_BadFace X_BadInput X_BadLead X_BadMaking X_BadModule X_BadPaper X_BadProgram X_BadRow X_BadSteps X_BadUse X_BadUser X_FaceError X_OutOfPlace X_Refused X_ToldApart X_TooGreat) : Cl P w K mg base 4 "_law_face" 2 den_law_face := cl_of (k := 3) T.d_law_face sc_law_face fun f cdv A outer s H E Z =>
 (ss_cons
 (s_asg (i := 2) sc_law_face.nd (by rfl) (by first | exact Or.inl rfl | exact Or.inr rfl) (d_callTy cl_tuple (by rfl) T.n_tuple bt_tuple (a_cons (d_c (g_law_names T) Z (by decide) (by rfl) (a_cons (d_var 0) (a_cons (d_op op_addD d_int (d_c (g_law_digit T) Z (by decide) (by rfl) (a_cons (d_var 0) (a_cons d_int a_nil)))) a_nil))) a_nil))) (ss_cons
 (s_asgB (i := 3) sc_law_face.nd (by rfl) (by first | exact Or.inl rfl | exact Or.inr rfl) (d_lst a_nil)) (ss_cons
 (s_for (L2.passes_of rfl) Z.calm (i_seq (d_c (g_law_names T) Z (by decide) (by rfl) (a_cons (d_var 0) (a_cons (d_op op_addD d_int (d_c (g_law_digit T) Z (by decide) (by rfl) (a_cons (d_var 0) (a_cons (d_var 1) a_nil)))) a_nil)))) (g_name sc_law_face.nd (by rfl) (by first | exact Or.inl rfl | exact Or.inr rfl)) (ss_cons
 (s_asgB (i := 5) sc_law_face.nd (by rfl) (by first | exact Or.inl rfl | exact Or.inr rfl) (d_lst a_nil)) (ss_cons
 (s_for (L2.passes_of rfl) Z.calm (i_range1 (by rfl) T.n_range (a_cons (d_c (g_law_digit T) Z (by decide) (by rfl) (a_cons (d_var 0) (a_cons d_int a_nil))) a_nil)) (g_name sc_law_face.nd (by rfl) (by first | exact Or.inl rfl | exact Or.inr rfl)) (ss_cons
 (s_par (i := 7) (j := 8) Z.calm sc_law_face.nd (by rfl) (by rfl) (by decide) (by rfl) (by rfl) (a_cons (d_c (g_law_kind T) Z (by decide) (by rfl) (a_cons (d_var 0) (a_cons (d_var 2) a_nil))) (a_cons (d_op op_addD d_int (d_c (g_law_digit T) Z (by decide) (by rfl) (a_cons (d_var 0) (a_cons d_int a_nil)))) a_nil)) (by rfl)) (ss_one
 (s_drop (d_mt F.plainAttrs_list F.slot_list_append F.type_list_append mt_appD (d_var 5) (a_cons (d_if (t_cmp (op_eqX Z.hu) (d_callB cl_len (by rfl) T.n_len bt_len (a_cons (d_compI Z.calm sc_law_face.nd (i_box (d_var 5)) (blkOk_by (own := [("_law_one", 9)]) (by kernel_rfl)) (fun _ _ _ _ _ => (g_name sc_law_face.nd (by rfl) (by first | exact Or.inl rfl | exact Or.inr rfl))) (fun _ _ _ _ _ => (ts_one (t_cmp (op_inD Z.blk.hu1) (d_var 9) (d_var 2) (by with_unfolding_all rfl)))) (fun _ _ _ _ _ => (d_var 9)) (by decide)) a_nil)) d_int (nomark _)) (d_var 8) (d_var 7)) a_nil)))))) (ss_one
 (s_drop (d_mt F.plainAttrs_list F.slot_list_append F.type_list_append mt_appD (d_var 3) (a_cons (d_tup (a_cons (d_var 4) (a_cons (d_callTy cl_tuple (by rfl) T.n_tuple bt_tuple (a_cons (d_var 5) a_nil)) (a_cons (d_c (g_law_kind T) Z (by decide) (by rfl) (a_cons (d_var 0) (a_cons (d_var 2) a_nil))) a_nil)))) a_nil))))))) (ss_one
 (s_ret (d_tup (a_cons (d_var 2) (a_cons (d_callTy cl_tuple (by rfl) T.n_tuple bt_tuple (a_cons (d_var 3) a_nil)) a_nil))))))))
theorem sc_law_refused : FnScope ["_law_way", "_law_face_here", "_law_name", "_law_wrong", "e"] ["_law_way", "_law_face_here", "_law_name"] (L2.defScope (top 50)) := sc_by (by decide +kernel)
noncomputable def den_law_refused : MD := defD 5
 ((sSeq (sAsg 3 (dC .non))
 (sSeq (sTry tr_FaceError 4 3 ((sIf (tst (d2 eqX (dVar 0) (dC (.int 0)))) (sDrop (dFn 2 den_takes_of (aCons (dVar 1) (aCons (dVar 2) aNil)))) (sDrop (dFn 2 den_gives_of (aCons (dVar 1) (aCons (dVar 2) aNil)))))))
 (sRet (dIf (tst (d2 isD (dVar 3) (dC .non))) (dC .non) (dFn 1 den_law_kinds (aCons (dVar 3) aNil)))))))
theorem g_law_refused (T : Txt w K mg base X_BadFace X_BadInput X_BadLead X_BadMaking X_BadModule X_BadPaper X_BadProgram X_BadRow X_BadSteps X_BadUse X_BadUser X_FaceError X_OutOfPlace X_Refused X_ToldApart X_TooGreat) : Cl P w K mg base 10 "_law_refused" 3 den_law_refused := cl_of (k := 9) T.d_law_refused sc_law_refused fun f cdv A outer s H E Z =>
 (ss_cons
 (s_asg (i := 3) sc_law_refused.nd (by rfl) (by first | exact Or.inl rfl | exact Or.inr rfl) d_non) (ss_cons
 (s_try (i := 4) (j := 3) Z sc_law_refused.nd (by rfl) (by rfl) ⟨by rfl, by decide, .inl T.gx_FaceError⟩ T.tf_FaceError (by rfl) (by rfl) (fun W' pn xe Z' ho =>
 (ss_one
 (s_if (t_cmp (op_eqX Z'.hu) (d_var 0) d_int (nomark _)) (ss_one
 (s_drop (d_c (g_takes_of T) Z' (by decide) (by rfl) (a_cons (d_var 1) (a_cons (d_var 2) a_nil))))) (ss_one
 (s_drop (d_c (g_gives_of T) Z' (by decide) (by rfl) (a_cons (d_var 1) (a_cons (d_var 2) a_nil))))))))) (ss_one
 (s_ret (d_if (t_cmp op_isD (d_var 3) d_non (nomark _)) d_non (d_c (g_law_kinds T) Z (by decide) (by rfl) (a_cons (d_var 3) a_nil)))))))
theorem sc_law_right : FnScope ["_law_face_here", "_law_names_here", "_law_again", "_law_told", "_law_deed", "_law_name", "_law_takes", "_law_gives"] ["_law_face_here"] (L2.defScope (top 51)) := sc_by (by decide +kernel)
def den_law_right : MD := defD 8
 ((sSeq (sAsg 1 (dComp (itSeq (d2 ixD (dVar 0) (dC (.int 1)))) (tName 4) bYes (d2 ixD (dVar 4) (dC (.int 0))) [4]))
 (sSeq (sFor (itA range1D (aCons (dC (.int 2)) aNil)) (tName 2) (sSeq (sAsg 3 (dLst (aConsB (dFn 1 den_hidden_of (aCons (dVar 0) aNil)) (aConsB (dFn 1 den_names_of (aCons (dVar 0) aNil)) aNil))))
 (sSeq (sIf (bOr (tst (d2 neX (dCl reprZ (aCons (dVar 3) aNil)) (dCl reprZ (aCons (dLst (aCons (dCl listD (aCons (d2 ixD (dVar 0) (dC (.int 0))) aNil)) (aCons (dVar 1) aNil))) aNil)))) (bOr (tst (d2 isNotD (dFn 1 den_need_face (aCons (dVar 0) aNil)) (dC .non))) (tst (d2 isNotD (dFn 1 den_is_face (aCons (dVar 0) aNil)) (dC (.bl true)))))) (sRet (dC (.bl false))) sNext)
 (sSeq (sDrop (dMt "list" appD (d2 ixD (dVar 3) (dC (.int 0))) (aCons (dC (.str "x")) aNil)))
 (sSeq (sDrop (dMt "list" appD (d2 ixD (dVar 3) (dC (.int 1))) (aCons (dC (.str "x")) aNil)))
 (sFor (itSeq (d2 ixD (dVar 0) (dC (.int 1)))) (tTup (tsCons (tName 5) (tsCons (tName 6) (tsCons (tName 7) tsNil)))) (sIf (tst (d2 neX (dCl reprZ (aCons (dLst (aCons (dFn 2 den_takes_of (aCons (dVar 0) (aCons (dVar 5) aNil))) (aCons (dFn 2 den_gives_of (aCons (dVar 0) (aCons (dVar 5) aNil))) aNil))) aNil)) (dCl reprZ (aCons (dLst (aCons (dVar 6) (aCons (dVar 7) aNil))) aNil)))) (sRet (dC (.bl false))) sNext)))))))
 (sRet (dC (.bl true))))))
theorem g_law_right (T : Txt w K mg base X_BadFace X_BadInput X_BadLead X_BadMaking X_BadModule X_BadPaper X_BadProgram X_BadRow X_BadSteps X_BadUse X_BadUser X_FaceError X_OutOfPlace X_Refused X_ToldApart X_TooGreat) : Cl P w K mg base 10 "_law_right" 1 den_law_right := cl_of (k := 9) T.d_law_right sc_law_right fun f cdv A outer s H E Z =>
 (ss_cons
 (s_comp (i := 1) Z.calm sc_law_right.nd (by rfl) (by rfl) (by rfl) (i_seq (d_ix (d_var 0) d_int)) (blkOk_by (own := [("_law_deed", 4)]) (by kernel_rfl)) (fun _ _ _ _ _ => (g_name sc_law_right.nd (by rfl) (by first | exact Or.inl rfl | exact Or.inr rfl))) (fun _ _ _ _ _ => ts_nil) (fun _ _ _ _ _ => (d_ix (d_var 4) d_int)) (by decide)) (ss_cons
 (s_for (L2.passes_of rfl) Z.calm (i_range1 (by rfl) T.n_range (a_cons d_int a_nil)) (g_name sc_law_right.nd (by rfl) (by first | exact Or.inl rfl | exact Or.inr rfl)) (ss_cons
 (s_asg (i := 3) sc_law_right.nd (by rfl) (by first | exact Or.inl rfl | exact Or.inr rfl) (d_lst (a_consB (d_c (g_hidden_of T) Z (by decide) (by rfl) (a_cons (d_var 0) a_nil)) (a_consB (d_c (g_names_of T) Z (by decide) (by rfl) (a_cons (d_var 0) a_nil)) a_nil)))) (ss_cons
 (s_if (t_w (w_or (t_cmp (op_neX Z.hu) (d_callB (cl_reprZ T.sys Z.guard Z.hu) (by rfl) T.n_repr bt_repr (a_cons (d_var 3) a_nil)) (d_callB (cl_reprZ T.sys Z.guard Z.hu) (by rfl) T.n_repr bt_repr (a_cons (d_lst (a_cons (d_callTy cl_list (by rfl) T.n_list bt_list (a_cons (d_ix (d_var 0) d_int) a_nil)) (a_cons (d_var 1) a_nil))) a_nil)) (nomark _)) (w_or (t_cmp op_isNotD (d_c (g_need_face T) Z (by decide) (by rfl) (a_cons (d_var 0) a_nil)) d_non (nomark _)) (w_or1 (t_cmp op_isNotD (d_c (g_is_face T) Z (by decide) (by rfl) (a_cons (d_var 0) a_nil)) d_bl (nomark _)))))) (ss_one
 (s_ret d_bl)) ss_nil) (ss_cons
 (s_drop (d_mt F.plainAttrs_list F.slot_list_append F.type_list_append mt_appD (d_ix (d_var 3) d_int) (a_cons d_str a_nil))) (ss_cons
 (s_drop (d_mt F.plainAttrs_list F.slot_list_append F.type_list_append mt_appD (d_ix (d_var 3) d_int) (a_cons d_str a_nil))) (ss_one
 (s_for (L2.passes_of rfl) Z.calm (i_seq (d_ix (d_var 0) d_int)) (g_tup Z.calm (gs_cons (g_name sc_law_right.nd (by rfl) (by first | exact Or.inl rfl | exact Or.inr rfl)) (gs_cons (g_name sc_law_right.nd (by rfl) (by first | exact Or.inl rfl | exact Or.inr rfl)) (gs_cons (g_name sc_law_right.nd (by rfl) (by first | exact Or.inl rfl | exact Or.inr rfl)) gs_nil))) (len_cons (len_cons (len_cons (fun _ _ _ h => len_nil h))))) (ss_one
 (s_if (t_cmp (op_neX Z.hu) (d_callB (cl_reprZ T.sys Z.guard Z.hu) (by rfl) T.n_repr bt_repr (a_cons (d_lst (a_cons (d_c (g_takes_of T) Z (by decide) (by rfl) (a_cons (d_var 0) (a_cons (d_var 5) a_nil))) (a_cons (d_c (g_gives_of T) Z (by decide) (by rfl) (a_cons (d_var 0) (a_cons (d_var 5) a_nil))) a_nil))) a_nil)) (d_callB (cl_reprZ T.sys Z.guard Z.hu) (by rfl) T.n_repr bt_repr (a_cons (d_lst (a_cons (d_var 6) (a_cons (d_var 7) a_nil))) a_nil)) (nomark _)) (ss_one
 (s_ret d_bl)) ss_nil))))))))) (ss_one
 (s_ret d_bl))))
theorem sc_law : FnScope ["_law_script", "_law_k", "_law_cell", "_law_state", "_law_which", "_law_names_here", "_law_nobody", "_law_odd", "_law_some", "_law_one", "_law_other", "_law_deed", "_law_word", "_law_kind_here", "_law_j"] ["_law_script"] (L2.defScope (top 52)) := sc_by (by decide +kernel)
noncomputable def den_law : MD := defD 15
 ((sSeq (sFor (itA enumD (aCons (d2 addD (dSl (dVar 0) pNone (pSome (dC (.int 10)))) (dLst (aCons (dCl sumD (aCons (dVar 0) aNil)) aNil))) aNil)) (tTup (tsCons (tName 1) (tsCons (tName 2) tsNil))) (sSeq (sAsg 3 (dFn 2 den_law_draw (aCons (dVar 2) (aCons (dVar 1) aNil))))
 (sSeq (sAsg 4 (dFn 2 den_law_digit (aCons (dVar 3) (aCons (dC (.int 10)) aNil))))
 (sSeq (sTgt (tTup (tsCons (tName 9) (tsCons (tName 10) tsNil))) (dTup (aCons (dFn 2 den_law_face (aCons (dVar 3) (aCons (dC (.int 8)) aNil))) (aCons (dFn 2 den_law_face (aCons (dVar 3) (aCons (dC (.int 3)) aNil))) aNil))))
 (sSeq (sIf (bOr (bNot (dTru (dFn 1 den_law_right (aCons (dVar 9) aNil)))) (bNot (dTru (dFn 1 den_law_right (aCons (dVar 10) aNil))))) (sRet (dC (.bl false))) sNext)
 (sSeq (sAsg 5 (dComp (itSeq (d2 ixD (dVar 9) (dC (.int 1)))) (tName 11) bYes (d2 ixD (dVar 11) (dC (.int 0))) [11]))
 (sSeq (sAsg 6 (d2 ixD (dComp (itSeq (d2 addD (dComp (itA range2D (aCons (dC (.int 1)) (aCons (dC (.int 9)) aNil))) (tName 14) bYes (d2 mulX (dC (.str "z")) (dVar 14)) [14]) (dLst (aCons (dC (.str "y")) aNil)))) (tName 12) (tst (d2 notInD (dVar 12) (dVar 5))) (dVar 12) [12]) (dC (.int 0))))
 (sSeq (sAsg 7 (d2 ixD (dLst (aCons (dVar 6) (aCons (dMt "str" upperD (d2 ixD (dVar 5) (dC (.int 0))) aNil) (aCons (dC (.str "")) (aCons (dC .non) (aCons (dC (.int 7)) (aCons (dC (.bl true)) (aCons (dTup (aCons (dC (.str "a")) aNil)) (aCons (dLst (aCons (dC (.str "a")) aNil)) (aCons (fun _ S => some (.ok (.own (.dct [])) S)) (aCons (d2 addD (d2 ixD (dVar 5) (dNeg (dC (.int 1)))) (dC (.str " "))) aNil))))))))))) (dVar 4)))
 (sSeq (sAsg 8 (d2 addD (dLst (aCons (dVar 7) aNil)) (dComp (itSeq (d2 ixD (dVar 9) (dC (.int 0)))) (tName 13) (tst (d2 notInD (dVar 13) (dVar 5))) (dVar 13) [13])))
 (sSeq (sIf (tst (d2 neX (dComp (itSeq (dVar 8)) (tName 12) (tst (d2 neX (dFn 3 den_law_refused (aCons (dC (.int 0)) (aCons (dVar 9) (aCons (dVar 12) aNil)))) (dLst (aCons (dC (.str "place")) aNil)))) (dVar 12) [12]) (dLst aNil))) (sRet (dC (.bl false))) sNext)
 (sIf (tst (d2 neX (dComp (itSeq (dVar 8)) (tName 12) (tst (d2 neX (dFn 3 den_law_refused (aCons (dC (.int 1)) (aCons (dVar 9) (aCons (dVar 12) aNil)))) (dLst (aCons (dC (.str "place")) aNil)))) (dVar 12) [12]) (dLst aNil))) (sRet (dC (.bl false))) sNext)))))))))))
 (sRet (dC (.bl true)))))
theorem g_law (T : Txt w K mg base X_BadFace X_BadInput X_BadLead X_BadMaking X_BadModule X_BadPaper X_BadProgram X_BadRow X_BadSteps X_BadUse X_BadUser X_FaceError X_OutOfPlace X_Refused X_ToldApart X_TooGreat) : Cl P w K mg base 11 "law" 1 den_law := cl_of (k := 10) T.d_law sc_law fun f cdv A outer s H E Z =>
 (ss_cons
 (s_for (L2.passes_of rfl) Z.calm (i_enum (by rfl) T.n_enumerate (a_cons (d_op op_addD (d_sl (d_var 0) p_none (p_some d_int)) (d_lst (a_cons (d_callB (cl_sum Z.calm) (by rfl) T.n_sum bt_sum (a_cons (d_var 0) a_nil)) a_nil))) a_nil)) (g_tup Z.calm (gs_cons (g_name sc_law.nd (by rfl) (by first | exact Or.inl rfl | exact Or.inr rfl)) (gs_cons (g_name sc_law.nd (by rfl) (by first | exact Or.inl rfl | exact Or.inr rfl)) gs_nil)) (len_cons (len_cons (fun _ _ _ h => len_nil h)))) (ss_cons
 (s_asg (i := 3) sc_law.nd (by rfl) (by first | exact Or.inl rfl | exact Or.inr rfl) (d_c (g_law_draw T) Z (by decide) (by rfl) (a_cons (d_var 2) (a_cons (d_var 1) a_nil)))) (ss_cons
 (s_asg (i := 4) sc_law.nd (by rfl) (by first | exact Or.inl rfl | exact Or.inr rfl) (d_c (g_law_digit T) Z (by decide) (by rfl) (a_cons (d_var 3) (a_cons d_int a_nil)))) (ss_cons
 (s_tgt (d_tup (a_cons (d_c (g_law_face T) Z (by decide) (by rfl) (a_cons (d_var 3) (a_cons d_int a_nil))) (a_cons (d_c (g_law_face T) Z (by decide) (by rfl) (a_cons (d_var 3) (a_cons d_int a_nil))) a_nil))) (g_tup Z.calm (gs_cons (g_name sc_law.nd (by rfl) (by first | exact Or.inl rfl | exact Or.inr rfl)) (gs_cons (g_name sc_law.nd (by rfl) (by first | exact Or.inl rfl | exact Or.inr rfl)) gs_nil)) (len_cons (len_cons (fun _ _ _ h => len_nil h))))) (ss_cons
 (s_if (t_w (w_or (t_not (t_tru (d_c (g_law_right T) Z (by decide) (by rfl) (a_cons (d_var 9) a_nil)))) (w_or1 (t_not (t_tru (d_c (g_law_right T) Z (by decide) (by rfl) (a_cons (d_var 10) a_nil))))))) (ss_one
 (s_ret d_bl)) ss_nil) (ss_cons
 (s_asg (i := 5) sc_law.nd (by rfl) (by first | exact Or.inl rfl | exact Or.inr rfl) (d_comp Z.calm sc_law.nd (i_seq (d_ix (d_var 9) d_int)) (blkOk_by (own := [("_law_deed", 11)]) (by kernel_rfl)) (fun _ _ _ _ _ => (g_name sc_law.nd (by rfl) (by first | exact Or.inl rfl | exact Or.inr rfl))) (fun _ _ _ _ _ => ts_nil) (fun _ _ _ _ _ => (d_ix (d_var 11) d_int)) (by decide))) (ss_cons
 (s_asg (i := 6) sc_law.nd (by rfl) (by first | exact Or.inl rfl | exact Or.inr rfl) (d_ix (d_comp Z.calm sc_law.nd (i_seq (d_op op_addD (d_comp Z.calm sc_law.nd (i_range2 (by rfl) T.n_range (a_cons d_int (a_cons d_int a_nil))) (blkOk_by (own := [("_law_j", 14)]) (by kernel_rfl)) (fun _ _ _ _ _ => (g_name sc_law.nd (by rfl) (by first | exact Or.inl rfl | exact Or.inr rfl))) (fun _ _ _ _ _ => ts_nil) (fun _ _ _ _ _ => (d_op op_mulX d_str (d_var 14))) (by decide)) (d_lst (a_cons d_str a_nil)))) (blkOk_by (own := [("_law_word", 12)]) (by kernel_rfl)) (fun _ _ _ _ _ => (g_name sc_law.nd (by rfl) (by first | exact Or.inl rfl | exact Or.inr rfl))) (fun _ _ _ _ _ => (ts_one (t_cmp (op_notInD Z.blk.hu1) (d_var 12) (d_var 5) (by with_unfolding_all rfl)))) (fun _ _ _ _ _ => (d_var 12)) (by decide)) d_int)) (ss_cons
 (s_asg (i := 7) sc_law.nd (by rfl) (by first | exact Or.inl rfl | exact Or.inr rfl) (d_ix (d_lst (a_cons (d_var 6) (a_cons (d_mt0 F.plainAttrs_str F.slot_str_upper F.type_str_upper mt_upperD (d_ix (d_var 5) d_int)) (a_cons d_str (a_cons d_non (a_cons d_int (a_cons d_bl (a_cons (d_tup (a_cons d_str a_nil)) (a_cons (d_lst (a_cons d_str a_nil)) (a_cons d_dnew (a_cons (d_op op_addD (d_ix (d_var 5) (d_neg d_int)) d_str) a_nil))))))))))) (d_var 4))) (ss_cons
 (s_asg (i := 8) sc_law.nd (by rfl) (by first | exact Or.inl rfl | exact Or.inr rfl) (d_op op_addD (d_lst (a_cons (d_var 7) a_nil)) (d_comp Z.calm sc_law.nd (i_seq (d_ix (d_var 9) d_int)) (blkOk_by (own := [("_law_kind_here", 13)]) (by kernel_rfl)) (fun _ _ _ _ _ => (g_name sc_law.nd (by rfl) (by first | exact Or.inl rfl | exact Or.inr rfl))) (fun _ _ _ _ _ => (ts_one (t_cmp (op_notInD Z.blk.hu1) (d_var 13) (d_var 5) (by with_unfolding_all rfl)))) (fun _ _ _ _ _ => (d_var 13)) (by decide)))) (ss_cons
 (s_if (t_cmp (op_neX Z.hu) (d_comp Z.calm sc_law.nd (i_seq (d_var 8)) (blkOk_by (own := [("_law_word", 12)]) (by kernel_rfl)) (fun _ _ _ _ _ => (g_name sc_law.nd (by rfl) (by first | exact Or.inl rfl | exact Or.inr rfl))) (fun _ _ _ _ _ => (ts_one (t_cmp (op_neX Z.blk.hu) (d_c (g_law_refused T) Z.blk (by decide) (by rfl) (a_cons d_int (a_cons (d_var 9) (a_cons (d_var 12) a_nil)))) (d_lst (a_cons d_str a_nil)) (nomark _)))) (fun _ _ _ _ _ => (d_var 12)) (by decide)) (d_lst a_nil) (nomark _)) (ss_one
 (s_ret d_bl)) ss_nil) (ss_one
 (s_if (t_cmp (op_neX Z.hu) (d_comp Z.calm sc_law.nd (i_seq (d_var 8)) (blkOk_by (own := [("_law_word", 12)]) (by kernel_rfl)) (fun _ _ _ _ _ => (g_name sc_law.nd (by rfl) (by first | exact Or.inl rfl | exact Or.inr rfl))) (fun _ _ _ _ _ => (ts_one (t_cmp (op_neX Z.blk.hu) (d_c (g_law_refused T) Z.blk (by decide) (by rfl) (a_cons d_int (a_cons (d_var 9) (a_cons (d_var 12) a_nil)))) (d_lst (a_cons d_str a_nil)) (nomark _)))) (fun _ _ _ _ _ => (d_var 12)) (by decide)) (d_lst a_nil) (nomark _)) (ss_one
 (s_ret d_bl)) ss_nil)))))))))))) (ss_one
 (s_ret d_bl)))
end
end W03
namespace W03
open Sf L2 PySem PySem.Spec PyProof.Rows
def wholeB : D → Bool
  | .int _ => true
  | _ => false
theorem e_whole {w p : Nat} {d : D} (S : Sto) (h : Fit w p d) : den_is_whole [d] S = some (.ok (.val (.bl (wholeB d))) S) := by
  cases d <;> first | rfl | exact absurd rfl (h.kind.1 _) | exact absurd rfl (h.kind.2 _)
def amongB (d : D) (lo hi : Int) : Bool := match d with
  | .int i => decide (lo ≤ i) && decide (i ≤ hi)
  | _ => false
theorem e_among {w p : Nat} {d : D} (S : Sto) (lo hi : Int) (h : Fit w p d) : den_is_among [d, .int lo, .int hi] S = some (.ok (.val (.bl (amongB d lo hi))) S) := by
  have e := e_whole S h
  cases d <;> first | (simp only [den_is_among, x_bnd, x_bnS, x_c, x_var, x_varK, x_stl, x_stlV, x_stlL, x_stlE, x_stlD, x_bxd, x_bxV, x_bxK, x_okv, x_okm, x_d2, x_d2K, x_d2L, x_tst, x_tstK, x_ch, x_chK, x_chL, x_chMt, x_chMf, x_chN, x_and, x_andK, x_andT, x_andF, x_or, x_orK, x_orT, x_orF, x_not, x_notK, x_notL, x_tru, x_truK, x_truL, x_band, x_bandT, x_bandF, x_bor, x_borT, x_borF, x_bnot, x_bnotK, x_dif, x_difT, x_difF, x_anil, x_acons, x_aK, x_aL, x_tup, x_tupK, x_lst, x_lstK, x_cl, x_clK, x_fn, x_fnK, x_isi, x_isiK, x_isiL, x_neg, x_negK, x_revL, x_kget, x_kgetK, x_sl, x_slK, x_slL, x_pnone, x_psome, x_psK, x_mt, x_mtK, x_mtL, x_itA, x_itAK, x_itL, x_itSeq, x_seqK, x_itStr, x_istrK, x_comp, x_compK, x_compL, x_wipe1, x_wipe2, x_seq, x_sqN, x_sqR, x_sqB, x_sqC, x_next, x_ret, x_retK, x_retN, x_asg, x_asgB, x_asgK, x_drop, x_dropK, x_if, x_ifT, x_ifF, x_for, x_forK, x_tgt, x_tgtK, x_tgtL, x_tname, x_par, x_parK, x_dput, x_dputK, x_dputK1, x_dputK2, x_dputL, x_def, x_defR, x_defN, y_add, y_sub, y_mul, y_mulX, y_mod, y_fdiv, y_lt, y_le, y_gt, y_ge, y_eqI, y_eqS, y_neI, y_neS, y_eqYI, y_eqYS, y_neYI, y_neYS, y_ixT, y_ixL, y_trB, y_k0, y_k1, y_k2, y_k3, y_k4, y_k5, y_k6, y_lenT, y_lenL, y_lenS, startE, List.map_cons, List.map_nil, List.length_cons, List.length_nil, List.replicate, List.cons_append, List.nil_append, List.append_nil, Nat.sub_self, Nat.reduceSub, Nat.reduceAdd, Nat.reduceLeDiff, Nat.reduceEqDiff, Nat.zero_add, Nat.zero_le, Nat.sub_zero, List.set_cons_zero, List.set_cons_succ, List.getElem?_cons_zero, List.getElem?_cons_succ, Bool.not_true, Bool.not_false, decide_true, decide_false, e, wholeB, amongB]; done) | exact absurd rfl (h.kind.1 _) | exact absurd rfl (h.kind.2 _) | skip
  rename_i i
  simp only [den_is_among, x_bnd, x_bnS, x_c, x_var, x_varK, x_stl, x_stlV, x_stlL, x_stlE, x_stlD, x_bxd, x_bxV, x_bxK, x_okv, x_okm, x_d2, x_d2K, x_d2L, x_tst, x_tstK, x_ch, x_chK, x_chL, x_chMt, x_chMf, x_chN, x_and, x_andK, x_andT, x_andF, x_or, x_orK, x_orT, x_orF, x_not, x_notK, x_notL, x_tru, x_truK, x_truL, x_band, x_bandT, x_bandF, x_bor, x_borT, x_borF, x_bnot, x_bnotK, x_dif, x_difT, x_difF, x_anil, x_acons, x_aK, x_aL, x_tup, x_tupK, x_lst, x_lstK, x_cl, x_clK, x_fn, x_fnK, x_isi, x_isiK, x_isiL, x_neg, x_negK, x_revL, x_kget, x_kgetK, x_sl, x_slK, x_slL, x_pnone, x_psome, x_psK, x_mt, x_mtK, x_mtL, x_itA, x_itAK, x_itL, x_itSeq, x_seqK, x_itStr, x_istrK, x_comp, x_compK, x_compL, x_wipe1, x_wipe2, x_seq, x_sqN, x_sqR, x_sqB, x_sqC, x_next, x_ret, x_retK, x_retN, x_asg, x_asgB, x_asgK, x_drop, x_dropK, x_if, x_ifT, x_ifF, x_for, x_forK, x_tgt, x_tgtK, x_tgtL, x_tname, x_par, x_parK, x_dput, x_dputK, x_dputK1, x_dputK2, x_dputL, x_def, x_defR, x_defN, y_add, y_sub, y_mul, y_mulX, y_mod, y_fdiv, y_lt, y_le, y_gt, y_ge, y_eqI, y_eqS, y_neI, y_neS, y_eqYI, y_eqYS, y_neYI, y_neYS, y_ixT, y_ixL, y_trB, y_k0, y_k1, y_k2, y_k3, y_k4, y_k5, y_k6, y_lenT, y_lenL, y_lenS, startE, List.map_cons, List.map_nil, List.length_cons, List.length_nil, List.replicate, List.cons_append, List.nil_append, List.append_nil, Nat.sub_self, Nat.reduceSub, Nat.reduceAdd, Nat.reduceLeDiff, Nat.reduceEqDiff, Nat.zero_add, Nat.zero_le, Nat.sub_zero, List.set_cons_zero, List.set_cons_succ, List.getElem?_cons_zero, List.getElem?_cons_succ, Bool.not_true, Bool.not_false, decide_true, decide_false, e, wholeB, amongB]
  by_cases h1 : lo ≤ i
  · simp only [decide_eq_true h1, Bool.true_and, x_bnd, x_bnS, x_c, x_var, x_varK, x_stl, x_stlV, x_stlL, x_stlE, x_stlD, x_bxd, x_bxV, x_bxK, x_okv, x_okm, x_d2, x_d2K, x_d2L, x_tst, x_tstK, x_ch, x_chK, x_chL, x_chMt, x_chMf, x_chN, x_and, x_andK, x_andT, x_andF, x_or, x_orK, x_orT, x_orF, x_not, x_notK, x_notL, x_tru, x_truK, x_truL, x_band, x_bandT, x_bandF, x_bor, x_borT, x_borF, x_bnot, x_bnotK, x_dif, x_difT, x_difF, x_anil, x_acons, x_aK, x_aL, x_tup, x_tupK, x_lst, x_lstK, x_cl, x_clK, x_fn, x_fnK, x_isi, x_isiK, x_isiL, x_neg, x_negK, x_revL, x_kget, x_kgetK, x_sl, x_slK, x_slL, x_pnone, x_psome, x_psK, x_mt, x_mtK, x_mtL, x_itA, x_itAK, x_itL, x_itSeq, x_seqK, x_itStr, x_istrK, x_comp, x_compK, x_compL, x_wipe1, x_wipe2, x_seq, x_sqN, x_sqR, x_sqB, x_sqC, x_next, x_ret, x_retK, x_retN, x_asg, x_asgB, x_asgK, x_drop, x_dropK, x_if, x_ifT, x_ifF, x_for, x_forK, x_tgt, x_tgtK, x_tgtL, x_tname, x_par, x_parK, x_dput, x_dputK, x_dputK1, x_dputK2, x_dputL, x_def, x_defR, x_defN, y_add, y_sub, y_mul, y_mulX, y_mod, y_fdiv, y_lt, y_le, y_gt, y_ge, y_eqI, y_eqS, y_neI, y_neS, y_eqYI, y_eqYS, y_neYI, y_neYS, y_ixT, y_ixL, y_trB, y_k0, y_k1, y_k2, y_k3, y_k4, y_k5, y_k6, y_lenT, y_lenL, y_lenS, startE, List.map_cons, List.map_nil, List.length_cons, List.length_nil, List.replicate, List.cons_append, List.nil_append, List.append_nil, Nat.sub_self, Nat.reduceSub, Nat.reduceAdd, Nat.reduceLeDiff, Nat.reduceEqDiff, Nat.zero_add, Nat.zero_le, Nat.sub_zero, List.set_cons_zero, List.set_cons_succ, List.getElem?_cons_zero, List.getElem?_cons_succ, Bool.not_true, Bool.not_false, decide_true, decide_false]
  · simp only [decide_eq_false h1, Bool.false_and, x_bnd, x_bnS, x_c, x_var, x_varK, x_stl, x_stlV, x_stlL, x_stlE, x_stlD, x_bxd, x_bxV, x_bxK, x_okv, x_okm, x_d2, x_d2K, x_d2L, x_tst, x_tstK, x_ch, x_chK, x_chL, x_chMt, x_chMf, x_chN, x_and, x_andK, x_andT, x_andF, x_or, x_orK, x_orT, x_orF, x_not, x_notK, x_notL, x_tru, x_truK, x_truL, x_band, x_bandT, x_bandF, x_bor, x_borT, x_borF, x_bnot, x_bnotK, x_dif, x_difT, x_difF, x_anil, x_acons, x_aK, x_aL, x_tup, x_tupK, x_lst, x_lstK, x_cl, x_clK, x_fn, x_fnK, x_isi, x_isiK, x_isiL, x_neg, x_negK, x_revL, x_kget, x_kgetK, x_sl, x_slK, x_slL, x_pnone, x_psome, x_psK, x_mt, x_mtK, x_mtL, x_itA, x_itAK, x_itL, x_itSeq, x_seqK, x_itStr, x_istrK, x_comp, x_compK, x_compL, x_wipe1, x_wipe2, x_seq, x_sqN, x_sqR, x_sqB, x_sqC, x_next, x_ret, x_retK, x_retN, x_asg, x_asgB, x_asgK, x_drop, x_dropK, x_if, x_ifT, x_ifF, x_for, x_forK, x_tgt, x_tgtK, x_tgtL, x_tname, x_par, x_parK, x_dput, x_dputK, x_dputK1, x_dputK2, x_dputL, x_def, x_defR, x_defN, y_add, y_sub, y_mul, y_mulX, y_mod, y_fdiv, y_lt, y_le, y_gt, y_ge, y_eqI, y_eqS, y_neI, y_neS, y_eqYI, y_eqYS, y_neYI, y_neYS, y_ixT, y_ixL, y_trB, y_k0, y_k1, y_k2, y_k3, y_k4, y_k5, y_k6, y_lenT, y_lenL, y_lenS, startE, List.map_cons, List.map_nil, List.length_cons, List.length_nil, List.replicate, List.cons_append, List.nil_append, List.append_nil, Nat.sub_self, Nat.reduceSub, Nat.reduceAdd, Nat.reduceLeDiff, Nat.reduceEqDiff, Nat.zero_add, Nat.zero_le, Nat.sub_zero, List.set_cons_zero, List.set_cons_succ, List.getElem?_cons_zero, List.getElem?_cons_succ, Bool.not_true, Bool.not_false, decide_true, decide_false]
/-- a name's text -/
def lets : List Nat := ("abcdefghijklmnopqrstuvwxyz" : Str).cps.toList
def letB : D → Bool
  | .str ⟨⟨[c]⟩⟩ => decide (c ∈ lets)
  | _ => false
def nameB : D → Bool
  | .str s => (decide (1 ≤ s.length) && decide (s.length ≤ 8)) && (signsL s).all letB
  | _ => false
theorem in_let (S : Sto) (c : Nat) : inD S (.str ⟨#[c]⟩) (.str "abcdefghijklmnopqrstuvwxyz") = some (.val (.bl (decide (c ∈ lets)))) := rfl
theorem signs_len (s : Str) : (signsL s).length = s.length := by
  unfold signsL
  rw [List.length_map]
  rfl
theorem e_name {w p : Nat} {d : D} (S : Sto) (h : Fit w p d) (hw : w ≤ 100000) : den_is_name [d] S = some (.ok (.val (.bl (nameB d))) S) := by
  cases d <;> first | (simp only [den_is_name, x_bnd, x_bnS, x_c, x_var, x_varK, x_stl, x_stlV, x_stlL, x_stlE, x_stlD, x_bxd, x_bxV, x_bxK, x_okv, x_okm, x_d2, x_d2K, x_d2L, x_tst, x_tstK, x_ch, x_chK, x_chL, x_chMt, x_chMf, x_chN, x_and, x_andK, x_andT, x_andF, x_or, x_orK, x_orT, x_orF, x_not, x_notK, x_notL, x_tru, x_truK, x_truL, x_band, x_bandT, x_bandF, x_bor, x_borT, x_borF, x_bnot, x_bnotK, x_dif, x_difT, x_difF, x_anil, x_acons, x_aK, x_aL, x_tup, x_tupK, x_lst, x_lstK, x_cl, x_clK, x_fn, x_fnK, x_isi, x_isiK, x_isiL, x_neg, x_negK, x_revL, x_kget, x_kgetK, x_sl, x_slK, x_slL, x_pnone, x_psome, x_psK, x_mt, x_mtK, x_mtL, x_itA, x_itAK, x_itL, x_itSeq, x_seqK, x_itStr, x_istrK, x_comp, x_compK, x_compL, x_wipe1, x_wipe2, x_seq, x_sqN, x_sqR, x_sqB, x_sqC, x_next, x_ret, x_retK, x_retN, x_asg, x_asgB, x_asgK, x_drop, x_dropK, x_if, x_ifT, x_ifF, x_for, x_forK, x_tgt, x_tgtK, x_tgtL, x_tname, x_par, x_parK, x_dput, x_dputK, x_dputK1, x_dputK2, x_dputL, x_def, x_defR, x_defN, y_add, y_sub, y_mul, y_mulX, y_mod, y_fdiv, y_lt, y_le, y_gt, y_ge, y_eqI, y_eqS, y_neI, y_neS, y_eqYI, y_eqYS, y_neYI, y_neYS, y_ixT, y_ixL, y_trB, y_k0, y_k1, y_k2, y_k3, y_k4, y_k5, y_k6, y_lenT, y_lenL, y_lenS, startE, List.map_cons, List.map_nil, List.length_cons, List.length_nil, List.replicate, List.cons_append, List.nil_append, List.append_nil, Nat.sub_self, Nat.reduceSub, Nat.reduceAdd, Nat.reduceLeDiff, Nat.reduceEqDiff, Nat.zero_add, Nat.zero_le, Nat.sub_zero, List.set_cons_zero, List.set_cons_succ, List.getElem?_cons_zero, List.getElem?_cons_succ, Bool.not_true, Bool.not_false, decide_true, decide_false, z_int0, z_int1, z_int2, z_int3, z_int4, z_int5, z_int6, z_bool0, z_bool1, z_bool2, z_bool3, z_bool4, z_bool5, z_bool6, z_str0, z_str1, z_str2, z_str3, z_str4, z_str5, z_str6, z_tuple0, z_tuple1, z_tuple2, z_tuple3, z_tuple4, z_tuple5, z_tuple6, z_list0, z_list1, z_list2, z_list3, z_list4, z_list5, z_list6, z_dict0, z_dict1, z_dict2, z_dict3, z_dict4, z_dict5, z_dict6, nameB]; done) | exact absurd rfl (h.kind.1 _) | exact absurd rfl (h.kind.2 _) | skip
  rename_i s
  have hs := h.str_len
  have hz : s.length ≤ sizeLine := by show s.length ≤ 2 ^ 24; omega
  have lp := loop_bl ([some (.str s), none]) letB (d2 inD (dVar 1) (dC (.str "abcdefghijklmnopqrstuvwxyz"))) 1 (signsL s) 0 S (by rw [signs_len]; omega) (fun x hx => by
    obtain ⟨c, _, rfl⟩ := List.mem_map.mp hx
    simp only [x_bnd, x_bnS, x_c, x_var, x_varK, x_stl, x_stlV, x_stlL, x_stlE, x_stlD, x_bxd, x_bxV, x_bxK, x_okv, x_okm, x_d2, x_d2K, x_d2L, x_tst, x_tstK, x_ch, x_chK, x_chL, x_chMt, x_chMf, x_chN, x_and, x_andK, x_andT, x_andF, x_or, x_orK, x_orT, x_orF, x_not, x_notK, x_notL, x_tru, x_truK, x_truL, x_band, x_bandT, x_bandF, x_bor, x_borT, x_borF, x_bnot, x_bnotK, x_dif, x_difT, x_difF, x_anil, x_acons, x_aK, x_aL, x_tup, x_tupK, x_lst, x_lstK, x_cl, x_clK, x_fn, x_fnK, x_isi, x_isiK, x_isiL, x_neg, x_negK, x_revL, x_kget, x_kgetK, x_sl, x_slK, x_slL, x_pnone, x_psome, x_psK, x_mt, x_mtK, x_mtL, x_itA, x_itAK, x_itL, x_itSeq, x_seqK, x_itStr, x_istrK, x_comp, x_compK, x_compL, x_wipe1, x_wipe2, x_seq, x_sqN, x_sqR, x_sqB, x_sqC, x_next, x_ret, x_retK, x_retN, x_asg, x_asgB, x_asgK, x_drop, x_dropK, x_if, x_ifT, x_ifF, x_for, x_forK, x_tgt, x_tgtK, x_tgtL, x_tname, x_par, x_parK, x_dput, x_dputK, x_dputK1, x_dputK2, x_dputL, x_def, x_defR, x_defN, y_add, y_sub, y_mul, y_mulX, y_mod, y_fdiv, y_lt, y_le, y_gt, y_ge, y_eqI, y_eqS, y_neI, y_neS, y_eqYI, y_eqYS, y_neYI, y_neYS, y_ixT, y_ixL, y_trB, y_k0, y_k1, y_k2, y_k3, y_k4, y_k5, y_k6, y_lenT, y_lenL, y_lenS, startE, List.map_cons, List.map_nil, List.length_cons, List.length_nil, List.replicate, List.cons_append, List.nil_append, List.append_nil, Nat.sub_self, Nat.reduceSub, Nat.reduceAdd, Nat.reduceLeDiff, Nat.reduceEqDiff, Nat.zero_add, Nat.zero_le, Nat.sub_zero, List.set_cons_zero, List.set_cons_succ, List.getElem?_cons_zero, List.getElem?_cons_succ, Bool.not_true, Bool.not_false, decide_true, decide_false, in_let]
    rfl)
  simp only [den_is_name, x_bnd, x_bnS, x_c, x_var, x_varK, x_stl, x_stlV, x_stlL, x_stlE, x_stlD, x_bxd, x_bxV, x_bxK, x_okv, x_okm, x_d2, x_d2K, x_d2L, x_tst, x_tstK, x_ch, x_chK, x_chL, x_chMt, x_chMf, x_chN, x_and, x_andK, x_andT, x_andF, x_or, x_orK, x_orT, x_orF, x_not, x_notK, x_notL, x_tru, x_truK, x_truL, x_band, x_bandT, x_bandF, x_bor, x_borT, x_borF, x_bnot, x_bnotK, x_dif, x_difT, x_difF, x_anil, x_acons, x_aK, x_aL, x_tup, x_tupK, x_lst, x_lstK, x_cl, x_clK, x_fn, x_fnK, x_isi, x_isiK, x_isiL, x_neg, x_negK, x_revL, x_kget, x_kgetK, x_sl, x_slK, x_slL, x_pnone, x_psome, x_psK, x_mt, x_mtK, x_mtL, x_itA, x_itAK, x_itL, x_itSeq, x_seqK, x_itStr, x_istrK, x_comp, x_compK, x_compL, x_wipe1, x_wipe2, x_seq, x_sqN, x_sqR, x_sqB, x_sqC, x_next, x_ret, x_retK, x_retN, x_asg, x_asgB, x_asgK, x_drop, x_dropK, x_if, x_ifT, x_ifF, x_for, x_forK, x_tgt, x_tgtK, x_tgtL, x_tname, x_par, x_parK, x_dput, x_dputK, x_dputK1, x_dputK2, x_dputL, x_def, x_defR, x_defN, y_add, y_sub, y_mul, y_mulX, y_mod, y_fdiv, y_lt, y_le, y_gt, y_ge, y_eqI, y_eqS, y_neI, y_neS, y_eqYI, y_eqYS, y_neYI, y_neYS, y_ixT, y_ixL, y_trB, y_k0, y_k1, y_k2, y_k3, y_k4, y_k5, y_k6, y_lenT, y_lenL, y_lenS, startE, List.map_cons, List.map_nil, List.length_cons, List.length_nil, List.replicate, List.cons_append, List.nil_append, List.append_nil, Nat.sub_self, Nat.reduceSub, Nat.reduceAdd, Nat.reduceLeDiff, Nat.reduceEqDiff, Nat.zero_add, Nat.zero_le, Nat.sub_zero, List.set_cons_zero, List.set_cons_succ, List.getElem?_cons_zero, List.getElem?_cons_succ, Bool.not_true, Bool.not_false, decide_true, decide_false, z_int0, z_int1, z_int2, z_int3, z_int4, z_int5, z_int6, z_bool0, z_bool1, z_bool2, z_bool3, z_bool4, z_bool5, z_bool6, z_str0, z_str1, z_str2, z_str3, z_str4, z_str5, z_str6, z_tuple0, z_tuple1, z_tuple2, z_tuple3, z_tuple4, z_tuple5, z_tuple6, z_list0, z_list1, z_list2, z_list3, z_list4, z_list5, z_list6, z_dict0, z_dict1, z_dict2, z_dict3, z_dict4, z_dict5, z_dict6, hz]
  by_cases h1 : (1 : Int) ≤ (s.length : Int)
  · by_cases h2 : (s.length : Int) ≤ 8
    · have g1 : 1 ≤ s.length := by omega
      have g2 : s.length ≤ 8 := by omega
      simp only [decide_eq_true h1, decide_eq_true h2, x_bnd, x_bnS, x_c, x_var, x_varK, x_stl, x_stlV, x_stlL, x_stlE, x_stlD, x_bxd, x_bxV, x_bxK, x_okv, x_okm, x_d2, x_d2K, x_d2L, x_tst, x_tstK, x_ch, x_chK, x_chL, x_chMt, x_chMf, x_chN, x_and, x_andK, x_andT, x_andF, x_or, x_orK, x_orT, x_orF, x_not, x_notK, x_notL, x_tru, x_truK, x_truL, x_band, x_bandT, x_bandF, x_bor, x_borT, x_borF, x_bnot, x_bnotK, x_dif, x_difT, x_difF, x_anil, x_acons, x_aK, x_aL, x_tup, x_tupK, x_lst, x_lstK, x_cl, x_clK, x_fn, x_fnK, x_isi, x_isiK, x_isiL, x_neg, x_negK, x_revL, x_kget, x_kgetK, x_sl, x_slK, x_slL, x_pnone, x_psome, x_psK, x_mt, x_mtK, x_mtL, x_itA, x_itAK, x_itL, x_itSeq, x_seqK, x_itStr, x_istrK, x_comp, x_compK, x_compL, x_wipe1, x_wipe2, x_seq, x_sqN, x_sqR, x_sqB, x_sqC, x_next, x_ret, x_retK, x_retN, x_asg, x_asgB, x_asgK, x_drop, x_dropK, x_if, x_ifT, x_ifF, x_for, x_forK, x_tgt, x_tgtK, x_tgtL, x_tname, x_par, x_parK, x_dput, x_dputK, x_dputK1, x_dputK2, x_dputL, x_def, x_defR, x_defN, y_add, y_sub, y_mul, y_mulX, y_mod, y_fdiv, y_lt, y_le, y_gt, y_ge, y_eqI, y_eqS, y_neI, y_neS, y_eqYI, y_eqYS, y_neYI, y_neYS, y_ixT, y_ixL, y_trB, y_k0, y_k1, y_k2, y_k3, y_k4, y_k5, y_k6, y_lenT, y_lenL, y_lenS, startE, List.map_cons, List.map_nil, List.length_cons, List.length_nil, List.replicate, List.cons_append, List.nil_append, List.append_nil, Nat.sub_self, Nat.reduceSub, Nat.reduceAdd, Nat.reduceLeDiff, Nat.reduceEqDiff, Nat.zero_add, Nat.zero_le, Nat.sub_zero, List.set_cons_zero, List.set_cons_succ, List.getElem?_cons_zero, List.getElem?_cons_succ, Bool.not_true, Bool.not_false, decide_true, decide_false, lp, y_all, nameB, decide_eq_true g1, decide_eq_true g2, Bool.true_and]
    · have g2 : ¬ s.length ≤ 8 := by omega
      simp only [decide_eq_true h1, decide_eq_false h2, x_bnd, x_bnS, x_c, x_var, x_varK, x_stl, x_stlV, x_stlL, x_stlE, x_stlD, x_bxd, x_bxV, x_bxK, x_okv, x_okm, x_d2, x_d2K, x_d2L, x_tst, x_tstK, x_ch, x_chK, x_chL, x_chMt, x_chMf, x_chN, x_and, x_andK, x_andT, x_andF, x_or, x_orK, x_orT, x_orF, x_not, x_notK, x_notL, x_tru, x_truK, x_truL, x_band, x_bandT, x_bandF, x_bor, x_borT, x_borF, x_bnot, x_bnotK, x_dif, x_difT, x_difF, x_anil, x_acons, x_aK, x_aL, x_tup, x_tupK, x_lst, x_lstK, x_cl, x_clK, x_fn, x_fnK, x_isi, x_isiK, x_isiL, x_neg, x_negK, x_revL, x_kget, x_kgetK, x_sl, x_slK, x_slL, x_pnone, x_psome, x_psK, x_mt, x_mtK, x_mtL, x_itA, x_itAK, x_itL, x_itSeq, x_seqK, x_itStr, x_istrK, x_comp, x_compK, x_compL, x_wipe1, x_wipe2, x_seq, x_sqN, x_sqR, x_sqB, x_sqC, x_next, x_ret, x_retK, x_retN, x_asg, x_asgB, x_asgK, x_drop, x_dropK, x_if, x_ifT, x_ifF, x_for, x_forK, x_tgt, x_tgtK, x_tgtL, x_tname, x_par, x_parK, x_dput, x_dputK, x_dputK1, x_dputK2, x_dputL, x_def, x_defR, x_defN, y_add, y_sub, y_mul, y_mulX, y_mod, y_fdiv, y_lt, y_le, y_gt, y_ge, y_eqI, y_eqS, y_neI, y_neS, y_eqYI, y_eqYS, y_neYI, y_neYS, y_ixT, y_ixL, y_trB, y_k0, y_k1, y_k2, y_k3, y_k4, y_k5, y_k6, y_lenT, y_lenL, y_lenS, startE, List.map_cons, List.map_nil, List.length_cons, List.length_nil, List.replicate, List.cons_append, List.nil_append, List.append_nil, Nat.sub_self, Nat.reduceSub, Nat.reduceAdd, Nat.reduceLeDiff, Nat.reduceEqDiff, Nat.zero_add, Nat.zero_le, Nat.sub_zero, List.set_cons_zero, List.set_cons_succ, List.getElem?_cons_zero, List.getElem?_cons_succ, Bool.not_true, Bool.not_false, decide_true, decide_false, nameB, decide_eq_false g2, Bool.and_false, Bool.false_and]
  · have g1 : ¬ 1 ≤ s.length := by omega
    simp only [decide_eq_false h1, x_bnd, x_bnS, x_c, x_var, x_varK, x_stl, x_stlV, x_stlL, x_stlE, x_stlD, x_bxd, x_bxV, x_bxK, x_okv, x_okm, x_d2, x_d2K, x_d2L, x_tst, x_tstK, x_ch, x_chK, x_chL, x_chMt, x_chMf, x_chN, x_and, x_andK, x_andT, x_andF, x_or, x_orK, x_orT, x_orF, x_not, x_notK, x_notL, x_tru, x_truK, x_truL, x_band, x_bandT, x_bandF, x_bor, x_borT, x_borF, x_bnot, x_bnotK, x_dif, x_difT, x_difF, x_anil, x_acons, x_aK, x_aL, x_tup, x_tupK, x_lst, x_lstK, x_cl, x_clK, x_fn, x_fnK, x_isi, x_isiK, x_isiL, x_neg, x_negK, x_revL, x_kget, x_kgetK, x_sl, x_slK, x_slL, x_pnone, x_psome, x_psK, x_mt, x_mtK, x_mtL, x_itA, x_itAK, x_itL, x_itSeq, x_seqK, x_itStr, x_istrK, x_comp, x_compK, x_compL, x_wipe1, x_wipe2, x_seq, x_sqN, x_sqR, x_sqB, x_sqC, x_next, x_ret, x_retK, x_retN, x_asg, x_asgB, x_asgK, x_drop, x_dropK, x_if, x_ifT, x_ifF, x_for, x_forK, x_tgt, x_tgtK, x_tgtL, x_tname, x_par, x_parK, x_dput, x_dputK, x_dputK1, x_dputK2, x_dputL, x_def, x_defR, x_defN, y_add, y_sub, y_mul, y_mulX, y_mod, y_fdiv, y_lt, y_le, y_gt, y_ge, y_eqI, y_eqS, y_neI, y_neS, y_eqYI, y_eqYS, y_neYI, y_neYS, y_ixT, y_ixL, y_trB, y_k0, y_k1, y_k2, y_k3, y_k4, y_k5, y_k6, y_lenT, y_lenL, y_lenS, startE, List.map_cons, List.map_nil, List.length_cons, List.length_nil, List.replicate, List.cons_append, List.nil_append, List.append_nil, Nat.sub_self, Nat.reduceSub, Nat.reduceAdd, Nat.reduceLeDiff, Nat.reduceEqDiff, Nat.zero_add, Nat.zero_le, Nat.sub_zero, List.set_cons_zero, List.set_cons_succ, List.getElem?_cons_zero, List.getElem?_cons_succ, Bool.not_true, Bool.not_false, decide_true, decide_false, nameB, decide_eq_false g1, Bool.false_and]
theorem y_ixS (S : Sto) (z : Str) (i : Int) : ixD S (.str z) (.int i) = if z.length ≤ sizeLine then (atI z.cps.toList i).map (fun c => Out.val (.str ⟨#[c]⟩)) else none := rfl
theorem y_intS (S : Sto) (s : Str) (n : Int) (h : intText? s = some n) (hl : s.length ≤ 640) : Sf.intD S [.str s] = some (.val (.int n)) := by
  simp only [Sf.intD, h]
  exact if_pos hl
theorem ty_str (S : Sto) (x : Str) : tyB "str" S (.str x) = true := by
  simp only [tyB]
  decide
theorem flat_strs : ∀ l : List Str, (l.map D.str).all D.flat = true
  | [] => rfl
  | x :: l => by
    rw [List.map_cons, List.all_cons, flat_strs l]
    rfl
theorem join1 (cs : List Nat) : Txt.join "" (cs.map fun c => (⟨#[c]⟩ : Str)) = ⟨cs.toArray⟩ := by
  refine TL.ext_tl ((congrArg TL.tl (TL.join_eq _ _)).trans ?_)
  rw [TL.tl_join]
  have : ∀ l : List Nat, TL.joinL (TL.tl "") ((l.map fun c => (⟨#[c]⟩ : Str)).map TL.tl) = l := fun l => by
    induction l with
    | nil => rfl
    | cons c l ih =>
      cases l with
      | nil => rfl
      | cons d l => exact congrArg (List.cons c) ih
  exact this cs
theorem strs1 : ∀ cs : List Nat, strsD (cs.map fun c => D.str ⟨#[c]⟩) = some (cs.map fun c => (⟨#[c]⟩ : Str))
  | [] => rfl
  | c :: cs => by
    simp only [List.map_cons, strsD, strs1 cs]
    rfl
theorem sum1 : ∀ cs : List Nat, ((cs.map fun c => (⟨#[c]⟩ : Str)).map (·.length)).sum = cs.length
  | [] => rfl
  | c :: cs => by
    simp only [List.map_cons, List.sum_cons, sum1 cs, List.length_cons]
    show 1 + cs.length = cs.length + 1
    omega
theorem join_d (S : Sto) (cs : List Nat) (h : cs.length ≤ 100) : joinD S (.str "") [.lst (cs.map fun c => D.str ⟨#[c]⟩)] = some (.val (.str ⟨cs.toArray⟩), S) := by
  unfold joinD
  show (match (some _ : Option (List D)).bind strsD with
    | some ys => _
    | none => none) = _
  rw [Option.bind_some, strs1]
  have h2 : (("" : Str)).length = 0 := rfl
  show (if _ then _ else none) = _
  rw [if_pos (by rw [sum1, h2]; omega), join1]
theorem rng {j : Int} (h1 : 0 ≤ j) (h2 : j ≤ 100) : range1D [.int j] = some (rangeL 0 j.toNat) := if_pos ⟨by omega, by omega⟩
theorem rng_len (j : Nat) : (rangeL 0 j).length = j := by
  unfold rangeL
  rw [List.length_map, List.length_range]
/-! the drawn digits -/
def stO (a b c : Int) : Ob := .dct [(.inr "left", .int a), (.inr "seed", .int b), (.inr "turns", .int c)]
section
variable {S : Sto} {n : Nat} {a b c : Int}
theorem dgl (h : S[n]? = some (stO a b c)) : dgD S (.ref n) (.str "left") = some (.val (.int a)) := by
  simp only [dgD, viewD, h, stO, keyD]
  rfl
theorem dgs (h : S[n]? = some (stO a b c)) : dgD S (.ref n) (.str "seed") = some (.val (.int b)) := by
  simp only [dgD, viewD, h, stO, keyD]
  rfl
theorem dgt (h : S[n]? = some (stO a b c)) : dgD S (.ref n) (.str "turns") = some (.val (.int c)) := by
  simp only [dgD, viewD, h, stO, keyD]
  rfl
theorem dpl (h : S[n]? = some (stO a b c)) (x : Int) : dputS S (.ref n) (.str "left") (.int x) = some (S.set n (stO x b c)) := by
  simp only [dputS, h, stO, keyD]
  rfl
theorem dpt (h : S[n]? = some (stO a b c)) (x : Int) : dputS S (.ref n) (.str "turns") (.int x) = some (S.set n (stO a b x)) := by
  simp only [dputS, h, stO, keyD]
  rfl
theorem set_at {o o' : Ob} (h : S[n]? = some o) : (S.set n o')[n]? = some o' := List.getElem?_set_self (List.getElem?_eq_some_iff.mp h).1
end
theorem mo_l {i j : Int} (h1 : -(2 ^ 64) < i) (h2 : i < 2 ^ 64) : mulOk i j = true := decide_eq_true (.inl ⟨h1, h2⟩)
theorem mo_r {i j : Int} (h1 : -(2 ^ 64) < j) (h2 : j < 2 ^ 64) : mulOk i j = true := decide_eq_true (.inr ⟨h1, h2⟩)
theorem mo1 (i : Int) : mulOk i 2147483647 = true := mo_r (by decide) (by decide)
theorem mo2 (i : Int) : mulOk 4 i = true := mo_l (by decide) (by decide)
theorem mo3 (i : Int) : mulOk 7919 i = true := mo_l (by decide) (by decide)
theorem mo4 (i : Int) : mulOk i 48271 = true := mo_r (by decide) (by decide)
def mixI (x k : Int) : Int := (((x.fmod 1000000007 + 7919 * k + 13) * (x.fmod 1000000007 + 7919 * k + 13)).fmod 1000000007 * 48271).fmod 2147483647
theorem p1 : (1000000007 : Int) ≠ 0 := by decide
theorem p2 : (2147483647 : Int) ≠ 0 := by decide
theorem e_mixed (S : Sto) (x k : Int) (hk : 0 ≤ k ∧ k < 2 ^ 45) : den_law_mixed [.int x, .int k] S = some (.ok (.val (.int (mixI x k))) S) := by
  have h0 := Int.fmod_nonneg_of_pos x (show (0 : Int) < 1000000007 by decide)
  have h1 := Int.fmod_lt_of_pos x (show (0 : Int) < 1000000007 by decide)
  have hm : mulOk (x.fmod 1000000007 + 7919 * k + 13) (x.fmod 1000000007 + 7919 * k + 13) = true := mo_l (by omega) (by omega)
  simp only [den_law_mixed, x_bnd, x_bnS, x_c, x_var, x_varK, x_stl, x_stlV, x_stlL, x_stlE, x_stlD, x_bxd, x_bxV, x_bxK, x_okv, x_okm, x_d2, x_d2K, x_d2L, x_tst, x_tstK, x_ch, x_chK, x_chL, x_chMt, x_chMf, x_chN, x_and, x_andK, x_andT, x_andF, x_or, x_orK, x_orT, x_orF, x_not, x_notK, x_notL, x_tru, x_truK, x_truL, x_band, x_bandT, x_bandF, x_bor, x_borT, x_borF, x_bnot, x_bnotK, x_dif, x_difT, x_difF, x_anil, x_acons, x_aK, x_aL, x_tup, x_tupK, x_lst, x_lstK, x_cl, x_clK, x_fn, x_fnK, x_isi, x_isiK, x_isiL, x_neg, x_negK, x_revL, x_kget, x_kgetK, x_sl, x_slK, x_slL, x_pnone, x_psome, x_psK, x_mt, x_mtK, x_mtL, x_itA, x_itAK, x_itL, x_itSeq, x_seqK, x_itStr, x_istrK, x_comp, x_compK, x_compL, x_wipe1, x_wipe2, x_seq, x_sqN, x_sqR, x_sqB, x_sqC, x_next, x_ret, x_retK, x_retN, x_asg, x_asgB, x_asgK, x_drop, x_dropK, x_if, x_ifT, x_ifF, x_for, x_forK, x_tgt, x_tgtK, x_tgtL, x_tname, x_par, x_parK, x_dput, x_dputK, x_dputK1, x_dputK2, x_dputL, x_def, x_defR, x_defN, y_add, y_sub, y_mul, y_mulX, y_mod, y_fdiv, y_lt, y_le, y_gt, y_ge, y_eqI, y_eqS, y_neI, y_neS, y_eqYI, y_eqYS, y_neYI, y_neYS, y_ixT, y_ixL, y_trB, y_k0, y_k1, y_k2, y_k3, y_k4, y_k5, y_k6, y_lenT, y_lenL, y_lenS, startE, List.map_cons, List.map_nil, List.length_cons, List.length_nil, List.replicate, List.cons_append, List.nil_append, List.append_nil, Nat.sub_self, Nat.reduceSub, Nat.reduceAdd, Nat.reduceLeDiff, Nat.reduceEqDiff, Nat.zero_add, Nat.zero_le, Nat.sub_zero, List.set_cons_zero, List.set_cons_succ, List.getElem?_cons_zero, List.getElem?_cons_succ, Bool.not_true, Bool.not_false, decide_true, decide_false, mo3, mo4, hm, p1, p2, ne_eq, not_false_eq_true, mixI]
theorem fdiv_ok {m : Int} (h : 1 ≤ m ∧ m ≤ 1000) : m ≠ 0 ∧ m.natAbs < 1073741824 := ⟨by omega, by omega⟩
def body4 : Sn := sDput (dVar 0) (dC (.str "left")) (d2 addD (d2 mulX (d2 dgD (dVar 0) (dC (.str "left"))) (dC (.int 2147483647))) (dFn 2 den_law_mixed (aCons (d2 dgD (dVar 0) (dC (.str "seed"))) (aCons (d2 addD (d2 mulX (dC (.int 4)) (d2 dgD (dVar 0) (dC (.str "turns")))) (dVar 3)) aNil))))
theorem loop4 (n : Nat) (m b c : Int) (u : Option D) (hc : 0 ≤ c ∧ c < 2 ^ 40) : ∀ (xs : List Int) (S : Sto) (a : Int) (v : Option D), S[n]? = some (stO a b c) → (∀ x ∈ xs, 0 ≤ x ∧ x < 2 ^ 30) →
    ∃ a' v', loopS (tName 3) body4 (xs.map .int) [some (.ref n), some (.int m), u, v] S = some (.nx [some (.ref n), some (.int m), u, v'] (S.set n (stO a' b c)))
  | [], S, a, v, h, _ => ⟨a, v, by
    have : S.set n (stO a b c) = S := List.ext_getElem? fun i => by
      by_cases hi : n = i
      · subst hi
        rw [set_at h, h]
      · rw [List.getElem?_set_ne hi]
    rw [this]
    rfl⟩
  | x :: xs, S, a, v, h, hx => by
    have hx0 := hx x List.mem_cons_self
    have hm := e_mixed S b (4 * c + x) (by omega)
    have st : body4 [some (.ref n), some (.int m), u, some (.int x)] S = some (.nx [some (.ref n), some (.int m), u, some (.int x)] (S.set n (stO (a * 2147483647 + mixI b (4 * c + x)) b c))) := by
      simp only [body4, x_bnd, x_bnS, x_c, x_var, x_varK, x_stl, x_stlV, x_stlL, x_stlE, x_stlD, x_bxd, x_bxV, x_bxK, x_okv, x_okm, x_d2, x_d2K, x_d2L, x_tst, x_tstK, x_ch, x_chK, x_chL, x_chMt, x_chMf, x_chN, x_and, x_andK, x_andT, x_andF, x_or, x_orK, x_orT, x_orF, x_not, x_notK, x_notL, x_tru, x_truK, x_truL, x_band, x_bandT, x_bandF, x_bor, x_borT, x_borF, x_bnot, x_bnotK, x_dif, x_difT, x_difF, x_anil, x_acons, x_aK, x_aL, x_tup, x_tupK, x_lst, x_lstK, x_cl, x_clK, x_fn, x_fnK, x_isi, x_isiK, x_isiL, x_neg, x_negK, x_revL, x_kget, x_kgetK, x_sl, x_slK, x_slL, x_pnone, x_psome, x_psK, x_mt, x_mtK, x_mtL, x_itA, x_itAK, x_itL, x_itSeq, x_seqK, x_itStr, x_istrK, x_comp, x_compK, x_compL, x_wipe1, x_wipe2, x_seq, x_sqN, x_sqR, x_sqB, x_sqC, x_next, x_ret, x_retK, x_retN, x_asg, x_asgB, x_asgK, x_drop, x_dropK, x_if, x_ifT, x_ifF, x_for, x_forK, x_tgt, x_tgtK, x_tgtL, x_tname, x_par, x_parK, x_dput, x_dputK, x_dputK1, x_dputK2, x_dputL, x_def, x_defR, x_defN, y_add, y_sub, y_mul, y_mulX, y_mod, y_fdiv, y_lt, y_le, y_gt, y_ge, y_eqI, y_eqS, y_neI, y_neS, y_eqYI, y_eqYS, y_neYI, y_neYS, y_ixT, y_ixL, y_trB, y_k0, y_k1, y_k2, y_k3, y_k4, y_k5, y_k6, y_lenT, y_lenL, y_lenS, startE, List.map_cons, List.map_nil, List.length_cons, List.length_nil, List.replicate, List.cons_append, List.nil_append, List.append_nil, Nat.sub_self, Nat.reduceSub, Nat.reduceAdd, Nat.reduceLeDiff, Nat.reduceEqDiff, Nat.zero_add, Nat.zero_le, Nat.sub_zero, List.set_cons_zero, List.set_cons_succ, List.getElem?_cons_zero, List.getElem?_cons_succ, Bool.not_true, Bool.not_false, decide_true, decide_false, dgl h, dgs h, dgt h, mo1, mo2, hm, dpl h]
    obtain ⟨a', v', ih⟩ := loop4 n m b c u hc xs (S.set n (stO (a * 2147483647 + mixI b (4 * c + x)) b c)) _ (some (.int x)) (set_at h) fun y hy => hx y (List.mem_cons_of_mem _ hy)
    refine ⟨a', v', ?_⟩
    rw [List.set_set] at ih
    simp only [List.map_cons, loopS, tName, List.set_cons_zero, List.set_cons_succ, st, ih]
theorem range4 : range1D [.int 4] = some ([0, 1, 2, 3].map D.int) := by
  unfold range1D
  exact if_pos (by decide)
theorem e_digit {S : Sto} {n : Nat} {a b c m : Int} (h : S[n]? = some (stO a b c)) (hc : 0 ≤ c ∧ c < 2 ^ 39) (hm : 1 ≤ m ∧ m ≤ 1000) :
    ∃ a' c' r, den_law_digit [.ref n, .int m] S = some (.ok (.val (.int r)) (S.set n (stO a' b c'))) ∧ 0 ≤ r ∧ r < m ∧ c ≤ c' ∧ c' ≤ c + 1 := by
  have hm0 : m ≠ 0 := by omega
  have hmd := fdiv_ok hm
  have fin : ∀ (S1 : Sto) (a1 c1 : Int) (u v : Option D), S1[n]? = some (stO a1 b c1) → sSeq (sAsg 2 (d2 modD (d2 dgD (dVar 0) (dC (.str "left"))) (dVar 1))) (sSeq (sDput (dVar 0) (dC (.str "left")) (d2 fdivD (d2 dgD (dVar 0) (dC (.str "left"))) (dVar 1))) (sRet (dVar 2))) [some (.ref n), some (.int m), u, v] S1 =
      some (.rt (.val (.int (a1.fmod m))) (S1.set n (stO (a1.fdiv m) b c1))) := fun S1 a1 c1 u v h1 => by
    simp only [x_bnd, x_bnS, x_c, x_var, x_varK, x_stl, x_stlV, x_stlL, x_stlE, x_stlD, x_bxd, x_bxV, x_bxK, x_okv, x_okm, x_d2, x_d2K, x_d2L, x_tst, x_tstK, x_ch, x_chK, x_chL, x_chMt, x_chMf, x_chN, x_and, x_andK, x_andT, x_andF, x_or, x_orK, x_orT, x_orF, x_not, x_notK, x_notL, x_tru, x_truK, x_truL, x_band, x_bandT, x_bandF, x_bor, x_borT, x_borF, x_bnot, x_bnotK, x_dif, x_difT, x_difF, x_anil, x_acons, x_aK, x_aL, x_tup, x_tupK, x_lst, x_lstK, x_cl, x_clK, x_fn, x_fnK, x_isi, x_isiK, x_isiL, x_neg, x_negK, x_revL, x_kget, x_kgetK, x_sl, x_slK, x_slL, x_pnone, x_psome, x_psK, x_mt, x_mtK, x_mtL, x_itA, x_itAK, x_itL, x_itSeq, x_seqK, x_itStr, x_istrK, x_comp, x_compK, x_compL, x_wipe1, x_wipe2, x_seq, x_sqN, x_sqR, x_sqB, x_sqC, x_next, x_ret, x_retK, x_retN, x_asg, x_asgB, x_asgK, x_drop, x_dropK, x_if, x_ifT, x_ifF, x_for, x_forK, x_tgt, x_tgtK, x_tgtL, x_tname, x_par, x_parK, x_dput, x_dputK, x_dputK1, x_dputK2, x_dputL, x_def, x_defR, x_defN, y_add, y_sub, y_mul, y_mulX, y_mod, y_fdiv, y_lt, y_le, y_gt, y_ge, y_eqI, y_eqS, y_neI, y_neS, y_eqYI, y_eqYS, y_neYI, y_neYS, y_ixT, y_ixL, y_trB, y_k0, y_k1, y_k2, y_k3, y_k4, y_k5, y_k6, y_lenT, y_lenL, y_lenS, startE, List.map_cons, List.map_nil, List.length_cons, List.length_nil, List.replicate, List.cons_append, List.nil_append, List.append_nil, Nat.sub_self, Nat.reduceSub, Nat.reduceAdd, Nat.reduceLeDiff, Nat.reduceEqDiff, Nat.zero_add, Nat.zero_le, Nat.sub_zero, List.set_cons_zero, List.set_cons_succ, List.getElem?_cons_zero, List.getElem?_cons_succ, Bool.not_true, Bool.not_false, decide_true, decide_false, dgl h1, hm0, hmd, ne_eq, not_false_eq_true, and_self, dpl h1]
  by_cases ha : a = 0
  · have h1 := set_at (o' := stO a b (c + 1)) h
    obtain ⟨a', v', lp⟩ := loop4 n m b (c + 1) none (by omega) [0, 1, 2, 3] (S.set n (stO a b (c + 1))) a none h1 (by decide)
    rw [List.set_set] at lp
    have h2 := set_at (o' := stO a' b (c + 1)) h
    refine ⟨a'.fdiv m, c + 1, a'.fmod m, ?_, Int.fmod_nonneg_of_pos _ (by omega), Int.fmod_lt_of_pos _ (by omega), by omega, by omega⟩
    have f := fin (S.set n (stO a' b (c + 1))) a' (c + 1) none v' h2
    rw [List.set_set] at f
    unfold body4 at lp
    simp only [den_law_digit, x_bnd, x_bnS, x_c, x_var, x_varK, x_stl, x_stlV, x_stlL, x_stlE, x_stlD, x_bxd, x_bxV, x_bxK, x_okv, x_okm, x_d2, x_d2K, x_d2L, x_tst, x_tstK, x_ch, x_chK, x_chL, x_chMt, x_chMf, x_chN, x_and, x_andK, x_andT, x_andF, x_or, x_orK, x_orT, x_orF, x_not, x_notK, x_notL, x_tru, x_truK, x_truL, x_band, x_bandT, x_bandF, x_bor, x_borT, x_borF, x_bnot, x_bnotK, x_dif, x_difT, x_difF, x_anil, x_acons, x_aK, x_aL, x_tup, x_tupK, x_lst, x_lstK, x_cl, x_clK, x_fn, x_fnK, x_isi, x_isiK, x_isiL, x_neg, x_negK, x_revL, x_kget, x_kgetK, x_sl, x_slK, x_slL, x_pnone, x_psome, x_psK, x_mt, x_mtK, x_mtL, x_itA, x_itAK, x_itL, x_itSeq, x_seqK, x_itStr, x_istrK, x_comp, x_compK, x_compL, x_wipe1, x_wipe2, x_seq, x_sqN, x_sqR, x_sqB, x_sqC, x_next, x_ret, x_retK, x_retN, x_asg, x_asgB, x_asgK, x_drop, x_dropK, x_if, x_ifT, x_ifF, x_for, x_forK, x_tgt, x_tgtK, x_tgtL, x_tname, x_par, x_parK, x_dput, x_dputK, x_dputK1, x_dputK2, x_dputL, x_def, x_defR, x_defN, y_add, y_sub, y_mul, y_mulX, y_mod, y_fdiv, y_lt, y_le, y_gt, y_ge, y_eqI, y_eqS, y_neI, y_neS, y_eqYI, y_eqYS, y_neYI, y_neYS, y_ixT, y_ixL, y_trB, y_k0, y_k1, y_k2, y_k3, y_k4, y_k5, y_k6, y_lenT, y_lenL, y_lenS, startE, List.map_cons, List.map_nil, List.length_cons, List.length_nil, List.replicate, List.cons_append, List.nil_append, List.append_nil, Nat.sub_self, Nat.reduceSub, Nat.reduceAdd, Nat.reduceLeDiff, Nat.reduceEqDiff, Nat.zero_add, Nat.zero_le, Nat.sub_zero, List.set_cons_zero, List.set_cons_succ, List.getElem?_cons_zero, List.getElem?_cons_succ, Bool.not_true, Bool.not_false, decide_true, decide_false, dgl h, dgt h, decide_eq_true ha, dpt h, range4, lp, List.map_cons, List.map_nil] at f ⊢
    simp only [List.map_cons, List.map_nil] at lp
    simp only [lp, x_bnd, x_bnS, x_c, x_var, x_varK, x_stl, x_stlV, x_stlL, x_stlE, x_stlD, x_bxd, x_bxV, x_bxK, x_okv, x_okm, x_d2, x_d2K, x_d2L, x_tst, x_tstK, x_ch, x_chK, x_chL, x_chMt, x_chMf, x_chN, x_and, x_andK, x_andT, x_andF, x_or, x_orK, x_orT, x_orF, x_not, x_notK, x_notL, x_tru, x_truK, x_truL, x_band, x_bandT, x_bandF, x_bor, x_borT, x_borF, x_bnot, x_bnotK, x_dif, x_difT, x_difF, x_anil, x_acons, x_aK, x_aL, x_tup, x_tupK, x_lst, x_lstK, x_cl, x_clK, x_fn, x_fnK, x_isi, x_isiK, x_isiL, x_neg, x_negK, x_revL, x_kget, x_kgetK, x_sl, x_slK, x_slL, x_pnone, x_psome, x_psK, x_mt, x_mtK, x_mtL, x_itA, x_itAK, x_itL, x_itSeq, x_seqK, x_itStr, x_istrK, x_comp, x_compK, x_compL, x_wipe1, x_wipe2, x_seq, x_sqN, x_sqR, x_sqB, x_sqC, x_next, x_ret, x_retK, x_retN, x_asg, x_asgB, x_asgK, x_drop, x_dropK, x_if, x_ifT, x_ifF, x_for, x_forK, x_tgt, x_tgtK, x_tgtL, x_tname, x_par, x_parK, x_dput, x_dputK, x_dputK1, x_dputK2, x_dputL, x_def, x_defR, x_defN, y_add, y_sub, y_mul, y_mulX, y_mod, y_fdiv, y_lt, y_le, y_gt, y_ge, y_eqI, y_eqS, y_neI, y_neS, y_eqYI, y_eqYS, y_neYI, y_neYS, y_ixT, y_ixL, y_trB, y_k0, y_k1, y_k2, y_k3, y_k4, y_k5, y_k6, y_lenT, y_lenL, y_lenS, startE, List.map_cons, List.map_nil, List.length_cons, List.length_nil, List.replicate, List.cons_append, List.nil_append, List.append_nil, Nat.sub_self, Nat.reduceSub, Nat.reduceAdd, Nat.reduceLeDiff, Nat.reduceEqDiff, Nat.zero_add, Nat.zero_le, Nat.sub_zero, List.set_cons_zero, List.set_cons_succ, List.getElem?_cons_zero, List.getElem?_cons_succ, Bool.not_true, Bool.not_false, decide_true, decide_false, f]
  · refine ⟨a.fdiv m, c, a.fmod m, ?_, Int.fmod_nonneg_of_pos _ (by omega), Int.fmod_lt_of_pos _ (by omega), by omega, by omega⟩
    have f := fin S a c none none h
    simp only [den_law_digit, x_def, startE, List.map_cons, List.map_nil, List.length_cons, List.length_nil, List.replicate, Nat.reduceSub, Nat.reduceAdd, List.cons_append, List.nil_append]
    rw [x_seq]
    simp only [x_if, x_tst, x_d2, x_stl, x_var, x_varK, List.getElem?_cons_zero, x_bnd, x_stlV, x_d2K, x_c, x_d2L, dgl h, x_okv, y_eqI, decide_eq_false ha, x_tstK, x_bnS, x_ifF, x_next, x_sqN, f, x_defR]
theorem atI_mem {α : Type} {l : List α} {r : Int} (h1 : 0 ≤ r) (h2 : r < (l.length : Int)) : ∃ x ∈ l, atI l r = some x := by
  have hl : r.toNat < l.length := by omega
  refine ⟨l[r.toNat], List.getElem_mem hl, ?_⟩
  unfold atI ixN
  rw [if_pos h1, if_pos h2]
  exact List.getElem?_eq_getElem hl
theorem pw18 (S : Sto) : powD S (.int 10) (.int 18) = some (.val (.int (10 ^ 18))) := rfl
def firstI (c : Int) : Int := if 10 ^ 18 ≤ c then c else 0
theorem e_draw (S : Sto) (c k : Int) (hk : 0 ≤ k ∧ k < 2 ^ 39) : den_law_draw [.int c, .int k] S = some (.ok (.own (stO (firstI c) (mixI c k) k)) S) := by
  have hm := e_mixed S c k (by omega)
  by_cases h : (10 : Int) ^ 18 ≤ c
  · simp only [den_law_draw, dDisp, vals, x_bnd, x_bnS, x_c, x_var, x_varK, x_stl, x_stlV, x_stlL, x_stlE, x_stlD, x_bxd, x_bxV, x_bxK, x_okv, x_okm, x_d2, x_d2K, x_d2L, x_tst, x_tstK, x_ch, x_chK, x_chL, x_chMt, x_chMf, x_chN, x_and, x_andK, x_andT, x_andF, x_or, x_orK, x_orT, x_orF, x_not, x_notK, x_notL, x_tru, x_truK, x_truL, x_band, x_bandT, x_bandF, x_bor, x_borT, x_borF, x_bnot, x_bnotK, x_dif, x_difT, x_difF, x_anil, x_acons, x_aK, x_aL, x_tup, x_tupK, x_lst, x_lstK, x_cl, x_clK, x_fn, x_fnK, x_isi, x_isiK, x_isiL, x_neg, x_negK, x_revL, x_kget, x_kgetK, x_sl, x_slK, x_slL, x_pnone, x_psome, x_psK, x_mt, x_mtK, x_mtL, x_itA, x_itAK, x_itL, x_itSeq, x_seqK, x_itStr, x_istrK, x_comp, x_compK, x_compL, x_wipe1, x_wipe2, x_seq, x_sqN, x_sqR, x_sqB, x_sqC, x_next, x_ret, x_retK, x_retN, x_asg, x_asgB, x_asgK, x_drop, x_dropK, x_if, x_ifT, x_ifF, x_for, x_forK, x_tgt, x_tgtK, x_tgtL, x_tname, x_par, x_parK, x_dput, x_dputK, x_dputK1, x_dputK2, x_dputL, x_def, x_defR, x_defN, y_add, y_sub, y_mul, y_mulX, y_mod, y_fdiv, y_lt, y_le, y_gt, y_ge, y_eqI, y_eqS, y_neI, y_neS, y_eqYI, y_eqYS, y_neYI, y_neYS, y_ixT, y_ixL, y_trB, y_k0, y_k1, y_k2, y_k3, y_k4, y_k5, y_k6, y_lenT, y_lenL, y_lenS, startE, List.map_cons, List.map_nil, List.length_cons, List.length_nil, List.replicate, List.cons_append, List.nil_append, List.append_nil, Nat.sub_self, Nat.reduceSub, Nat.reduceAdd, Nat.reduceLeDiff, Nat.reduceEqDiff, Nat.zero_add, Nat.zero_le, Nat.sub_zero, List.set_cons_zero, List.set_cons_succ, List.getElem?_cons_zero, List.getElem?_cons_succ, Bool.not_true, Bool.not_false, decide_true, decide_false, pw18, hm, decide_eq_true h, firstI, if_pos h]
    rfl
  · simp only [den_law_draw, dDisp, vals, x_bnd, x_bnS, x_c, x_var, x_varK, x_stl, x_stlV, x_stlL, x_stlE, x_stlD, x_bxd, x_bxV, x_bxK, x_okv, x_okm, x_d2, x_d2K, x_d2L, x_tst, x_tstK, x_ch, x_chK, x_chL, x_chMt, x_chMf, x_chN, x_and, x_andK, x_andT, x_andF, x_or, x_orK, x_orT, x_orF, x_not, x_notK, x_notL, x_tru, x_truK, x_truL, x_band, x_bandT, x_bandF, x_bor, x_borT, x_borF, x_bnot, x_bnotK, x_dif, x_difT, x_difF, x_anil, x_acons, x_aK, x_aL, x_tup, x_tupK, x_lst, x_lstK, x_cl, x_clK, x_fn, x_fnK, x_isi, x_isiK, x_isiL, x_neg, x_negK, x_revL, x_kget, x_kgetK, x_sl, x_slK, x_slL, x_pnone, x_psome, x_psK, x_mt, x_mtK, x_mtL, x_itA, x_itAK, x_itL, x_itSeq, x_seqK, x_itStr, x_istrK, x_comp, x_compK, x_compL, x_wipe1, x_wipe2, x_seq, x_sqN, x_sqR, x_sqB, x_sqC, x_next, x_ret, x_retK, x_retN, x_asg, x_asgB, x_asgK, x_drop, x_dropK, x_if, x_ifT, x_ifF, x_for, x_forK, x_tgt, x_tgtK, x_tgtL, x_tname, x_par, x_parK, x_dput, x_dputK, x_dputK1, x_dputK2, x_dputL, x_def, x_defR, x_defN, y_add, y_sub, y_mul, y_mulX, y_mod, y_fdiv, y_lt, y_le, y_gt, y_ge, y_eqI, y_eqS, y_neI, y_neS, y_eqYI, y_eqYS, y_neYI, y_neYS, y_ixT, y_ixL, y_trB, y_k0, y_k1, y_k2, y_k3, y_k4, y_k5, y_k6, y_lenT, y_lenL, y_lenS, startE, List.map_cons, List.map_nil, List.length_cons, List.length_nil, List.replicate, List.cons_append, List.nil_append, List.append_nil, Nat.sub_self, Nat.reduceSub, Nat.reduceAdd, Nat.reduceLeDiff, Nat.reduceEqDiff, Nat.zero_add, Nat.zero_le, Nat.sub_zero, List.set_cons_zero, List.set_cons_succ, List.getElem?_cons_zero, List.getElem?_cons_succ, Bool.not_true, Bool.not_false, decide_true, decide_false, pw18, hm, decide_eq_false h, firstI, if_neg h]
    rfl
/-! faces -/
inductive Kd where
  | pl (i : Int)
  | ow (s : Str)
def Kd.d : Kd → D
  | .pl i => .int i
  | .ow s => .str s
def Kd.own : Kd → Bool
  | .pl _ => false
  | .ow _ => true
structure Dd where
  nm : Str
  tk : List Kd
  gv : Kd
def Dd.d (x : Dd) : D := .tup [.str x.nm, .tup (x.tk.map Kd.d), x.gv.d]
structure Fc where
  hd : List Str
  dd : List Dd
def Fc.d (f : Fc) : D := .tup [.tup (f.hd.map .str), .tup (f.dd.map Dd.d)]
def okK (hd : List Str) : Kd → Prop
  | .pl i => 2 ≤ i ∧ i ≤ 9
  | .ow s => s ∈ hd
def okN (s : Str) : Prop := nameB (.str s) = true
structure okD (hd : List Str) (x : Dd) : Prop where
  nm : okN x.nm
  len : x.tk.length ≤ 3
  tk : ∀ k ∈ x.tk, okK hd k
  two : (x.tk.filter Kd.own).length ≤ 2
  gv : okK hd x.gv
def Rise (a : Str) : List Str → Prop
  | [] => True
  | x :: l => strLt a x = true ∧ Rise x l
structure okF (f : Fc) : Prop where
  h1 : 1 ≤ f.hd.length
  h2 : f.hd.length ≤ 2
  hn : ∀ s ∈ f.hd, okN s
  hr : Rise "" f.hd
  d1 : 1 ≤ f.dd.length
  d2 : f.dd.length ≤ 8
  dn : ∀ x ∈ f.dd, okD f.hd x
  dr : Rise "" (f.dd.map Dd.nm)
theorem strs_in (s : Str) : ∀ l : List Str, (l.map D.str).any (fun d => eqF d (.str s)) = decide (s ∈ l)
  | [] => rfl
  | x :: l => by
    have e : eqF (.str x) (.str s) = (x == s) := rfl
    rw [List.map_cons, List.any_cons, strs_in s l, e]
    by_cases h : s = x
    · subst h
      simp
    · by_cases h2 : s ∈ l
      · rw [decide_eq_true h2, decide_eq_true (List.mem_cons_of_mem _ h2), Bool.or_true]
      · have h3 : ¬ s ∈ x :: l := fun q => (List.mem_cons.mp q).elim h h2
        rw [decide_eq_false h2, decide_eq_false h3, Bool.or_false]
        exact beq_eq_false_iff_ne.mpr fun q => h q.symm
theorem strs_no (i : Int) : ∀ l : List Str, (l.map D.str).any (fun d => eqF d (.int i)) = false
  | [] => rfl
  | x :: l => by
    rw [List.map_cons, List.any_cons, strs_no i l]
    rfl
theorem fix_T (ds : List D) : fixed (.tup ds) = some ds := rfl
theorem fix_L (ds : List D) : fixed (.lst ds) = some ds := rfl
def inG (S : Sto) (a b : D) : Option Bool := match viewS S b with
  | some ds => if a.flat && ds.all D.flat then some (ds.any fun d => eqF d a) else
    (match view S b with
     | some _ => if shp a && SeqAt.shaped (.list (pyL ds)) && plainL ds then some (ds.any fun z => PyData.eqv z.py a.py) else none
     | none => none)
  | none => none
theorem inB_g (S : Sto) (s : Str) {b : D} (hb : ∀ z, b ≠ .str z) : inB S (.str s) b = inG S (.str s) b := by
  obtain ⟨⟨c⟩⟩ := s
  cases b with
  | str z => exact absurd rfl (hb z)
  | _ => rcases c with _ | ⟨a, _ | ⟨b, c⟩⟩ <;> rfl
theorem inG_s (S : Sto) (s : Str) {b : D} {l : List Str} (e : viewS S b = some (l.map .str)) : inG S (.str s) b = some (decide (s ∈ l)) := by
  unfold inG
  rw [e]
  show (if ((D.str s).flat && (l.map D.str).all D.flat) = true then some ((l.map D.str).any fun d => eqF d (.str s)) else _) = _
  rw [flat_strs, strs_in]
  rfl
theorem inB_T (S : Sto) (s : Str) (l : List Str) : inB S (.str s) (.tup (l.map .str)) = some (decide (s ∈ l)) := by
  rw [inB_g S s (fun _ z => by cases z), inG_s S s rfl]
theorem inB_L (S : Sto) (s : Str) (l : List Str) : inB S (.str s) (.lst (l.map .str)) = some (decide (s ∈ l)) := by
  rw [inB_g S s (fun _ z => by cases z), inG_s S s rfl]
theorem inB_I (S : Sto) (i : Int) (l : List Str) : inB S (.int i) (.tup (l.map .str)) = some false := by
  have e : inB S (.int i) (.tup (l.map .str)) = if ((D.int i).flat && (l.map D.str).all D.flat) = true then some ((l.map D.str).any fun d => eqF d (.int i)) else _ := rfl
  rw [e, flat_strs, strs_no]
  rfl
theorem view_R {S : Sto} {n : Nat} {ds : List D} (h : S[n]? = some (.lst ds)) : viewS S (.ref n) = some ds := by
  show view S (.ref n) = _
  simp only [view, h]
theorem inB_R {S : Sto} {n : Nat} {l : List Str} (h : S[n]? = some (.lst (l.map .str))) (s : Str) : inB S (.str s) (.ref n) = some (decide (s ∈ l)) := by
  rw [inB_g S s (fun _ z => by cases z), inG_s S s (view_R h)]
theorem in_T (S : Sto) (s : Str) (l : List Str) : inD S (.str s) (.tup (l.map .str)) = some (.val (.bl (decide (s ∈ l)))) := by unfold inD; rw [inB_T]; rfl
theorem notin_L (S : Sto) (s : Str) (l : List Str) : notInD S (.str s) (.lst (l.map .str)) = some (.val (.bl (!decide (s ∈ l)))) := by unfold notInD; rw [inB_L]; rfl
theorem in_I (S : Sto) (i : Int) (l : List Str) : inD S (.int i) (.tup (l.map .str)) = some (.val (.bl false)) := by unfold inD; rw [inB_I]; rfl
theorem notin_R {S : Sto} {n : Nat} {l : List Str} (h : S[n]? = some (.lst (l.map .str))) (s : Str) : notInD S (.str s) (.ref n) = some (.val (.bl (!decide (s ∈ l)))) := by unfold notInD; rw [inB_R h]; rfl
theorem n_fit {s : Str} (h : okN s) : Fit 8 0 (.str s) := by
  unfold okN nameB at h
  rw [Bool.and_eq_true, Bool.and_eq_true] at h
  have hl := of_decide_eq_true h.1.2
  refine ⟨?_, ?_, Nat.le_refl _⟩
  · simp only [fitB, List.all_eq_true]
    intro c hc
    have hm : D.str ⟨#[c]⟩ ∈ signsL s := List.mem_map.mpr ⟨c, hc, rfl⟩
    have q := of_decide_eq_true (List.all_eq_true.mp h.2 _ hm)
    have k : lets.all (fun c => decide (c < 128)) = true := by decide +kernel
    have := of_decide_eq_true (List.all_eq_true.mp k c q)
    exact decide_eq_true (Nat.lt_trans this (by decide))
  · have e : s.length = s.cps.size := rfl
    simp only [wt, D.py, PyData.weight]
    omega
theorem n_pos {s : Str} (h : okN s) : 1 ≤ s.length ∧ s.length ≤ 8 := by
  unfold okN nameB at h
  rw [Bool.and_eq_true, Bool.and_eq_true] at h
  exact ⟨of_decide_eq_true h.1.1, of_decide_eq_true h.1.2⟩
theorem e_nm {s : Str} (h : okN s) (S : Sto) : den_is_name [.str s] S = some (.ok (.val (.bl true)) S) := by
  rw [e_name S (n_fit h) (by decide), h]
theorem e_wholeI (S : Sto) (i : Int) : den_is_whole [.int i] S = some (.ok (.val (.bl true)) S) := rfl
theorem e_wholeS (S : Sto) (s : Str) : den_is_whole [.str s] S = some (.ok (.val (.bl false)) S) := rfl
theorem e_plainI (S : Sto) {i : Int} (h : 2 ≤ i ∧ i ≤ 9) : den_is_plain [.int i] S = some (.ok (.val (.bl true)) S) := by
  simp only [den_is_plain, den_is_among, x_bnd, x_bnS, x_c, x_var, x_varK, x_stl, x_stlV, x_stlL, x_stlE, x_stlD, x_bxd, x_bxV, x_bxK, x_okv, x_okm, x_d2, x_d2K, x_d2L, x_tst, x_tstK, x_ch, x_chK, x_chL, x_chMt, x_chMf, x_chN, x_and, x_andK, x_andT, x_andF, x_or, x_orK, x_orT, x_orF, x_not, x_notK, x_notL, x_tru, x_truK, x_truL, x_band, x_bandT, x_bandF, x_bor, x_borT, x_borF, x_bnot, x_bnotK, x_dif, x_difT, x_difF, x_anil, x_acons, x_aK, x_aL, x_tup, x_tupK, x_lst, x_lstK, x_cl, x_clK, x_fn, x_fnK, x_isi, x_isiK, x_isiL, x_neg, x_negK, x_revL, x_kget, x_kgetK, x_sl, x_slK, x_slL, x_pnone, x_psome, x_psK, x_mt, x_mtK, x_mtL, x_itA, x_itAK, x_itL, x_itSeq, x_seqK, x_itStr, x_istrK, x_comp, x_compK, x_compL, x_wipe1, x_wipe2, x_seq, x_sqN, x_sqR, x_sqB, x_sqC, x_next, x_ret, x_retK, x_retN, x_asg, x_asgB, x_asgK, x_drop, x_dropK, x_if, x_ifT, x_ifF, x_for, x_forK, x_tgt, x_tgtK, x_tgtL, x_tname, x_par, x_parK, x_dput, x_dputK, x_dputK1, x_dputK2, x_dputL, x_def, x_defR, x_defN, y_add, y_sub, y_mul, y_mulX, y_mod, y_fdiv, y_lt, y_le, y_gt, y_ge, y_eqI, y_eqS, y_neI, y_neS, y_eqYI, y_eqYS, y_neYI, y_neYS, y_ixT, y_ixL, y_trB, y_k0, y_k1, y_k2, y_k3, y_k4, y_k5, y_k6, y_lenT, y_lenL, y_lenS, startE, List.map_cons, List.map_nil, List.length_cons, List.length_nil, List.replicate, List.cons_append, List.nil_append, List.append_nil, Nat.sub_self, Nat.reduceSub, Nat.reduceAdd, Nat.reduceLeDiff, Nat.reduceEqDiff, Nat.zero_add, Nat.zero_le, Nat.sub_zero, List.set_cons_zero, List.set_cons_succ, List.getElem?_cons_zero, List.getElem?_cons_succ, Bool.not_true, Bool.not_false, decide_true, decide_false, e_wholeI, decide_eq_true h.1, decide_eq_true h.2]
theorem e_plainS (S : Sto) (s : Str) : den_is_plain [.str s] S = some (.ok (.val (.bl false)) S) := by
  simp only [den_is_plain, den_is_among, x_bnd, x_bnS, x_c, x_var, x_varK, x_stl, x_stlV, x_stlL, x_stlE, x_stlD, x_bxd, x_bxV, x_bxK, x_okv, x_okm, x_d2, x_d2K, x_d2L, x_tst, x_tstK, x_ch, x_chK, x_chL, x_chMt, x_chMf, x_chN, x_and, x_andK, x_andT, x_andF, x_or, x_orK, x_orT, x_orF, x_not, x_notK, x_notL, x_tru, x_truK, x_truL, x_band, x_bandT, x_bandF, x_bor, x_borT, x_borF, x_bnot, x_bnotK, x_dif, x_difT, x_difF, x_anil, x_acons, x_aK, x_aL, x_tup, x_tupK, x_lst, x_lstK, x_cl, x_clK, x_fn, x_fnK, x_isi, x_isiK, x_isiL, x_neg, x_negK, x_revL, x_kget, x_kgetK, x_sl, x_slK, x_slL, x_pnone, x_psome, x_psK, x_mt, x_mtK, x_mtL, x_itA, x_itAK, x_itL, x_itSeq, x_seqK, x_itStr, x_istrK, x_comp, x_compK, x_compL, x_wipe1, x_wipe2, x_seq, x_sqN, x_sqR, x_sqB, x_sqC, x_next, x_ret, x_retK, x_retN, x_asg, x_asgB, x_asgK, x_drop, x_dropK, x_if, x_ifT, x_ifF, x_for, x_forK, x_tgt, x_tgtK, x_tgtL, x_tname, x_par, x_parK, x_dput, x_dputK, x_dputK1, x_dputK2, x_dputL, x_def, x_defR, x_defN, y_add, y_sub, y_mul, y_mulX, y_mod, y_fdiv, y_lt, y_le, y_gt, y_ge, y_eqI, y_eqS, y_neI, y_neS, y_eqYI, y_eqYS, y_neYI, y_neYS, y_ixT, y_ixL, y_trB, y_k0, y_k1, y_k2, y_k3, y_k4, y_k5, y_k6, y_lenT, y_lenL, y_lenS, startE, List.map_cons, List.map_nil, List.length_cons, List.length_nil, List.replicate, List.cons_append, List.nil_append, List.append_nil, Nat.sub_self, Nat.reduceSub, Nat.reduceAdd, Nat.reduceLeDiff, Nat.reduceEqDiff, Nat.zero_add, Nat.zero_le, Nat.sub_zero, List.set_cons_zero, List.set_cons_succ, List.getElem?_cons_zero, List.getElem?_cons_succ, Bool.not_true, Bool.not_false, decide_true, decide_false, e_wholeS]
theorem e_plain (S : Sto) {hd : List Str} {k : Kd} (h : okK hd k) : den_is_plain [k.d] S = some (.ok (.val (.bl (!k.own))) S) := by
  cases k with
  | pl i => exact e_plainI S h
  | ow s => exact e_plainS S s
theorem e_kind (S : Sto) {hd : List Str} {k : Kd} (h : okK hd k) : den_is_kind [k.d, .tup (hd.map .str)] S = some (.ok (.val (.bl true)) S) := by
  cases k with
  | pl i => simp only [den_is_kind, Kd.d, x_bnd, x_bnS, x_c, x_var, x_varK, x_stl, x_stlV, x_stlL, x_stlE, x_stlD, x_bxd, x_bxV, x_bxK, x_okv, x_okm, x_d2, x_d2K, x_d2L, x_tst, x_tstK, x_ch, x_chK, x_chL, x_chMt, x_chMf, x_chN, x_and, x_andK, x_andT, x_andF, x_or, x_orK, x_orT, x_orF, x_not, x_notK, x_notL, x_tru, x_truK, x_truL, x_band, x_bandT, x_bandF, x_bor, x_borT, x_borF, x_bnot, x_bnotK, x_dif, x_difT, x_difF, x_anil, x_acons, x_aK, x_aL, x_tup, x_tupK, x_lst, x_lstK, x_cl, x_clK, x_fn, x_fnK, x_isi, x_isiK, x_isiL, x_neg, x_negK, x_revL, x_kget, x_kgetK, x_sl, x_slK, x_slL, x_pnone, x_psome, x_psK, x_mt, x_mtK, x_mtL, x_itA, x_itAK, x_itL, x_itSeq, x_seqK, x_itStr, x_istrK, x_comp, x_compK, x_compL, x_wipe1, x_wipe2, x_seq, x_sqN, x_sqR, x_sqB, x_sqC, x_next, x_ret, x_retK, x_retN, x_asg, x_asgB, x_asgK, x_drop, x_dropK, x_if, x_ifT, x_ifF, x_for, x_forK, x_tgt, x_tgtK, x_tgtL, x_tname, x_par, x_parK, x_dput, x_dputK, x_dputK1, x_dputK2, x_dputL, x_def, x_defR, x_defN, y_add, y_sub, y_mul, y_mulX, y_mod, y_fdiv, y_lt, y_le, y_gt, y_ge, y_eqI, y_eqS, y_neI, y_neS, y_eqYI, y_eqYS, y_neYI, y_neYS, y_ixT, y_ixL, y_trB, y_k0, y_k1, y_k2, y_k3, y_k4, y_k5, y_k6, y_lenT, y_lenL, y_lenS, startE, List.map_cons, List.map_nil, List.length_cons, List.length_nil, List.replicate, List.cons_append, List.nil_append, List.append_nil, Nat.sub_self, Nat.reduceSub, Nat.reduceAdd, Nat.reduceLeDiff, Nat.reduceEqDiff, Nat.zero_add, Nat.zero_le, Nat.sub_zero, List.set_cons_zero, List.set_cons_succ, List.getElem?_cons_zero, List.getElem?_cons_succ, Bool.not_true, Bool.not_false, decide_true, decide_false, e_plainI S h]
  | ow s =>
    have e := in_T S s hd
    have h : s ∈ hd := h
    rw [decide_eq_true h] at e
    simp only [den_is_kind, Kd.d, x_bnd, x_bnS, x_c, x_var, x_varK, x_stl, x_stlV, x_stlL, x_stlE, x_stlD, x_bxd, x_bxV, x_bxK, x_okv, x_okm, x_d2, x_d2K, x_d2L, x_tst, x_tstK, x_ch, x_chK, x_chL, x_chMt, x_chMf, x_chN, x_and, x_andK, x_andT, x_andF, x_or, x_orK, x_orT, x_orF, x_not, x_notK, x_notL, x_tru, x_truK, x_truL, x_band, x_bandT, x_bandF, x_bor, x_borT, x_borF, x_bnot, x_bnotK, x_dif, x_difT, x_difF, x_anil, x_acons, x_aK, x_aL, x_tup, x_tupK, x_lst, x_lstK, x_cl, x_clK, x_fn, x_fnK, x_isi, x_isiK, x_isiL, x_neg, x_negK, x_revL, x_kget, x_kgetK, x_sl, x_slK, x_slL, x_pnone, x_psome, x_psK, x_mt, x_mtK, x_mtL, x_itA, x_itAK, x_itL, x_itSeq, x_seqK, x_itStr, x_istrK, x_comp, x_compK, x_compL, x_wipe1, x_wipe2, x_seq, x_sqN, x_sqR, x_sqB, x_sqC, x_next, x_ret, x_retK, x_retN, x_asg, x_asgB, x_asgK, x_drop, x_dropK, x_if, x_ifT, x_ifF, x_for, x_forK, x_tgt, x_tgtK, x_tgtL, x_tname, x_par, x_parK, x_dput, x_dputK, x_dputK1, x_dputK2, x_dputL, x_def, x_defR, x_defN, y_add, y_sub, y_mul, y_mulX, y_mod, y_fdiv, y_lt, y_le, y_gt, y_ge, y_eqI, y_eqS, y_neI, y_neS, y_eqYI, y_eqYS, y_neYI, y_neYS, y_ixT, y_ixL, y_trB, y_k0, y_k1, y_k2, y_k3, y_k4, y_k5, y_k6, y_lenT, y_lenL, y_lenS, startE, List.map_cons, List.map_nil, List.length_cons, List.length_nil, List.replicate, List.cons_append, List.nil_append, List.append_nil, Nat.sub_self, Nat.reduceSub, Nat.reduceAdd, Nat.reduceLeDiff, Nat.reduceEqDiff, Nat.zero_add, Nat.zero_le, Nat.sub_zero, List.set_cons_zero, List.set_cons_succ, List.getElem?_cons_zero, List.getElem?_cons_succ, Bool.not_true, Bool.not_false, decide_true, decide_false, e_plainS, z_int0, z_int1, z_int2, z_int3, z_int4, z_int5, z_int6, z_bool0, z_bool1, z_bool2, z_bool3, z_bool4, z_bool5, z_bool6, z_str0, z_str1, z_str2, z_str3, z_str4, z_str5, z_str6, z_tuple0, z_tuple1, z_tuple2, z_tuple3, z_tuple4, z_tuple5, z_tuple6, z_list0, z_list1, z_list2, z_list3, z_list4, z_list5, z_list6, z_dict0, z_dict1, z_dict2, z_dict3, z_dict4, z_dict5, z_dict6, e]
def strB : D → Bool
  | .str _ => true
  | _ => false
theorem strF : ∀ tk : List Kd, (tk.map Kd.d).filter strB = (tk.filter Kd.own).map Kd.d
  | [] => rfl
  | .pl i :: tk => by
    rw [List.map_cons, List.filter_cons_of_neg (by simp [Kd.d, strB]), List.filter_cons_of_neg (by simp [Kd.own]), strF tk]
  | .ow s :: tk => by
    rw [List.map_cons, List.filter_cons_of_pos (by simp [Kd.d, strB]), List.filter_cons_of_pos (by simp [Kd.own]), strF tk, List.map_cons]
theorem own_str (k : Kd) : strB k.d = k.own := by cases k <;> rfl
theorem all_true {α : Type} (l : List α) : l.all (fun _ => true) = true := by
  rw [List.all_eq_true]
  exact fun _ _ => rfl
theorem e_taken (S : Sto) {hd : List Str} {tk : List Kd} (hl : tk.length ≤ 3) (hk : ∀ k ∈ tk, okK hd k) (h2 : (tk.filter Kd.own).length ≤ 2) :
    den_are_taken [.tup (tk.map Kd.d), .tup (hd.map .str)] S = some (.ok (.val (.bl true)) S) := by
  have g1 : decide ((3 : Int) < (((tk.map Kd.d).length : Nat) : Int)) = false := decide_eq_false (by rw [List.length_map]; omega)
  have lp1 := loop_bl ([some (.tup (tk.map Kd.d)), some (.tup (hd.map .str)), none]) (fun _ => true) (dFn 2 den_is_kind (aCons (dVar 2) (aCons (dVar 1) aNil))) 2 (tk.map Kd.d) 0 S (by rw [List.length_map]; exact Nat.le_trans (Nat.le_trans (by omega) hl) (by decide)) (fun x hx => by
    obtain ⟨k, hk', rfl⟩ := List.mem_map.mp hx
    simp only [x_bnd, x_bnS, x_c, x_var, x_varK, x_stl, x_stlV, x_stlL, x_stlE, x_stlD, x_bxd, x_bxV, x_bxK, x_okv, x_okm, x_d2, x_d2K, x_d2L, x_tst, x_tstK, x_ch, x_chK, x_chL, x_chMt, x_chMf, x_chN, x_and, x_andK, x_andT, x_andF, x_or, x_orK, x_orT, x_orF, x_not, x_notK, x_notL, x_tru, x_truK, x_truL, x_band, x_bandT, x_bandF, x_bor, x_borT, x_borF, x_bnot, x_bnotK, x_dif, x_difT, x_difF, x_anil, x_acons, x_aK, x_aL, x_tup, x_tupK, x_lst, x_lstK, x_cl, x_clK, x_fn, x_fnK, x_isi, x_isiK, x_isiL, x_neg, x_negK, x_revL, x_kget, x_kgetK, x_sl, x_slK, x_slL, x_pnone, x_psome, x_psK, x_mt, x_mtK, x_mtL, x_itA, x_itAK, x_itL, x_itSeq, x_seqK, x_itStr, x_istrK, x_comp, x_compK, x_compL, x_wipe1, x_wipe2, x_seq, x_sqN, x_sqR, x_sqB, x_sqC, x_next, x_ret, x_retK, x_retN, x_asg, x_asgB, x_asgK, x_drop, x_dropK, x_if, x_ifT, x_ifF, x_for, x_forK, x_tgt, x_tgtK, x_tgtL, x_tname, x_par, x_parK, x_dput, x_dputK, x_dputK1, x_dputK2, x_dputL, x_def, x_defR, x_defN, y_add, y_sub, y_mul, y_mulX, y_mod, y_fdiv, y_lt, y_le, y_gt, y_ge, y_eqI, y_eqS, y_neI, y_neS, y_eqYI, y_eqYS, y_neYI, y_neYS, y_ixT, y_ixL, y_trB, y_k0, y_k1, y_k2, y_k3, y_k4, y_k5, y_k6, y_lenT, y_lenL, y_lenS, startE, List.map_cons, List.map_nil, List.length_cons, List.length_nil, List.replicate, List.cons_append, List.nil_append, List.append_nil, Nat.sub_self, Nat.reduceSub, Nat.reduceAdd, Nat.reduceLeDiff, Nat.reduceEqDiff, Nat.zero_add, Nat.zero_le, Nat.sub_zero, List.set_cons_zero, List.set_cons_succ, List.getElem?_cons_zero, List.getElem?_cons_succ, Bool.not_true, Bool.not_false, decide_true, decide_false, e_kind S (hk k hk')])
  have lp2 := loop_flt ([some (.tup (tk.map Kd.d)), some (.tup (hd.map .str)), none]) strB (bNot (dTru (dFn 1 den_is_plain (aCons (dVar 2) aNil)))) 2 (tk.map Kd.d) 0 S (by simp) (by rw [List.length_map]; exact Nat.le_trans (Nat.le_trans (by omega) hl) (by decide)) (fun x hx => by
    obtain ⟨k, hk', rfl⟩ := List.mem_map.mp hx
    simp only [x_bnd, x_bnS, x_c, x_var, x_varK, x_stl, x_stlV, x_stlL, x_stlE, x_stlD, x_bxd, x_bxV, x_bxK, x_okv, x_okm, x_d2, x_d2K, x_d2L, x_tst, x_tstK, x_ch, x_chK, x_chL, x_chMt, x_chMf, x_chN, x_and, x_andK, x_andT, x_andF, x_or, x_orK, x_orT, x_orF, x_not, x_notK, x_notL, x_tru, x_truK, x_truL, x_band, x_bandT, x_bandF, x_bor, x_borT, x_borF, x_bnot, x_bnotK, x_dif, x_difT, x_difF, x_anil, x_acons, x_aK, x_aL, x_tup, x_tupK, x_lst, x_lstK, x_cl, x_clK, x_fn, x_fnK, x_isi, x_isiK, x_isiL, x_neg, x_negK, x_revL, x_kget, x_kgetK, x_sl, x_slK, x_slL, x_pnone, x_psome, x_psK, x_mt, x_mtK, x_mtL, x_itA, x_itAK, x_itL, x_itSeq, x_seqK, x_itStr, x_istrK, x_comp, x_compK, x_compL, x_wipe1, x_wipe2, x_seq, x_sqN, x_sqR, x_sqB, x_sqC, x_next, x_ret, x_retK, x_retN, x_asg, x_asgB, x_asgK, x_drop, x_dropK, x_if, x_ifT, x_ifF, x_for, x_forK, x_tgt, x_tgtK, x_tgtL, x_tname, x_par, x_parK, x_dput, x_dputK, x_dputK1, x_dputK2, x_dputL, x_def, x_defR, x_defN, y_add, y_sub, y_mul, y_mulX, y_mod, y_fdiv, y_lt, y_le, y_gt, y_ge, y_eqI, y_eqS, y_neI, y_neS, y_eqYI, y_eqYS, y_neYI, y_neYS, y_ixT, y_ixL, y_trB, y_k0, y_k1, y_k2, y_k3, y_k4, y_k5, y_k6, y_lenT, y_lenL, y_lenS, startE, List.map_cons, List.map_nil, List.length_cons, List.length_nil, List.replicate, List.cons_append, List.nil_append, List.append_nil, Nat.sub_self, Nat.reduceSub, Nat.reduceAdd, Nat.reduceLeDiff, Nat.reduceEqDiff, Nat.zero_add, Nat.zero_le, Nat.sub_zero, List.set_cons_zero, List.set_cons_succ, List.getElem?_cons_zero, List.getElem?_cons_succ, Bool.not_true, Bool.not_false, decide_true, decide_false, e_plain S (hk k hk'), Bool.not_not, own_str])
  rw [strF] at lp2
  have g2 : decide (((((tk.filter Kd.own).map Kd.d).length : Nat) : Int) ≤ 2) = true := decide_eq_true (by rw [List.length_map]; omega)
  have ya := y_all S (tk.map Kd.d) (fun _ => true)
  rw [all_true] at ya
  generalize tk.map Kd.d = ts at *
  generalize (tk.filter Kd.own).map Kd.d = us at *
  generalize hd.map D.str = hs at *
  simp only [den_are_taken, x_bnd, x_bnS, x_c, x_var, x_varK, x_stl, x_stlV, x_stlL, x_stlE, x_stlD, x_bxd, x_bxV, x_bxK, x_okv, x_okm, x_d2, x_d2K, x_d2L, x_tst, x_tstK, x_ch, x_chK, x_chL, x_chMt, x_chMf, x_chN, x_and, x_andK, x_andT, x_andF, x_or, x_orK, x_orT, x_orF, x_not, x_notK, x_notL, x_tru, x_truK, x_truL, x_band, x_bandT, x_bandF, x_bor, x_borT, x_borF, x_bnot, x_bnotK, x_dif, x_difT, x_difF, x_anil, x_acons, x_aK, x_aL, x_tup, x_tupK, x_lst, x_lstK, x_cl, x_clK, x_fn, x_fnK, x_isi, x_isiK, x_isiL, x_neg, x_negK, x_revL, x_kget, x_kgetK, x_sl, x_slK, x_slL, x_pnone, x_psome, x_psK, x_mt, x_mtK, x_mtL, x_itA, x_itAK, x_itL, x_itSeq, x_seqK, x_itStr, x_istrK, x_comp, x_compK, x_compL, x_wipe1, x_wipe2, x_seq, x_sqN, x_sqR, x_sqB, x_sqC, x_next, x_ret, x_retK, x_retN, x_asg, x_asgB, x_asgK, x_drop, x_dropK, x_if, x_ifT, x_ifF, x_for, x_forK, x_tgt, x_tgtK, x_tgtL, x_tname, x_par, x_parK, x_dput, x_dputK, x_dputK1, x_dputK2, x_dputL, x_def, x_defR, x_defN, y_add, y_sub, y_mul, y_mulX, y_mod, y_fdiv, y_lt, y_le, y_gt, y_ge, y_eqI, y_eqS, y_neI, y_neS, y_eqYI, y_eqYS, y_neYI, y_neYS, y_ixT, y_ixL, y_trB, y_k0, y_k1, y_k2, y_k3, y_k4, y_k5, y_k6, y_lenT, y_lenL, y_lenS, startE, List.map_cons, List.map_nil, List.length_cons, List.length_nil, List.replicate, List.cons_append, List.nil_append, List.append_nil, Nat.sub_self, Nat.reduceSub, Nat.reduceAdd, Nat.reduceLeDiff, Nat.reduceEqDiff, Nat.zero_add, Nat.zero_le, Nat.sub_zero, List.set_cons_zero, List.set_cons_succ, List.getElem?_cons_zero, List.getElem?_cons_succ, Bool.not_true, Bool.not_false, decide_true, decide_false, z_int0, z_int1, z_int2, z_int3, z_int4, z_int5, z_int6, z_bool0, z_bool1, z_bool2, z_bool3, z_bool4, z_bool5, z_bool6, z_str0, z_str1, z_str2, z_str3, z_str4, z_str5, z_str6, z_tuple0, z_tuple1, z_tuple2, z_tuple3, z_tuple4, z_tuple5, z_tuple6, z_list0, z_list1, z_list2, z_list3, z_list4, z_list5, z_list6, z_dict0, z_dict1, z_dict2, z_dict3, z_dict4, z_dict5, z_dict6, g1, fix_T, lp1, ya, lp2, g2]
theorem e_deed (S : Sto) {hd : List Str} {x : Dd} (h : okD hd x) : den_is_deed [x.d, .tup (hd.map .str)] S = some (.ok (.val (.bl true)) S) := by
  have e1 := e_taken S h.len h.tk h.two
  have e2 := e_kind S h.gv
  have e3 := e_nm h.nm S
  have g : (!decide ((((0 + 1 + 1 + 1 : Nat)) : Int) = 3)) = false := by decide
  unfold Dd.d
  generalize x.tk.map Kd.d = ts at *
  generalize hd.map D.str = hs at *
  generalize x.gv.d = z at *
  have a0 : atI [D.str x.nm, .tup ts, z] 0 = some (.str x.nm) := rfl
  have a1 : atI [D.str x.nm, .tup ts, z] 1 = some (.tup ts) := rfl
  have a2 : atI [D.str x.nm, .tup ts, z] 2 = some z := rfl
  simp only [den_is_deed, x_bnd, x_bnS, x_c, x_var, x_varK, x_stl, x_stlV, x_stlL, x_stlE, x_stlD, x_bxd, x_bxV, x_bxK, x_okv, x_okm, x_d2, x_d2K, x_d2L, x_tst, x_tstK, x_ch, x_chK, x_chL, x_chMt, x_chMf, x_chN, x_and, x_andK, x_andT, x_andF, x_or, x_orK, x_orT, x_orF, x_not, x_notK, x_notL, x_tru, x_truK, x_truL, x_band, x_bandT, x_bandF, x_bor, x_borT, x_borF, x_bnot, x_bnotK, x_dif, x_difT, x_difF, x_anil, x_acons, x_aK, x_aL, x_tup, x_tupK, x_lst, x_lstK, x_cl, x_clK, x_fn, x_fnK, x_isi, x_isiK, x_isiL, x_neg, x_negK, x_revL, x_kget, x_kgetK, x_sl, x_slK, x_slL, x_pnone, x_psome, x_psK, x_mt, x_mtK, x_mtL, x_itA, x_itAK, x_itL, x_itSeq, x_seqK, x_itStr, x_istrK, x_comp, x_compK, x_compL, x_wipe1, x_wipe2, x_seq, x_sqN, x_sqR, x_sqB, x_sqC, x_next, x_ret, x_retK, x_retN, x_asg, x_asgB, x_asgK, x_drop, x_dropK, x_if, x_ifT, x_ifF, x_for, x_forK, x_tgt, x_tgtK, x_tgtL, x_tname, x_par, x_parK, x_dput, x_dputK, x_dputK1, x_dputK2, x_dputL, x_def, x_defR, x_defN, y_add, y_sub, y_mul, y_mulX, y_mod, y_fdiv, y_lt, y_le, y_gt, y_ge, y_eqI, y_eqS, y_neI, y_neS, y_eqYI, y_eqYS, y_neYI, y_neYS, y_ixT, y_ixL, y_trB, y_k0, y_k1, y_k2, y_k3, y_k4, y_k5, y_k6, y_lenT, y_lenL, y_lenS, startE, List.map_cons, List.map_nil, List.length_cons, List.length_nil, List.replicate, List.cons_append, List.nil_append, List.append_nil, Nat.sub_self, Nat.reduceSub, Nat.reduceAdd, Nat.reduceLeDiff, Nat.reduceEqDiff, Nat.zero_add, Nat.zero_le, Nat.sub_zero, List.set_cons_zero, List.set_cons_succ, List.getElem?_cons_zero, List.getElem?_cons_succ, Bool.not_true, Bool.not_false, decide_true, decide_false, z_int0, z_int1, z_int2, z_int3, z_int4, z_int5, z_int6, z_bool0, z_bool1, z_bool2, z_bool3, z_bool4, z_bool5, z_bool6, z_str0, z_str1, z_str2, z_str3, z_str4, z_str5, z_str6, z_tuple0, z_tuple1, z_tuple2, z_tuple3, z_tuple4, z_tuple5, z_tuple6, z_list0, z_list1, z_list2, z_list3, z_list4, z_list5, z_list6, z_dict0, z_dict1, z_dict2, z_dict3, z_dict4, z_dict5, z_dict6, g, a0, a1, a2, Option.map_some, e1, e2, e3]
theorem ls_cons {t : Tn} {s : Sn} {x : D} {xs : List D} {ρ ρ1 ρ2 : En} {S S2 : Sto} {r : Option Fl} (ht : t ρ x = some ρ1) (hs : s ρ1 S = some (.nx ρ2 S2)) (hr : loopS t s xs ρ2 S2 = r) : loopS t s (x :: xs) ρ S = r := by
  rw [loopS, ht]
  show (match s ρ1 S with
    | some (.nx ρ' S') => loopS t s xs ρ' S'
    | some (.ct ρ' S') => loopS t s xs ρ' S'
    | some (.bk ρ' S') => some (.nx ρ' S')
    | o => o) = r
  rw [hs]
  exact hr
theorem lt_asym {a b : Str} (h : strLt a b = true) : strLt b a = false := by
  have h := of_decide_eq_true h
  exact decide_eq_false fun q => List.lt_asymm h q
theorem le_of_lt (S : Sto) {a b : Str} (h : strLt a b = true) : leD S (.str b) (.str a) = some (.val (.bl false)) := by
  show some (Out.val (.bl (!strLt a b))) = _
  rw [h]
  rfl
def bhS : Sn := sSeq (sIf (bOr (bNot (dTru (dFn 1 den_is_name (aCons (dVar 3) aNil)))) (tst (d2 leD (dVar 3) (dVar 1)))) (sRet (dVar 2)) sNext) (sAsg 1 (dVar 3))
theorem bh_one (S : Sto) (h : D) (k : Int) (a s : Str) (x : Option D) (hn : okN s) (hr : strLt a s = true) : bhS [some h, some (.str a), some (.int k), some (.str s)] S = some (.nx [some h, some (.str s), some (.int k), some (.str s)] S) := by
  have e1 := e_nm hn S
  have e2 := le_of_lt S hr
  simp only [bhS, x_bnd, x_bnS, x_c, x_var, x_varK, x_stl, x_stlV, x_stlL, x_stlE, x_stlD, x_bxd, x_bxV, x_bxK, x_okv, x_okm, x_d2, x_d2K, x_d2L, x_tst, x_tstK, x_ch, x_chK, x_chL, x_chMt, x_chMf, x_chN, x_and, x_andK, x_andT, x_andF, x_or, x_orK, x_orT, x_orF, x_not, x_notK, x_notL, x_tru, x_truK, x_truL, x_band, x_bandT, x_bandF, x_bor, x_borT, x_borF, x_bnot, x_bnotK, x_dif, x_difT, x_difF, x_anil, x_acons, x_aK, x_aL, x_tup, x_tupK, x_lst, x_lstK, x_cl, x_clK, x_fn, x_fnK, x_isi, x_isiK, x_isiL, x_neg, x_negK, x_revL, x_kget, x_kgetK, x_sl, x_slK, x_slL, x_pnone, x_psome, x_psK, x_mt, x_mtK, x_mtL, x_itA, x_itAK, x_itL, x_itSeq, x_seqK, x_itStr, x_istrK, x_comp, x_compK, x_compL, x_wipe1, x_wipe2, x_seq, x_sqN, x_sqR, x_sqB, x_sqC, x_next, x_ret, x_retK, x_retN, x_asg, x_asgB, x_asgK, x_drop, x_dropK, x_if, x_ifT, x_ifF, x_for, x_forK, x_tgt, x_tgtK, x_tgtL, x_tname, x_par, x_parK, x_dput, x_dputK, x_dputK1, x_dputK2, x_dputL, x_def, x_defR, x_defN, y_add, y_sub, y_mul, y_mulX, y_mod, y_fdiv, y_lt, y_le, y_gt, y_ge, y_eqI, y_eqS, y_neI, y_neS, y_eqYI, y_eqYS, y_neYI, y_neYS, y_ixT, y_ixL, y_trB, y_k0, y_k1, y_k2, y_k3, y_k4, y_k5, y_k6, y_lenT, y_lenL, y_lenS, startE, List.map_cons, List.map_nil, List.length_cons, List.length_nil, List.replicate, List.cons_append, List.nil_append, List.append_nil, Nat.sub_self, Nat.reduceSub, Nat.reduceAdd, Nat.reduceLeDiff, Nat.reduceEqDiff, Nat.zero_add, Nat.zero_le, Nat.sub_zero, List.set_cons_zero, List.set_cons_succ, List.getElem?_cons_zero, List.getElem?_cons_succ, Bool.not_true, Bool.not_false, decide_true, decide_false, e1, e2]
theorem bh_loop (S : Sto) (h : D) : ∀ (l : List Str) (k : Nat) (a : Str) (x y : Option D), (∀ s ∈ l, okN s) → Rise a l →
    ∃ a' x' y', loopS (tTup (tsCons (tName 2) (tsCons (tName 3) tsNil))) bhS (enumL k (l.map .str)) [some h, some (.str a), x, y] S = some (.nx [some h, some (.str a'), x', y'] S)
  | [], k, a, x, y, _, _ => ⟨a, x, y, rfl⟩
  | s :: l, k, a, x, y, hn, hr => by
    obtain ⟨a', x', y', ih⟩ := bh_loop S h l (k + 1) s (some (.int ((k : Nat) : Int))) (some (.str s)) (fun t ht => hn t (List.mem_cons_of_mem _ ht)) hr.2
    exact ⟨a', x', y', ls_cons rfl (bh_one S h _ a s none (hn s List.mem_cons_self) hr.1) ih⟩
theorem e_badh (S : Sto) {l : List Str} (hn : ∀ s ∈ l, okN s) (hr : Rise "" l) : den_bad_hidden [.tup (l.map .str)] S = some (.ok (.val .non) S) := by
  obtain ⟨a', x', y', e⟩ := bh_loop S (.tup (l.map .str)) l 0 "" none none hn hr
  unfold bhS at e
  have en : enumT [.tup (l.map .str)] = some (enumL 0 (l.map .str)) := rfl
  generalize enumL 0 (l.map .str) = es at *
  simp only [den_bad_hidden, x_bnd, x_bnS, x_c, x_var, x_varK, x_stl, x_stlV, x_stlL, x_stlE, x_stlD, x_bxd, x_bxV, x_bxK, x_okv, x_okm, x_d2, x_d2K, x_d2L, x_tst, x_tstK, x_ch, x_chK, x_chL, x_chMt, x_chMf, x_chN, x_and, x_andK, x_andT, x_andF, x_or, x_orK, x_orT, x_orF, x_not, x_notK, x_notL, x_tru, x_truK, x_truL, x_band, x_bandT, x_bandF, x_bor, x_borT, x_borF, x_bnot, x_bnotK, x_dif, x_difT, x_difF, x_anil, x_acons, x_aK, x_aL, x_tup, x_tupK, x_lst, x_lstK, x_cl, x_clK, x_fn, x_fnK, x_isi, x_isiK, x_isiL, x_neg, x_negK, x_revL, x_kget, x_kgetK, x_sl, x_slK, x_slL, x_pnone, x_psome, x_psK, x_mt, x_mtK, x_mtL, x_itA, x_itAK, x_itL, x_itSeq, x_seqK, x_itStr, x_istrK, x_comp, x_compK, x_compL, x_wipe1, x_wipe2, x_seq, x_sqN, x_sqR, x_sqB, x_sqC, x_next, x_ret, x_retK, x_retN, x_asg, x_asgB, x_asgK, x_drop, x_dropK, x_if, x_ifT, x_ifF, x_for, x_forK, x_tgt, x_tgtK, x_tgtL, x_tname, x_par, x_parK, x_dput, x_dputK, x_dputK1, x_dputK2, x_dputL, x_def, x_defR, x_defN, y_add, y_sub, y_mul, y_mulX, y_mod, y_fdiv, y_lt, y_le, y_gt, y_ge, y_eqI, y_eqS, y_neI, y_neS, y_eqYI, y_eqYS, y_neYI, y_neYS, y_ixT, y_ixL, y_trB, y_k0, y_k1, y_k2, y_k3, y_k4, y_k5, y_k6, y_lenT, y_lenL, y_lenS, startE, List.map_cons, List.map_nil, List.length_cons, List.length_nil, List.replicate, List.cons_append, List.nil_append, List.append_nil, Nat.sub_self, Nat.reduceSub, Nat.reduceAdd, Nat.reduceLeDiff, Nat.reduceEqDiff, Nat.zero_add, Nat.zero_le, Nat.sub_zero, List.set_cons_zero, List.set_cons_succ, List.getElem?_cons_zero, List.getElem?_cons_succ, Bool.not_true, Bool.not_false, decide_true, decide_false, en, e]
def bdS : Sn := sSeq (sIf (bOr (bNot (dTru (dFn 2 den_is_deed (aCons (dVar 4) (aCons (dVar 1) aNil))))) (tst (d2 leD (d2 ixD (dVar 4) (dC (.int 0))) (dVar 2)))) (sRet (dVar 3)) sNext) (sAsg 2 (d2 ixD (dVar 4) (dC (.int 0))))
theorem dd_ix0 (S : Sto) (x : Dd) : ixD S x.d (.int 0) = some (.val (.str x.nm)) := rfl
theorem dd_ix1 (S : Sto) (x : Dd) : ixD S x.d (.int 1) = some (.val (.tup (x.tk.map Kd.d))) := rfl
theorem dd_ix2 (S : Sto) (x : Dd) : ixD S x.d (.int 2) = some (.val x.gv.d) := rfl
theorem bd_one (S : Sto) (g : D) {hd : List Str} (k : Int) (a : Str) {x : Dd} (hx : okD hd x) (hr : strLt a x.nm = true) : bdS [some g, some (.tup (hd.map .str)), some (.str a), some (.int k), some x.d] S = some (.nx [some g, some (.tup (hd.map .str)), some (.str x.nm), some (.int k), some x.d] S) := by
  have e1 := e_deed S hx
  have e2 := le_of_lt S hr
  have e3 := dd_ix0 S x
  generalize x.d = X at *
  generalize hd.map D.str = hs at *
  simp only [bdS, x_bnd, x_bnS, x_c, x_var, x_varK, x_stl, x_stlV, x_stlL, x_stlE, x_stlD, x_bxd, x_bxV, x_bxK, x_okv, x_okm, x_d2, x_d2K, x_d2L, x_tst, x_tstK, x_ch, x_chK, x_chL, x_chMt, x_chMf, x_chN, x_and, x_andK, x_andT, x_andF, x_or, x_orK, x_orT, x_orF, x_not, x_notK, x_notL, x_tru, x_truK, x_truL, x_band, x_bandT, x_bandF, x_bor, x_borT, x_borF, x_bnot, x_bnotK, x_dif, x_difT, x_difF, x_anil, x_acons, x_aK, x_aL, x_tup, x_tupK, x_lst, x_lstK, x_cl, x_clK, x_fn, x_fnK, x_isi, x_isiK, x_isiL, x_neg, x_negK, x_revL, x_kget, x_kgetK, x_sl, x_slK, x_slL, x_pnone, x_psome, x_psK, x_mt, x_mtK, x_mtL, x_itA, x_itAK, x_itL, x_itSeq, x_seqK, x_itStr, x_istrK, x_comp, x_compK, x_compL, x_wipe1, x_wipe2, x_seq, x_sqN, x_sqR, x_sqB, x_sqC, x_next, x_ret, x_retK, x_retN, x_asg, x_asgB, x_asgK, x_drop, x_dropK, x_if, x_ifT, x_ifF, x_for, x_forK, x_tgt, x_tgtK, x_tgtL, x_tname, x_par, x_parK, x_dput, x_dputK, x_dputK1, x_dputK2, x_dputL, x_def, x_defR, x_defN, y_add, y_sub, y_mul, y_mulX, y_mod, y_fdiv, y_lt, y_le, y_gt, y_ge, y_eqI, y_eqS, y_neI, y_neS, y_eqYI, y_eqYS, y_neYI, y_neYS, y_ixT, y_ixL, y_trB, y_k0, y_k1, y_k2, y_k3, y_k4, y_k5, y_k6, y_lenT, y_lenL, y_lenS, startE, List.map_cons, List.map_nil, List.length_cons, List.length_nil, List.replicate, List.cons_append, List.nil_append, List.append_nil, Nat.sub_self, Nat.reduceSub, Nat.reduceAdd, Nat.reduceLeDiff, Nat.reduceEqDiff, Nat.zero_add, Nat.zero_le, Nat.sub_zero, List.set_cons_zero, List.set_cons_succ, List.getElem?_cons_zero, List.getElem?_cons_succ, Bool.not_true, Bool.not_false, decide_true, decide_false, e1, e2, e3]
theorem bd_loop (S : Sto) (g : D) {hd : List Str} : ∀ (l : List Dd) (k : Nat) (a : Str) (x y : Option D), (∀ s ∈ l, okD hd s) → Rise a (l.map Dd.nm) →
    ∃ a' x' y', loopS (tTup (tsCons (tName 3) (tsCons (tName 4) tsNil))) bdS (enumL k (l.map Dd.d)) [some g, some (.tup (hd.map .str)), some (.str a), x, y] S = some (.nx [some g, some (.tup (hd.map .str)), some (.str a'), x', y'] S)
  | [], k, a, x, y, _, _ => ⟨a, x, y, rfl⟩
  | s :: l, k, a, x, y, hn, hr => by
    obtain ⟨a', x', y', ih⟩ := bd_loop S g l (k + 1) s.nm (some (.int ((k : Nat) : Int))) (some s.d) (fun t ht => hn t (List.mem_cons_of_mem _ ht)) hr.2
    exact ⟨a', x', y', ls_cons rfl (bd_one S g _ a (hn s List.mem_cons_self) hr.1) ih⟩
theorem e_badd (S : Sto) {hd : List Str} {l : List Dd} (hn : ∀ s ∈ l, okD hd s) (hr : Rise "" (l.map Dd.nm)) : den_bad_deed [.tup (l.map Dd.d), .tup (hd.map .str)] S = some (.ok (.val .non) S) := by
  obtain ⟨a', x', y', e⟩ := bd_loop S (.tup (l.map Dd.d)) l 0 "" none none hn hr
  unfold bdS at e
  have en : enumT [.tup (l.map Dd.d)] = some (enumL 0 (l.map Dd.d)) := rfl
  generalize enumL 0 (l.map Dd.d) = es at *
  generalize l.map Dd.d = ds at *
  generalize hd.map D.str = hs at *
  simp only [den_bad_deed, x_bnd, x_bnS, x_c, x_var, x_varK, x_stl, x_stlV, x_stlL, x_stlE, x_stlD, x_bxd, x_bxV, x_bxK, x_okv, x_okm, x_d2, x_d2K, x_d2L, x_tst, x_tstK, x_ch, x_chK, x_chL, x_chMt, x_chMf, x_chN, x_and, x_andK, x_andT, x_andF, x_or, x_orK, x_orT, x_orF, x_not, x_notK, x_notL, x_tru, x_truK, x_truL, x_band, x_bandT, x_bandF, x_bor, x_borT, x_borF, x_bnot, x_bnotK, x_dif, x_difT, x_difF, x_anil, x_acons, x_aK, x_aL, x_tup, x_tupK, x_lst, x_lstK, x_cl, x_clK, x_fn, x_fnK, x_isi, x_isiK, x_isiL, x_neg, x_negK, x_revL, x_kget, x_kgetK, x_sl, x_slK, x_slL, x_pnone, x_psome, x_psK, x_mt, x_mtK, x_mtL, x_itA, x_itAK, x_itL, x_itSeq, x_seqK, x_itStr, x_istrK, x_comp, x_compK, x_compL, x_wipe1, x_wipe2, x_seq, x_sqN, x_sqR, x_sqB, x_sqC, x_next, x_ret, x_retK, x_retN, x_asg, x_asgB, x_asgK, x_drop, x_dropK, x_if, x_ifT, x_ifF, x_for, x_forK, x_tgt, x_tgtK, x_tgtL, x_tname, x_par, x_parK, x_dput, x_dputK, x_dputK1, x_dputK2, x_dputL, x_def, x_defR, x_defN, y_add, y_sub, y_mul, y_mulX, y_mod, y_fdiv, y_lt, y_le, y_gt, y_ge, y_eqI, y_eqS, y_neI, y_neS, y_eqYI, y_eqYS, y_neYI, y_neYS, y_ixT, y_ixL, y_trB, y_k0, y_k1, y_k2, y_k3, y_k4, y_k5, y_k6, y_lenT, y_lenL, y_lenS, startE, List.map_cons, List.map_nil, List.length_cons, List.length_nil, List.replicate, List.cons_append, List.nil_append, List.append_nil, Nat.sub_self, Nat.reduceSub, Nat.reduceAdd, Nat.reduceLeDiff, Nat.reduceEqDiff, Nat.zero_add, Nat.zero_le, Nat.sub_zero, List.set_cons_zero, List.set_cons_succ, List.getElem?_cons_zero, List.getElem?_cons_succ, Bool.not_true, Bool.not_false, decide_true, decide_false, en, e]
theorem e_part (S : Sto) (ds : List D) (m : Int) (h1 : 1 ≤ ds.length) (h2 : (ds.length : Int) ≤ m) : den_is_part [.tup ds, .int m] S = some (.ok (.val (.bl true)) S) := by
  have g1 : decide ((1 : Int) ≤ ((ds.length : Nat) : Int)) = true := decide_eq_true (by omega)
  simp only [den_is_part, x_bnd, x_bnS, x_c, x_var, x_varK, x_stl, x_stlV, x_stlL, x_stlE, x_stlD, x_bxd, x_bxV, x_bxK, x_okv, x_okm, x_d2, x_d2K, x_d2L, x_tst, x_tstK, x_ch, x_chK, x_chL, x_chMt, x_chMf, x_chN, x_and, x_andK, x_andT, x_andF, x_or, x_orK, x_orT, x_orF, x_not, x_notK, x_notL, x_tru, x_truK, x_truL, x_band, x_bandT, x_bandF, x_bor, x_borT, x_borF, x_bnot, x_bnotK, x_dif, x_difT, x_difF, x_anil, x_acons, x_aK, x_aL, x_tup, x_tupK, x_lst, x_lstK, x_cl, x_clK, x_fn, x_fnK, x_isi, x_isiK, x_isiL, x_neg, x_negK, x_revL, x_kget, x_kgetK, x_sl, x_slK, x_slL, x_pnone, x_psome, x_psK, x_mt, x_mtK, x_mtL, x_itA, x_itAK, x_itL, x_itSeq, x_seqK, x_itStr, x_istrK, x_comp, x_compK, x_compL, x_wipe1, x_wipe2, x_seq, x_sqN, x_sqR, x_sqB, x_sqC, x_next, x_ret, x_retK, x_retN, x_asg, x_asgB, x_asgK, x_drop, x_dropK, x_if, x_ifT, x_ifF, x_for, x_forK, x_tgt, x_tgtK, x_tgtL, x_tname, x_par, x_parK, x_dput, x_dputK, x_dputK1, x_dputK2, x_dputL, x_def, x_defR, x_defN, y_add, y_sub, y_mul, y_mulX, y_mod, y_fdiv, y_lt, y_le, y_gt, y_ge, y_eqI, y_eqS, y_neI, y_neS, y_eqYI, y_eqYS, y_neYI, y_neYS, y_ixT, y_ixL, y_trB, y_k0, y_k1, y_k2, y_k3, y_k4, y_k5, y_k6, y_lenT, y_lenL, y_lenS, startE, List.map_cons, List.map_nil, List.length_cons, List.length_nil, List.replicate, List.cons_append, List.nil_append, List.append_nil, Nat.sub_self, Nat.reduceSub, Nat.reduceAdd, Nat.reduceLeDiff, Nat.reduceEqDiff, Nat.zero_add, Nat.zero_le, Nat.sub_zero, List.set_cons_zero, List.set_cons_succ, List.getElem?_cons_zero, List.getElem?_cons_succ, Bool.not_true, Bool.not_false, decide_true, decide_false, z_int0, z_int1, z_int2, z_int3, z_int4, z_int5, z_int6, z_bool0, z_bool1, z_bool2, z_bool3, z_bool4, z_bool5, z_bool6, z_str0, z_str1, z_str2, z_str3, z_str4, z_str5, z_str6, z_tuple0, z_tuple1, z_tuple2, z_tuple3, z_tuple4, z_tuple5, z_tuple6, z_list0, z_list1, z_list2, z_list3, z_list4, z_list5, z_list6, z_dict0, z_dict1, z_dict2, z_dict3, z_dict4, z_dict5, z_dict6, g1, decide_eq_true h2]
theorem is_nn (S : Sto) : isNotD S .non .non = some (.val (.bl false)) := rfl
theorem e_need (S : Sto) {f : Fc} (h : okF f) : den_need_face [f.d] S = some (.ok (.val .non) S) := by
  have p1 := e_part S (f.hd.map .str) 2 (by rw [List.length_map]; exact h.h1) (by rw [List.length_map]; have := h.h2; omega)
  have p2 := e_part S (f.dd.map Dd.d) 8 (by rw [List.length_map]; exact h.d1) (by rw [List.length_map]; have := h.d2; omega)
  have b1 := e_badh S h.hn h.hr
  have b2 := e_badd S h.dn h.dr
  have g : (!decide ((((0 + 1 + 1 : Nat)) : Int) = 2)) = false := by decide
  unfold Fc.d
  generalize f.hd.map D.str = hs at *
  generalize f.dd.map Dd.d = ds at *
  have a0 : atI [D.tup hs, .tup ds] 0 = some (.tup hs) := rfl
  have a1 : atI [D.tup hs, .tup ds] 1 = some (.tup ds) := rfl
  simp only [den_need_face, x_bnd, x_bnS, x_c, x_var, x_varK, x_stl, x_stlV, x_stlL, x_stlE, x_stlD, x_bxd, x_bxV, x_bxK, x_okv, x_okm, x_d2, x_d2K, x_d2L, x_tst, x_tstK, x_ch, x_chK, x_chL, x_chMt, x_chMf, x_chN, x_and, x_andK, x_andT, x_andF, x_or, x_orK, x_orT, x_orF, x_not, x_notK, x_notL, x_tru, x_truK, x_truL, x_band, x_bandT, x_bandF, x_bor, x_borT, x_borF, x_bnot, x_bnotK, x_dif, x_difT, x_difF, x_anil, x_acons, x_aK, x_aL, x_tup, x_tupK, x_lst, x_lstK, x_cl, x_clK, x_fn, x_fnK, x_isi, x_isiK, x_isiL, x_neg, x_negK, x_revL, x_kget, x_kgetK, x_sl, x_slK, x_slL, x_pnone, x_psome, x_psK, x_mt, x_mtK, x_mtL, x_itA, x_itAK, x_itL, x_itSeq, x_seqK, x_itStr, x_istrK, x_comp, x_compK, x_compL, x_wipe1, x_wipe2, x_seq, x_sqN, x_sqR, x_sqB, x_sqC, x_next, x_ret, x_retK, x_retN, x_asg, x_asgB, x_asgK, x_drop, x_dropK, x_if, x_ifT, x_ifF, x_for, x_forK, x_tgt, x_tgtK, x_tgtL, x_tname, x_par, x_parK, x_dput, x_dputK, x_dputK1, x_dputK2, x_dputL, x_def, x_defR, x_defN, y_add, y_sub, y_mul, y_mulX, y_mod, y_fdiv, y_lt, y_le, y_gt, y_ge, y_eqI, y_eqS, y_neI, y_neS, y_eqYI, y_eqYS, y_neYI, y_neYS, y_ixT, y_ixL, y_trB, y_k0, y_k1, y_k2, y_k3, y_k4, y_k5, y_k6, y_lenT, y_lenL, y_lenS, startE, List.map_cons, List.map_nil, List.length_cons, List.length_nil, List.replicate, List.cons_append, List.nil_append, List.append_nil, Nat.sub_self, Nat.reduceSub, Nat.reduceAdd, Nat.reduceLeDiff, Nat.reduceEqDiff, Nat.zero_add, Nat.zero_le, Nat.sub_zero, List.set_cons_zero, List.set_cons_succ, List.getElem?_cons_zero, List.getElem?_cons_succ, Bool.not_true, Bool.not_false, decide_true, decide_false, z_int0, z_int1, z_int2, z_int3, z_int4, z_int5, z_int6, z_bool0, z_bool1, z_bool2, z_bool3, z_bool4, z_bool5, z_bool6, z_str0, z_str1, z_str2, z_str3, z_str4, z_str5, z_str6, z_tuple0, z_tuple1, z_tuple2, z_tuple3, z_tuple4, z_tuple5, z_tuple6, z_list0, z_list1, z_list2, z_list3, z_list4, z_list5, z_list6, z_dict0, z_dict1, z_dict2, z_dict3, z_dict4, z_dict5, z_dict6, g, a0, a1, Option.map_some, p1, p2, b1, b2, is_nn]
end W03
namespace W03
open Sf L2 PySem PySem.Spec PyProof.Rows
/-- a comprehension without a test -/
theorem loop_gen {α : Type} (ρ : En) (h g : α → D) (f : Dn Out) (i : Nat) : ∀ (l : List α) (k : Nat) (S : Sto), k + l.length ≤ sizeLine → (∀ x ∈ l, f (ρ.set i (some (h x))) S = some (.ok (.val (g x)) S)) →
    loopC (tName i) bYes f ρ (l.map h) k S = some (l.map g, S)
  | [], k, S, _, _ => rfl
  | x :: l, k, S, hk, q => by
    have h1 := q x List.mem_cons_self
    have hl : (x :: l).length = l.length + 1 := rfl
    have ih := loop_gen ρ h g f i l (k + 1) S (by omega) fun y hy => q y (List.mem_cons_of_mem _ hy)
    have hz : k < sizeLine := by omega
    simp only [List.map, loopC, tName, bYes, x_stl, x_bnd, h1, x_stlV, if_pos hz, ih, Option.map]
theorem strs_map : ∀ l : List Str, strsD (l.map .str) = some l
  | [] => rfl
  | x :: l => by
    rw [List.map_cons]
    simp only [strsD, strs_map l]
    rfl
theorem ty_box {S : Sto} {m : Nat} {ds : List D} (h : S[m]? = some (.lst ds)) : tyB "list" S (.ref m) = true := by
  simp only [tyB, h]
  rfl
theorem app_box {S : Sto} {m : Nat} {ds : List D} (h : S[m]? = some (.lst ds)) (d : D) (hl : ds.length < 100000) : appD S (.ref m) [d] = some (.val .non, S.set m (.lst (ds ++ [d]))) := by
  simp only [appD, h]
  exact if_pos (Nat.lt_trans hl (by decide))
theorem ix_box {S : Sto} {m : Nat} {ds : List D} (h : S[m]? = some (.lst ds)) (i : Int) : ixD S (.ref m) (.int i) = (atI ds i).map .val := by
  simp only [ixD, viewS, view, h]
theorem push_at (S : Sto) (o : Ob) : (S ++ [o])[S.length]? = some o := by
  rw [List.getElem?_append_right (Nat.le_refl _), Nat.sub_self]
  rfl
theorem push_set (S : Sto) (o o' : Ob) : (S ++ [o]).set S.length o' = S ++ [o'] := by
  rw [List.set_append_right _ _ (Nat.le_refl _), Nat.sub_self]
  rfl
theorem set_same {S : Sto} {n : Nat} {o : Ob} (h : S[n]? = some o) : S.set n o = S := List.ext_getElem? fun i => by
  by_cases hi : n = i
  · subst hi
    rw [set_at h, h]
  · rw [List.getElem?_set_ne hi]
theorem adLD (S : Sto) (as bs : List D) (h : as.length + bs.length ≤ 1000000) : addD S (.lst as) (.lst bs) = some (.own (.lst (as ++ bs))) := if_pos (Nat.le_trans h (by decide))
theorem y_listT (S : Sto) (ds : List D) : listD S [.tup ds] = some (.own (.lst ds)) := rfl
theorem fc_ix0 (S : Sto) (f : Fc) : ixD S f.d (.int 0) = some (.val (.tup (f.hd.map .str))) := rfl
theorem fc_ix1 (S : Sto) (f : Fc) : ixD S f.d (.int 1) = some (.val (.tup (f.dd.map Dd.d))) := rfl
theorem len_box {S : Sto} {m : Nat} {ds : List D} (h : S[m]? = some (.lst ds)) : lenD S [.ref m] = some (.val (.int (ds.length : Int))) := by
  have v := view_R h
  show (match viewS S (.ref m) with
    | some es => some (Out.val (.int (es.length : Int)))
    | none => none) = _
  rw [v]
theorem add_box {S : Sto} {m : Nat} {ds es : List D} (h : S[m]? = some (.lst ds)) (hl : ds.length + es.length ≤ 100000) : addD S (.ref m) (.lst es) = some (.own (.lst (ds ++ es))) := by
  simp only [addD, viewC, h]
  exact if_pos (Nat.le_trans hl (by decide))
theorem tup_box {S : Sto} {m : Nat} {ds : List D} (h : S[m]? = some (.lst ds)) : tupleD S [.ref m] = some (.val (.tup ds)) := by
  have v : view S (.ref m) = some ds := by simp only [view, h]
  show (match view S (.ref m) with
    | some es => some (Out.val (.tup es))
    | none => none) = _
  rw [v]
theorem at_app {S l : Sto} {n : Nat} {o : Ob} (h : S[n]? = some o) : (S ++ l)[n]? = some o := by
  rw [List.getElem?_append_left (List.getElem?_eq_some_iff.mp h).1, h]
theorem at_set {S : Sto} {n m : Nat} {o o' : Ob} (h : S[n]? = some o) (hm : n ≠ m) : (S.set m o')[n]? = some o := by
  rw [List.getElem?_set_ne (Ne.symm hm), h]
theorem neR {S : Sto} {q : Nat} {ys : List D} (h : S[q]? = some (.lst ys)) : neX S (.ref q) (.lst []) = some (.val (.bl (!ys.isEmpty))) := by
  have t : topd S (.ref q) = .lst ys := by simp only [topd, h]
  have v : view S (.ref q) = some ys := by simp only [view, h]
  rw [← y_neNil S ys]
  have e1 : eqB S (.ref q) (.lst []) = eqB S (.lst ys) (.lst []) := by
    show (if shp (topd S (.ref q)) && shp (topd S (.lst [])) then some (PyData.eqv (topd S (.ref q)).py (topd S (.lst [])).py) else none) = _
    rw [t]
    rfl
  unfold neX neD
  rw [e1, v]
  rfl
theorem at_last {α : Type} (l : List α) (x : α) : atI (l ++ [x]) (-1) = some x := by
  unfold atI ixN
  rw [if_neg (by omega), if_pos (by rw [List.length_append, List.length_singleton]; omega)]
  have : ((-1 : Int) + ((l ++ [x]).length : Int)).toNat = l.length := by rw [List.length_append, List.length_singleton]; omega
  rw [this]
  show (l ++ [x])[l.length]? = some x
  rw [List.getElem?_append_right (Nat.le_refl _), Nat.sub_self]
  rfl
theorem y_ixF (S : Sto) (ds : List D) (i : Int) : ixD S (.lst ds) (.int i) = (atI ds i).map .val := rfl
theorem atI_map {α β : Type} (f : α → β) (l : List α) (i : Int) : atI (l.map f) i = (atI l i).map f := by
  unfold atI
  rw [List.length_map]
  cases ixN l.length i with
  | none => rfl
  | some j => exact List.getElem?_map
theorem at0 {α : Type} (a : α) (l : List α) : atI (a :: l) 0 = some a := by
  unfold atI ixN
  rw [if_pos (Int.le_refl 0), if_pos (by rw [List.length_cons]; omega)]
  rfl
/-- a later store, all as before -/
def Gr (S S' : Sto) : Prop := S.length ≤ S'.length ∧ ∀ m, m < S.length → S'[m]? = S[m]?
theorem Gr.refl (S : Sto) : Gr S S := ⟨Nat.le_refl _, fun _ _ => rfl⟩
theorem Gr.trans {S S' S'' : Sto} (h : Gr S S') (g : Gr S' S'') : Gr S S'' := ⟨Nat.le_trans h.1 g.1, fun m hm => (g.2 m (Nat.lt_of_lt_of_le hm h.1)).trans (h.2 m hm)⟩
theorem Gr.push (S l : Sto) : Gr S (S ++ l) := ⟨by rw [List.length_append]; omega, fun m hm => List.getElem?_append_left hm⟩
theorem Gr.set {S S' : Sto} (h : Gr S S') {n : Nat} (hn : S.length ≤ n) (o : Ob) : Gr S (S'.set n o) := ⟨by rw [List.length_set]; exact h.1, fun m hm => by
  rw [List.getElem?_set_ne (by omega)]
  exact h.2 m hm⟩
theorem Gr.app {S S' : Sto} (h : Gr S S') (l : Sto) : Gr S (S' ++ l) := h.trans (Gr.push _ _)
theorem Gr.at {S S' : Sto} (h : Gr S S') {m : Nat} {o : Ob} (e : S[m]? = some o) : S'[m]? = some o := by
  rw [h.2 m (List.getElem?_eq_some_iff.mp e).1, e]
end W03
namespace W03
open Sf L2 PySem PySem.Spec PyProof.Rows
/-! the drawing state -/
def At (n t : Nat) (S : Sto) : Prop := ∃ a b c, S[n]? = some (stO a b c) ∧ 0 ≤ c ∧ c ≤ (t : Int)
/-- a later store, all but n as before -/
def Ev (n t : Nat) (S S' : Sto) : Prop := S.length ≤ S'.length ∧ At n t S' ∧ ∀ m, m ≠ n → m < S.length → S'[m]? = S[m]?
theorem At.mono {n t t' : Nat} {S : Sto} (h : At n t S) (ht : t ≤ t') : At n t' S := by
  obtain ⟨a, b, c, e, h1, h2⟩ := h
  exact ⟨a, b, c, e, h1, by omega⟩
theorem Ev.mono {n t t' : Nat} {S S' : Sto} (h : Ev n t S S') (ht : t ≤ t') : Ev n t' S S' := ⟨h.1, h.2.1.mono ht, h.2.2⟩
theorem At.refl {n t : Nat} {S : Sto} (h : At n t S) : Ev n t S S := ⟨Nat.le_refl _, h, fun _ _ _ => rfl⟩
theorem Ev.trans {n t t' : Nat} {S S' S'' : Sto} (h : Ev n t S S') (g : Ev n t' S' S'') : Ev n t' S S'' := ⟨Nat.le_trans h.1 g.1, g.2.1, fun m hn hm => (g.2.2 m hn (Nat.lt_of_lt_of_le hm h.1)).trans (h.2.2 m hn hm)⟩
theorem At.lt {n t : Nat} {S : Sto} (h : At n t S) : n < S.length := by
  obtain ⟨a, b, c, e, _⟩ := h
  exact (List.getElem?_eq_some_iff.mp e).1
theorem At.gr {n t : Nat} {S S' : Sto} (h : At n t S) (g : Gr S S') : At n t S' := by
  obtain ⟨a, b, c, e, r⟩ := h
  exact ⟨a, b, c, g.at e, r⟩
theorem At.ev {n t : Nat} {S S' : Sto} (h : At n t S) (g : Gr S S') : Ev n t S S' := ⟨g.1, h.gr g, fun m _ hm => g.2 m hm⟩
theorem Ev.at {n t : Nat} {S S' : Sto} (h : Ev n t S S') {m : Nat} {o : Ob} (hm : m ≠ n) (e : S[m]? = some o) : S'[m]? = some o := by
  rw [h.2.2 m hm (List.getElem?_eq_some_iff.mp e).1, e]
theorem At.put {n t : Nat} {S : Sto} (h : At n t S) {m : Nat} (hm : m ≠ n) (o : Ob) : At n t (S.set m o) := by
  obtain ⟨a, b, c, e, r⟩ := h
  exact ⟨a, b, c, by rw [List.getElem?_set_ne hm]; exact e, r⟩
theorem g_dig {n t : Nat} {m : Int} {S : Sto} (h : At n t S) (ht : t < 1000000) (hm : 1 ≤ m ∧ m ≤ 1000) :
    ∃ r S', den_law_digit [.ref n, .int m] S = some (.ok (.val (.int r)) S') ∧ 0 ≤ r ∧ r < m ∧ Ev n (t + 1) S S' := by
  obtain ⟨a, b, c, e, h1, h2⟩ := h
  obtain ⟨a', c', r, e1, r1, r2, c1, c2⟩ := e_digit e ⟨h1, by omega⟩ hm
  exact ⟨r, _, e1, r1, r2, by rw [List.length_set]; exact Nat.le_refl _, ⟨a', b, c', set_at e, by omega, by omega⟩, fun m hm _ => List.getElem?_set_ne (Ne.symm hm)⟩
/-! names drawn -/
def sgE : Dn Out := d2 ixD (dC (.str "abcdefghijklmnopqrstuvwxyz")) (dFn 2 den_law_digit (aCons (dVar 0) (aCons (dC (.int 26)) aNil)))
theorem ix_let (S : Sto) {r : Int} (h1 : 0 ≤ r) (h2 : r < 26) : ∃ c ∈ lets, ixD S (.str "abcdefghijklmnopqrstuvwxyz") (.int r) = some (.val (.str ⟨#[c]⟩)) := by
  have hl : ((lets.length : Nat) : Int) = 26 := by decide +kernel
  obtain ⟨c, hc, e⟩ := atI_mem (l := lets) h1 (by omega)
  refine ⟨c, hc, ?_⟩
  rw [y_ixS, if_pos (by decide +kernel)]
  show (atI lets r).map _ = _
  rw [e]
  rfl
theorem sg_loop {n : Nat} {ρ : En} (h0 : ∀ x, (ρ.set 6 (some x))[0]? = some (some (.ref n))) : ∀ (xs : List D) (k : Nat) (S : Sto) (t : Nat), At n t S → k + xs.length ≤ 100 → t + xs.length < 900000 →
    ∃ (cs : List Nat) (S' : Sto), loopC (tName 6) bYes sgE ρ xs k S = some (cs.map fun c => .str ⟨#[c]⟩, S') ∧ cs.length = xs.length ∧ (∀ c ∈ cs, c ∈ lets) ∧ Ev n (t + xs.length) S S'
  | [], k, S, t, h, _, _ => ⟨[], S, rfl, rfl, fun _ h => absurd h (by simp), h.refl⟩
  | x :: xs, k, S, t, h, hk, ht => by
    rw [List.length_cons] at hk ht
    obtain ⟨r, S1, e1, r1, r2, g1⟩ := g_dig (m := 26) h (by omega) ⟨by decide, by decide⟩
    obtain ⟨c, hc, e2⟩ := ix_let S1 r1 r2
    obtain ⟨cs, S', e3, l3, h3, g3⟩ := sg_loop h0 xs (k + 1) S1 (t + 1) g1.2.1 (by omega) (by omega)
    have st : sgE (ρ.set 6 (some x)) S = some (.ok (.val (.str ⟨#[c]⟩)) S1) := by
      simp only [sgE, x_bnd, x_bnS, x_c, x_var, x_varK, x_stl, x_stlV, x_stlL, x_stlE, x_stlD, x_bxd, x_bxV, x_bxK, x_okv, x_okm, x_d2, x_d2K, x_d2L, x_tst, x_tstK, x_ch, x_chK, x_chL, x_chMt, x_chMf, x_chN, x_and, x_andK, x_andT, x_andF, x_or, x_orK, x_orT, x_orF, x_not, x_notK, x_notL, x_tru, x_truK, x_truL, x_band, x_bandT, x_bandF, x_bor, x_borT, x_borF, x_bnot, x_bnotK, x_dif, x_difT, x_difF, x_anil, x_acons, x_aK, x_aL, x_tup, x_tupK, x_lst, x_lstK, x_cl, x_clK, x_fn, x_fnK, x_isi, x_isiK, x_isiL, x_neg, x_negK, x_revL, x_kget, x_kgetK, x_sl, x_slK, x_slL, x_pnone, x_psome, x_psK, x_mt, x_mtK, x_mtL, x_itA, x_itAK, x_itL, x_itSeq, x_seqK, x_itStr, x_istrK, x_comp, x_compK, x_compL, x_wipe1, x_wipe2, x_seq, x_sqN, x_sqR, x_sqB, x_sqC, x_next, x_ret, x_retK, x_retN, x_asg, x_asgB, x_asgK, x_drop, x_dropK, x_if, x_ifT, x_ifF, x_for, x_forK, x_tgt, x_tgtK, x_tgtL, x_tname, x_par, x_parK, x_dput, x_dputK, x_dputK1, x_dputK2, x_dputL, x_def, x_defR, x_defN, y_add, y_sub, y_mul, y_mulX, y_mod, y_fdiv, y_lt, y_le, y_gt, y_ge, y_eqI, y_eqS, y_neI, y_neS, y_eqYI, y_eqYS, y_neYI, y_neYS, y_ixT, y_ixL, y_trB, y_k0, y_k1, y_k2, y_k3, y_k4, y_k5, y_k6, y_lenT, y_lenL, y_lenS, startE, List.map_cons, List.map_nil, List.length_cons, List.length_nil, List.replicate, List.cons_append, List.nil_append, List.append_nil, Nat.sub_self, Nat.reduceSub, Nat.reduceAdd, Nat.reduceLeDiff, Nat.reduceEqDiff, Nat.zero_add, Nat.zero_le, Nat.sub_zero, List.set_cons_zero, List.set_cons_succ, List.getElem?_cons_zero, List.getElem?_cons_succ, Bool.not_true, Bool.not_false, decide_true, decide_false, h0, e1, e2]
    refine ⟨c :: cs, S', ?_, by rw [List.length_cons, List.length_cons, l3], fun y hy => ?_, by rw [List.length_cons]; exact (g1.trans g3).mono (by omega)⟩
    · have hs : k < sizeLine := by show k < 2 ^ 24; omega
      simp only [loopC, tName, bYes, x_stl, st, x_bnd, x_stlV, if_pos hs, e3, Option.map_some, List.map_cons]
    · rcases List.mem_cons.mp hy with rfl | hy
      · exact hc
      · exact h3 y hy
theorem okN_mk {cs : List Nat} (h1 : 1 ≤ cs.length) (h2 : cs.length ≤ 8) (h : ∀ c ∈ cs, c ∈ lets) : okN ⟨cs.toArray⟩ := by
  unfold okN nameB
  have e : (⟨cs.toArray⟩ : Str).length = cs.length := rfl
  rw [Bool.and_eq_true, Bool.and_eq_true, e]
  refine ⟨⟨decide_eq_true h1, decide_eq_true h2⟩, List.all_eq_true.mpr fun d hd => ?_⟩
  obtain ⟨c, hc, rfl⟩ := List.mem_map.mp hd
  exact decide_eq_true (h c hc)
def sgC : Dn Out := dComp (itA range1D (aCons (d2 addD (dC (.int 1)) (dFn 2 den_law_digit (aCons (dVar 0) (aCons (dC (.int 8)) aNil)))) aNil)) (tName 6) bYes sgE [6]
theorem sg_comp {n t : Nat} {S : Sto} (h : At n t S) (ht : t < 800000) (x1 x2 x3 x4 x5 : Option D) : ∃ (cs : List Nat) (S' : Sto), sgC [some (.ref n), x1, x2, x3, x4, x5, none] S = some (.ok (.own (.lst (cs.map fun c => .str ⟨#[c]⟩))) S') ∧ okN ⟨cs.toArray⟩ ∧ cs.length ≤ 8 ∧ Ev n (t + 9) S S' := by
  obtain ⟨r, S1, e1, r1, r2, g1⟩ := g_dig (m := 8) h (by omega) ⟨by decide, by decide⟩
  have rg := rng (j := 1 + r) (by omega) (by omega)
  have rl := rng_len (1 + r).toNat
  obtain ⟨cs, S', e3, l3, h3, g3⟩ := sg_loop (n := n) (ρ := [some (.ref n), x1, x2, x3, x4, x5, none]) (fun _ => rfl) (rangeL 0 (1 + r).toNat) 0 S1 (t + 1) g1.2.1 (by omega) (by omega)
  refine ⟨cs, S', ?_, okN_mk (by omega) (by omega) h3, by omega, (g1.trans g3).mono (by omega)⟩
  have ar : aCons (d2 addD (dC (.int 1)) (dFn 2 den_law_digit (aCons (dVar 0) (aCons (dC (.int 8)) aNil)))) aNil [some (.ref n), x1, x2, x3, x4, x5, none] S = some (.ok [.int (1 + r)] S1) := by simp only [x_bnd, x_bnS, x_c, x_var, x_varK, x_stl, x_stlV, x_stlL, x_stlE, x_stlD, x_bxd, x_bxV, x_bxK, x_okv, x_okm, x_d2, x_d2K, x_d2L, x_tst, x_tstK, x_ch, x_chK, x_chL, x_chMt, x_chMf, x_chN, x_and, x_andK, x_andT, x_andF, x_or, x_orK, x_orT, x_orF, x_not, x_notK, x_notL, x_tru, x_truK, x_truL, x_band, x_bandT, x_bandF, x_bor, x_borT, x_borF, x_bnot, x_bnotK, x_dif, x_difT, x_difF, x_anil, x_acons, x_aK, x_aL, x_tup, x_tupK, x_lst, x_lstK, x_cl, x_clK, x_fn, x_fnK, x_isi, x_isiK, x_isiL, x_neg, x_negK, x_revL, x_kget, x_kgetK, x_sl, x_slK, x_slL, x_pnone, x_psome, x_psK, x_mt, x_mtK, x_mtL, x_itA, x_itAK, x_itL, x_itSeq, x_seqK, x_itStr, x_istrK, x_comp, x_compK, x_compL, x_wipe1, x_wipe2, x_seq, x_sqN, x_sqR, x_sqB, x_sqC, x_next, x_ret, x_retK, x_retN, x_asg, x_asgB, x_asgK, x_drop, x_dropK, x_if, x_ifT, x_ifF, x_for, x_forK, x_tgt, x_tgtK, x_tgtL, x_tname, x_par, x_parK, x_dput, x_dputK, x_dputK1, x_dputK2, x_dputL, x_def, x_defR, x_defN, y_add, y_sub, y_mul, y_mulX, y_mod, y_fdiv, y_lt, y_le, y_gt, y_ge, y_eqI, y_eqS, y_neI, y_neS, y_eqYI, y_eqYS, y_neYI, y_neYS, y_ixT, y_ixL, y_trB, y_k0, y_k1, y_k2, y_k3, y_k4, y_k5, y_k6, y_lenT, y_lenL, y_lenS, startE, List.map_cons, List.map_nil, List.length_cons, List.length_nil, List.replicate, List.cons_append, List.nil_append, List.append_nil, Nat.sub_self, Nat.reduceSub, Nat.reduceAdd, Nat.reduceLeDiff, Nat.reduceEqDiff, Nat.zero_add, Nat.zero_le, Nat.sub_zero, List.set_cons_zero, List.set_cons_succ, List.getElem?_cons_zero, List.getElem?_cons_succ, Bool.not_true, Bool.not_false, decide_true, decide_false, e1]
  unfold sgC
  rw [x_comp, x_itA, ar, x_bnd, x_itAK, rg, x_itL, x_bnd, x_compK, x_wipe1]
  show compL (loopC (tName 6) bYes sgE [some (.ref n), x1, x2, x3, x4, x5, none] (rangeL 0 (1 + r).toNat) 0 S1) = _
  rw [e3, x_compL]
def nmW : Dn Out := d2 ixD (dLst (aCons (dMt "str" joinD (dC (.str "")) (aCons (dVar 4) aNil)) (aCons (dC (.str "a")) (aCons (dC (.str "b")) (aCons (dC (.str "ab")) (aCons (dC (.str "ba")) (aCons (dC (.str "abc")) (aCons (dC (.str "hidden")) aNil)))))))) (dFn 2 den_law_digit (aCons (dVar 0) (aCons (dC (.int 7)) aNil)))
def nmI : Sn := sIf (bAnd (tst (d2 notInD (dVar 5) (dVar 2))) (tst (d2 ltD (dCl lenD (aCons (dVar 2) aNil)) (dVar 1)))) (sDrop (dMt "list" appD (dVar 2) (aCons (dVar 5) aNil))) sNext
def nmS : Sn := sSeq (sAsg 4 sgC) (sSeq (sAsg 5 nmW) nmI)
theorem six_ok {w : Str} (h : okN w) : ∀ s ∈ [w, "a", "b", "ab", "ba", "abc", "hidden"], okN s := by
  intro s hs
  rcases List.mem_cons.mp hs with rfl | hs
  · exact h
  · have k : (["a", "b", "ab", "ba", "abc", "hidden"] : List Str).all (fun s => nameB (.str s)) = true := by decide +kernel
    exact List.all_eq_true.mp k s hs
structure okL (m : Int) (fs : List Str) : Prop where
  nm : ∀ s ∈ fs, okN s
  nd : fs.Nodup
  len : (fs.length : Int) ≤ m
theorem nm_w {n t : Nat} {S : Sto} (h : At n t S) (ht : t < 800000) {cs : List Nat} (hc : okN ⟨cs.toArray⟩) (hl : cs.length ≤ 8) (x1 x2 x3 x5 : Option D) : ∃ s S', stl nmW [some (.ref n), x1, x2, x3, some (.lst (cs.map fun c => .str ⟨#[c]⟩)), x5, none] S = some (.ok (.str s) S') ∧ okN s ∧ Ev n (t + 1) S S' := by
  obtain ⟨r, S1, e1, r1, r2, g1⟩ := g_dig (m := 7) h (by omega) ⟨by decide, by decide⟩
  have j := join_d S cs (by omega)
  obtain ⟨s, hs, e⟩ := atI_mem (l := [(⟨cs.toArray⟩ : Str), "a", "b", "ab", "ba", "abc", "hidden"]) r1 (by show r < 7; omega)
  have ix : ixD S1 (.lst [.str ⟨cs.toArray⟩, .str "a", .str "b", .str "ab", .str "ba", .str "abc", .str "hidden"]) (.int r) = some (.val (.str s)) := by
    have q : ixD S1 (.lst ([(⟨cs.toArray⟩ : Str), "a", "b", "ab", "ba", "abc", "hidden"].map .str)) (.int r) = some (.val (.str s)) := by
      rw [y_ixF, atI_map, e]
      rfl
    exact q
  refine ⟨s, S1, ?_, six_ok hc s hs, g1⟩
  generalize (⟨cs.toArray⟩ : Str) = z at *
  generalize (cs.map fun c => D.str ⟨#[c]⟩) = W at *
  have ty := ty_str S ""
  have a1 : dLst (aCons (dMt "str" joinD (dC (.str "")) (aCons (dVar 4) aNil)) (aCons (dC (.str "a")) (aCons (dC (.str "b")) (aCons (dC (.str "ab")) (aCons (dC (.str "ba")) (aCons (dC (.str "abc")) (aCons (dC (.str "hidden")) aNil))))))) [some (.ref n), x1, x2, x3, some (.lst W), x5, none] S =
      some (.ok (.own (.lst [.str z, .str "a", .str "b", .str "ab", .str "ba", .str "abc", .str "hidden"])) S) := by
    simp only [x_bnd, x_bnS, x_c, x_var, x_varK, x_stl, x_stlV, x_stlL, x_stlE, x_stlD, x_bxd, x_bxV, x_bxK, x_okv, x_okm, x_d2, x_d2K, x_d2L, x_tst, x_tstK, x_ch, x_chK, x_chL, x_chMt, x_chMf, x_chN, x_and, x_andK, x_andT, x_andF, x_or, x_orK, x_orT, x_orF, x_not, x_notK, x_notL, x_tru, x_truK, x_truL, x_band, x_bandT, x_bandF, x_bor, x_borT, x_borF, x_bnot, x_bnotK, x_dif, x_difT, x_difF, x_anil, x_acons, x_aK, x_aL, x_tup, x_tupK, x_lst, x_lstK, x_cl, x_clK, x_fn, x_fnK, x_isi, x_isiK, x_isiL, x_neg, x_negK, x_revL, x_kget, x_kgetK, x_sl, x_slK, x_slL, x_pnone, x_psome, x_psK, x_mt, x_mtK, x_mtL, x_itA, x_itAK, x_itL, x_itSeq, x_seqK, x_itStr, x_istrK, x_comp, x_compK, x_compL, x_wipe1, x_wipe2, x_seq, x_sqN, x_sqR, x_sqB, x_sqC, x_next, x_ret, x_retK, x_retN, x_asg, x_asgB, x_asgK, x_drop, x_dropK, x_if, x_ifT, x_ifF, x_for, x_forK, x_tgt, x_tgtK, x_tgtL, x_tname, x_par, x_parK, x_dput, x_dputK, x_dputK1, x_dputK2, x_dputL, x_def, x_defR, x_defN, y_add, y_sub, y_mul, y_mulX, y_mod, y_fdiv, y_lt, y_le, y_gt, y_ge, y_eqI, y_eqS, y_neI, y_neS, y_eqYI, y_eqYS, y_neYI, y_neYS, y_ixT, y_ixL, y_trB, y_k0, y_k1, y_k2, y_k3, y_k4, y_k5, y_k6, y_lenT, y_lenL, y_lenS, startE, List.map_cons, List.map_nil, List.length_cons, List.length_nil, List.replicate, List.cons_append, List.nil_append, List.append_nil, Nat.sub_self, Nat.reduceSub, Nat.reduceAdd, Nat.reduceLeDiff, Nat.reduceEqDiff, Nat.zero_add, Nat.zero_le, Nat.sub_zero, List.set_cons_zero, List.set_cons_succ, List.getElem?_cons_zero, List.getElem?_cons_succ, Bool.not_true, Bool.not_false, decide_true, decide_false, ty, j]
  unfold nmW
  rw [x_stl, x_d2, x_stl, a1]
  simp only [x_bnd, x_bnS, x_c, x_var, x_varK, x_stl, x_stlV, x_stlL, x_stlE, x_stlD, x_bxd, x_bxV, x_bxK, x_okv, x_okm, x_d2, x_d2K, x_d2L, x_tst, x_tstK, x_ch, x_chK, x_chL, x_chMt, x_chMf, x_chN, x_and, x_andK, x_andT, x_andF, x_or, x_orK, x_orT, x_orF, x_not, x_notK, x_notL, x_tru, x_truK, x_truL, x_band, x_bandT, x_bandF, x_bor, x_borT, x_borF, x_bnot, x_bnotK, x_dif, x_difT, x_difF, x_anil, x_acons, x_aK, x_aL, x_tup, x_tupK, x_lst, x_lstK, x_cl, x_clK, x_fn, x_fnK, x_isi, x_isiK, x_isiL, x_neg, x_negK, x_revL, x_kget, x_kgetK, x_sl, x_slK, x_slL, x_pnone, x_psome, x_psK, x_mt, x_mtK, x_mtL, x_itA, x_itAK, x_itL, x_itSeq, x_seqK, x_itStr, x_istrK, x_comp, x_compK, x_compL, x_wipe1, x_wipe2, x_seq, x_sqN, x_sqR, x_sqB, x_sqC, x_next, x_ret, x_retK, x_retN, x_asg, x_asgB, x_asgK, x_drop, x_dropK, x_if, x_ifT, x_ifF, x_for, x_forK, x_tgt, x_tgtK, x_tgtL, x_tname, x_par, x_parK, x_dput, x_dputK, x_dputK1, x_dputK2, x_dputL, x_def, x_defR, x_defN, y_add, y_sub, y_mul, y_mulX, y_mod, y_fdiv, y_lt, y_le, y_gt, y_ge, y_eqI, y_eqS, y_neI, y_neS, y_eqYI, y_eqYS, y_neYI, y_neYS, y_ixT, y_ixL, y_trB, y_k0, y_k1, y_k2, y_k3, y_k4, y_k5, y_k6, y_lenL, y_lenS, startE, List.map_cons, List.map_nil, List.length_cons, List.length_nil, List.replicate, List.cons_append, List.nil_append, List.append_nil, Nat.sub_self, Nat.reduceSub, Nat.reduceAdd, Nat.reduceLeDiff, Nat.reduceEqDiff, Nat.zero_add, Nat.zero_le, Nat.sub_zero, List.set_cons_zero, List.set_cons_succ, List.getElem?_cons_zero, List.getElem?_cons_succ, Bool.not_true, Bool.not_false, decide_true, decide_false, Int.reduceEq, Int.reduceLT, Int.reduceLE, Int.reduceSub, Int.reduceAdd, eq_self, Option.map_some, e1, y_ixF] at ix ⊢
  simp only [ix, x_bnd, x_bnS, x_c, x_var, x_varK, x_stl, x_stlV, x_stlL, x_stlE, x_stlD, x_bxd, x_bxV, x_bxK, x_okv, x_okm, x_d2, x_d2K, x_d2L, x_tst, x_tstK, x_ch, x_chK, x_chL, x_chMt, x_chMf, x_chN, x_and, x_andK, x_andT, x_andF, x_or, x_orK, x_orT, x_orF, x_not, x_notK, x_notL, x_tru, x_truK, x_truL, x_band, x_bandT, x_bandF, x_bor, x_borT, x_borF, x_bnot, x_bnotK, x_dif, x_difT, x_difF, x_anil, x_acons, x_aK, x_aL, x_tup, x_tupK, x_lst, x_lstK, x_cl, x_clK, x_fn, x_fnK, x_isi, x_isiK, x_isiL, x_neg, x_negK, x_revL, x_kget, x_kgetK, x_sl, x_slK, x_slL, x_pnone, x_psome, x_psK, x_mt, x_mtK, x_mtL, x_itA, x_itAK, x_itL, x_itSeq, x_seqK, x_itStr, x_istrK, x_comp, x_compK, x_compL, x_wipe1, x_wipe2, x_seq, x_sqN, x_sqR, x_sqB, x_sqC, x_next, x_ret, x_retK, x_retN, x_asg, x_asgB, x_asgK, x_drop, x_dropK, x_if, x_ifT, x_ifF, x_for, x_forK, x_tgt, x_tgtK, x_tgtL, x_tname, x_par, x_parK, x_dput, x_dputK, x_dputK1, x_dputK2, x_dputL, x_def, x_defR, x_defN, y_add, y_sub, y_mul, y_mulX, y_mod, y_fdiv, y_lt, y_le, y_gt, y_ge, y_eqI, y_eqS, y_neI, y_neS, y_eqYI, y_eqYS, y_neYI, y_neYS, y_ixT, y_ixL, y_trB, y_k0, y_k1, y_k2, y_k3, y_k4, y_k5, y_k6, y_lenL, y_lenS, startE, List.map_cons, List.map_nil, List.length_cons, List.length_nil, List.replicate, List.cons_append, List.nil_append, List.append_nil, Nat.sub_self, Nat.reduceSub, Nat.reduceAdd, Nat.reduceLeDiff, Nat.reduceEqDiff, Nat.zero_add, Nat.zero_le, Nat.sub_zero, List.set_cons_zero, List.set_cons_succ, List.getElem?_cons_zero, List.getElem?_cons_succ, Bool.not_true, Bool.not_false, decide_true, decide_false, Int.reduceEq, Int.reduceLT, Int.reduceLE, Int.reduceSub, Int.reduceAdd, eq_self, Option.map_some]
theorem nm_one {n t p : Nat} {S : Sto} {m : Int} {fs : List Str} (h : At n t S) (ht : t < 700000) (hp : S[p]? = some (.lst (fs.map .str))) (hpn : p ≠ n) (hf : okL m fs) (hm : 1 ≤ m ∧ m ≤ 8) (x3 x4 x5 : Option D) :
    ∃ x4' x5' S' fs', nmS [some (.ref n), some (.int m), some (.ref p), x3, x4, x5, none] S = some (.nx [some (.ref n), some (.int m), some (.ref p), x3, x4', x5', none] S') ∧ S'[p]? = some (.lst (fs'.map .str)) ∧ okL m fs' ∧ fs' ≠ [] ∧
      S.length ≤ S'.length ∧ At n (t + 10) S' ∧ ∀ q, q ≠ n → q ≠ p → q < S.length → S'[q]? = S[q]? := by
  obtain ⟨cs, S1, e1, c1, c2, g1⟩ := sg_comp h (by omega) (some (.int m)) (some (.ref p)) x3 x4 x5
  obtain ⟨s, S2, e2, s1, g2⟩ := nm_w g1.2.1 (by omega) c1 c2 (some (.int m)) (some (.ref p)) x3 x5
  have g := g1.trans g2
  have hp2 := g.at hpn hp
  have ni := notin_R hp2 s
  have lb := len_box hp2
  rw [List.length_map] at lb
  have hlen := hf.len
  have st : ∀ r, nmI [some (.ref n), some (.int m), some (.ref p), x3, some (.lst (cs.map fun c => .str ⟨#[c]⟩)), some (.str s), none] S2 = r → nmS [some (.ref n), some (.int m), some (.ref p), x3, x4, x5, none] S = r := by
    intro r hr
    unfold nmS
    rw [x_seq, x_asg, x_stl, e1, x_bnd, x_stlL, x_bnS, x_asgK, x_sqN, x_seq, x_asg]
    show sqK nmI (bnS (stl nmW [some (.ref n), some (.int m), some (.ref p), x3, some (.lst (cs.map fun c => .str ⟨#[c]⟩)), x5, none] S1) _ _) = r
    rw [e2, x_bnS, x_asgK, x_sqN]
    exact hr
  generalize (cs.map fun c => D.str ⟨#[c]⟩) = W at *
  have no : ∀ fs' : List Str, fs' = fs → fs' ≠ [] → nmI [some (.ref n), some (.int m), some (.ref p), x3, some (.lst W), some (.str s), none] S2 = some (.nx [some (.ref n), some (.int m), some (.ref p), x3, some (.lst W), some (.str s), none] S2) →
      ∃ x4' x5' S' fs', nmS [some (.ref n), some (.int m), some (.ref p), x3, x4, x5, none] S = some (.nx [some (.ref n), some (.int m), some (.ref p), x3, x4', x5', none] S') ∧ S'[p]? = some (.lst (fs'.map .str)) ∧ okL m fs' ∧ fs' ≠ [] ∧
      S.length ≤ S'.length ∧ At n (t + 10) S' ∧ ∀ q, q ≠ n → q ≠ p → q < S.length → S'[q]? = S[q]? := by
    intro fs' ef hne e
    subst ef
    exact ⟨_, _, S2, fs', st _ e, hp2, hf, hne, g.1, g.2.1.mono (by omega), fun q h1 _ h3 => g.2.2 q h1 h3⟩
  by_cases h1 : s ∈ fs
  · refine no fs rfl (fun z => by rw [z] at h1; cases h1) ?_
    rw [decide_eq_true h1] at ni
    simp only [nmI, x_bnd, x_bnS, x_c, x_var, x_varK, x_stl, x_stlV, x_stlL, x_stlE, x_stlD, x_bxd, x_bxV, x_bxK, x_okv, x_okm, x_d2, x_d2K, x_d2L, x_tst, x_tstK, x_ch, x_chK, x_chL, x_chMt, x_chMf, x_chN, x_and, x_andK, x_andT, x_andF, x_or, x_orK, x_orT, x_orF, x_not, x_notK, x_notL, x_tru, x_truK, x_truL, x_band, x_bandT, x_bandF, x_bor, x_borT, x_borF, x_bnot, x_bnotK, x_dif, x_difT, x_difF, x_anil, x_acons, x_aK, x_aL, x_tup, x_tupK, x_lst, x_lstK, x_cl, x_clK, x_fn, x_fnK, x_isi, x_isiK, x_isiL, x_neg, x_negK, x_revL, x_kget, x_kgetK, x_sl, x_slK, x_slL, x_pnone, x_psome, x_psK, x_mt, x_mtK, x_mtL, x_itA, x_itAK, x_itL, x_itSeq, x_seqK, x_itStr, x_istrK, x_comp, x_compK, x_compL, x_wipe1, x_wipe2, x_seq, x_sqN, x_sqR, x_sqB, x_sqC, x_next, x_ret, x_retK, x_retN, x_asg, x_asgB, x_asgK, x_drop, x_dropK, x_if, x_ifT, x_ifF, x_for, x_forK, x_tgt, x_tgtK, x_tgtL, x_tname, x_par, x_parK, x_dput, x_dputK, x_dputK1, x_dputK2, x_dputL, x_def, x_defR, x_defN, y_add, y_sub, y_mul, y_mulX, y_mod, y_fdiv, y_lt, y_le, y_gt, y_ge, y_eqI, y_eqS, y_neI, y_neS, y_eqYI, y_eqYS, y_neYI, y_neYS, y_ixT, y_ixL, y_trB, y_k0, y_k1, y_k2, y_k3, y_k4, y_k5, y_k6, y_lenT, y_lenL, y_lenS, startE, List.map_cons, List.map_nil, List.length_cons, List.length_nil, List.replicate, List.cons_append, List.nil_append, List.append_nil, Nat.sub_self, Nat.reduceSub, Nat.reduceAdd, Nat.reduceLeDiff, Nat.reduceEqDiff, Nat.zero_add, Nat.zero_le, Nat.sub_zero, List.set_cons_zero, List.set_cons_succ, List.getElem?_cons_zero, List.getElem?_cons_succ, Bool.not_true, Bool.not_false, decide_true, decide_false, ni]
  · by_cases h2 : (fs.length : Int) < m
    · have ap := app_box hp2 (.str s) (by rw [List.length_map]; omega)
      have ty := ty_box hp2
      have em : fs.map D.str ++ [.str s] = (fs ++ [s]).map D.str := by rw [List.map_append]; rfl
      rw [em] at ap
      refine ⟨some (.lst W), some (.str s), S2.set p (.lst ((fs ++ [s]).map .str)), fs ++ [s], st _ ?_, set_at hp2, ⟨fun z hz => ?_, ?_, ?_⟩, by simp, by rw [List.length_set]; exact g.1, (g.2.1.put hpn _).mono (by omega), fun q h1 h2 h3 => ?_⟩
      · rw [decide_eq_false h1] at ni
        generalize (fs.length : Int) = L at *
        generalize (fs ++ [s]).map D.str = all at *
        simp only [nmI, x_bnd, x_bnS, x_c, x_var, x_varK, x_stl, x_stlV, x_stlL, x_stlE, x_stlD, x_bxd, x_bxV, x_bxK, x_okv, x_okm, x_d2, x_d2K, x_d2L, x_tst, x_tstK, x_ch, x_chK, x_chL, x_chMt, x_chMf, x_chN, x_and, x_andK, x_andT, x_andF, x_or, x_orK, x_orT, x_orF, x_not, x_notK, x_notL, x_tru, x_truK, x_truL, x_band, x_bandT, x_bandF, x_bor, x_borT, x_borF, x_bnot, x_bnotK, x_dif, x_difT, x_difF, x_anil, x_acons, x_aK, x_aL, x_tup, x_tupK, x_lst, x_lstK, x_cl, x_clK, x_fn, x_fnK, x_isi, x_isiK, x_isiL, x_neg, x_negK, x_revL, x_kget, x_kgetK, x_sl, x_slK, x_slL, x_pnone, x_psome, x_psK, x_mt, x_mtK, x_mtL, x_itA, x_itAK, x_itL, x_itSeq, x_seqK, x_itStr, x_istrK, x_comp, x_compK, x_compL, x_wipe1, x_wipe2, x_seq, x_sqN, x_sqR, x_sqB, x_sqC, x_next, x_ret, x_retK, x_retN, x_asg, x_asgB, x_asgK, x_drop, x_dropK, x_if, x_ifT, x_ifF, x_for, x_forK, x_tgt, x_tgtK, x_tgtL, x_tname, x_par, x_parK, x_dput, x_dputK, x_dputK1, x_dputK2, x_dputL, x_def, x_defR, x_defN, y_add, y_sub, y_mul, y_mulX, y_mod, y_fdiv, y_lt, y_le, y_gt, y_ge, y_eqI, y_eqS, y_neI, y_neS, y_eqYI, y_eqYS, y_neYI, y_neYS, y_ixT, y_ixL, y_trB, y_k0, y_k1, y_k2, y_k3, y_k4, y_k5, y_k6, y_lenT, y_lenL, y_lenS, startE, List.map_cons, List.map_nil, List.length_cons, List.length_nil, List.replicate, List.cons_append, List.nil_append, List.append_nil, Nat.sub_self, Nat.reduceSub, Nat.reduceAdd, Nat.reduceLeDiff, Nat.reduceEqDiff, Nat.zero_add, Nat.zero_le, Nat.sub_zero, List.set_cons_zero, List.set_cons_succ, List.getElem?_cons_zero, List.getElem?_cons_succ, Bool.not_true, Bool.not_false, decide_true, decide_false, ni, lb, decide_eq_true h2, ty, ap]
      · rcases List.mem_append.mp hz with hz | hz
        · exact hf.nm z hz
        · rw [List.mem_singleton.mp hz]
          exact s1
      · exact List.nodup_append.mpr ⟨hf.nd, by simp, fun a ha b hb => by
          rw [List.mem_singleton.mp hb]
          exact fun z => h1 (z ▸ ha)⟩
      · rw [List.length_append]
        show ((fs.length + 1 : Nat) : Int) ≤ m
        omega
      · rw [List.getElem?_set_ne (Ne.symm h2)]
        exact g.2.2 q h1 h3
    · refine no fs rfl (fun z => h2 (by rw [z]; exact hm.1)) ?_
      rw [decide_eq_false h1] at ni
      generalize (fs.length : Int) = L at *
      simp only [nmI, x_bnd, x_bnS, x_c, x_var, x_varK, x_stl, x_stlV, x_stlL, x_stlE, x_stlD, x_bxd, x_bxV, x_bxK, x_okv, x_okm, x_d2, x_d2K, x_d2L, x_tst, x_tstK, x_ch, x_chK, x_chL, x_chMt, x_chMf, x_chN, x_and, x_andK, x_andT, x_andF, x_or, x_orK, x_orT, x_orF, x_not, x_notK, x_notL, x_tru, x_truK, x_truL, x_band, x_bandT, x_bandF, x_bor, x_borT, x_borF, x_bnot, x_bnotK, x_dif, x_difT, x_difF, x_anil, x_acons, x_aK, x_aL, x_tup, x_tupK, x_lst, x_lstK, x_cl, x_clK, x_fn, x_fnK, x_isi, x_isiK, x_isiL, x_neg, x_negK, x_revL, x_kget, x_kgetK, x_sl, x_slK, x_slL, x_pnone, x_psome, x_psK, x_mt, x_mtK, x_mtL, x_itA, x_itAK, x_itL, x_itSeq, x_seqK, x_itStr, x_istrK, x_comp, x_compK, x_compL, x_wipe1, x_wipe2, x_seq, x_sqN, x_sqR, x_sqB, x_sqC, x_next, x_ret, x_retK, x_retN, x_asg, x_asgB, x_asgK, x_drop, x_dropK, x_if, x_ifT, x_ifF, x_for, x_forK, x_tgt, x_tgtK, x_tgtL, x_tname, x_par, x_parK, x_dput, x_dputK, x_dputK1, x_dputK2, x_dputL, x_def, x_defR, x_defN, y_add, y_sub, y_mul, y_mulX, y_mod, y_fdiv, y_lt, y_le, y_gt, y_ge, y_eqI, y_eqS, y_neI, y_neS, y_eqYI, y_eqYS, y_neYI, y_neYS, y_ixT, y_ixL, y_trB, y_k0, y_k1, y_k2, y_k3, y_k4, y_k5, y_k6, y_lenT, y_lenL, y_lenS, startE, List.map_cons, List.map_nil, List.length_cons, List.length_nil, List.replicate, List.cons_append, List.nil_append, List.append_nil, Nat.sub_self, Nat.reduceSub, Nat.reduceAdd, Nat.reduceLeDiff, Nat.reduceEqDiff, Nat.zero_add, Nat.zero_le, Nat.sub_zero, List.set_cons_zero, List.set_cons_succ, List.getElem?_cons_zero, List.getElem?_cons_succ, Bool.not_true, Bool.not_false, decide_true, decide_false, ni, lb, decide_eq_false h2]
theorem nm_loop {n p : Nat} {m : Int} (hpn : p ≠ n) (hm : 1 ≤ m ∧ m ≤ 8) : ∀ (xs : List D) (S : Sto) (t : Nat) (fs : List Str) (x3 x4 x5 : Option D), At n t S → t + 10 * xs.length < 600000 → S[p]? = some (.lst (fs.map .str)) → okL m fs →
    ∃ x3' x4' x5' S' fs', loopS (tName 3) nmS xs [some (.ref n), some (.int m), some (.ref p), x3, x4, x5, none] S = some (.nx [some (.ref n), some (.int m), some (.ref p), x3', x4', x5', none] S') ∧ S'[p]? = some (.lst (fs'.map .str)) ∧ okL m fs' ∧ (xs ≠ [] → fs' ≠ []) ∧
      S.length ≤ S'.length ∧ At n (t + 10 * xs.length) S' ∧ ∀ q, q ≠ n → q ≠ p → q < S.length → S'[q]? = S[q]?
  | [], S, t, fs, x3, x4, x5, h, _, hp, hf => ⟨x3, x4, x5, S, fs, rfl, hp, hf, fun z => absurd rfl z, Nat.le_refl _, h, fun _ _ _ _ => rfl⟩
  | x :: xs, S, t, fs, x3, x4, x5, h, ht, hp, hf => by
    rw [List.length_cons] at ht
    obtain ⟨y4, y5, S1, fs1, e1, p1, f1, n1, l1, a1, o1⟩ := nm_one h (by omega) hp hpn hf hm (some x) x4 x5
    obtain ⟨z3, z4, z5, S2, fs2, e2, p2, f2, n2, l2, a2, o2⟩ := nm_loop hpn hm xs S1 (t + 10) fs1 (some x) y4 y5 a1 (by omega) p1 f1
    refine ⟨z3, z4, z5, S2, fs2, ls_cons rfl e1 e2, p2, f2, fun _ => ?_, Nat.le_trans l1 l2, a2.mono (by rw [List.length_cons]; omega), fun q h1 h2 h3 => (o2 q h1 h2 (Nat.lt_of_lt_of_le h3 l1)).trans (o1 q h1 h2 h3)⟩
    cases xs with
    | nil =>
      cases e2
      have p1 := p1.symm.trans p2
      intro z
      rw [z] at p1
      cases fs1 with
      | nil => exact n1 rfl
      | cons a l => cases p1
    | cons y ys => exact n2 (by simp)
theorem lt_of_le {a b : Str} (h : leS a b) (hne : a ≠ b) : strLt a b = true := by
  refine decide_eq_true ?_
  refine Decidable.byContradiction fun q => hne (leS_anti h (List.not_lt.mp q))
theorem rise_of : ∀ (l : List Str) (a : Str), (∀ x ∈ l, strLt a x = true) → l.Pairwise leS → l.Nodup → Rise a l
  | [], _, _, _, _ => trivial
  | x :: l, a, h, hp, hn => by
    obtain ⟨p1, p2⟩ := List.pairwise_cons.mp hp
    obtain ⟨n1, n2⟩ := List.nodup_cons.mp hn
    exact ⟨h x List.mem_cons_self, rise_of l x (fun y hy => lt_of_le (p1 y hy) (fun z => n1 (z ▸ hy))) p2 n2⟩
theorem emp_lt {s : Str} (h : okN s) : strLt "" s = true := by
  have h1 := (n_pos h).1
  obtain ⟨⟨l⟩⟩ := s
  cases l with
  | nil => exact absurd h1 (by decide)
  | cons c l => exact decide_eq_true (List.nil_lt_cons _ _)
structure okH (m : Int) (ns : List Str) : Prop where
  pos : 1 ≤ ns.length
  len : (ns.length : Int) ≤ m
  nm : ∀ s ∈ ns, okN s
  rise : Rise "" ns
theorem sort_ok {m : Int} {fs : List Str} (h : okL m fs) (hne : fs ≠ []) : okH m (sortT fs) := by
  have p := sortT_perm fs
  have hl := p.length_eq
  refine ⟨?_, by rw [hl]; exact h.len, fun s hs => h.nm s (p.mem_iff.mp hs), rise_of _ _ (fun x hx => emp_lt (h.nm x (p.mem_iff.mp hx))) (sortT_sorted fs) (p.nodup_iff.mpr h.nd)⟩
  rw [hl]
  exact List.length_pos_iff.mpr hne
theorem sorted_box {S : Sto} {p : Nat} {fs : List Str} (h : S[p]? = some (.lst (fs.map .str))) (hl : fs.length < 64) : sortedD S [.ref p] = some (.own (.lst ((sortT fs).map .str))) := by
  have v : view S (.ref p) = some (fs.map .str) := by simp only [view, h]
  show (match (view S (.ref p)).bind strsD with
    | some xs => if xs.length < 64 then some (Out.own (.lst ((sortT xs).map .str))) else none
    | none => none) = _
  rw [v, Option.bind_some, strs_map]
  exact if_pos hl
theorem den_nm : den_law_names = defD 7 (sSeq (sAsgB 2 (dLst aNil)) (sSeq (sFor (itA range1D (aCons (d2 mulX (dC (.int 2)) (dVar 1)) aNil)) (tName 3) nmS) (sRet (dCl sortedD (aCons (dVar 2) aNil))))) := rfl
theorem mo_2 (i : Int) : mulOk 2 i = true := mo_l (by decide) (by decide)
theorem e_names {n t : Nat} {S : Sto} {m : Int} (h : At n t S) (ht : t < 500000) (hm : 1 ≤ m ∧ m ≤ 8) :
    ∃ ns S', den_law_names [.ref n, .int m] S = some (.ok (.own (.lst (ns.map .str))) S') ∧ okH m ns ∧ Ev n (t + 160) S S' := by
  have hlt := h.lt
  have rg := rng (j := 2 * m) (by omega) (by omega)
  have rl := rng_len (2 * m).toNat
  obtain ⟨x3, x4, x5, S2, fs, e2, p2, f2, n2, l2, a2, o2⟩ := nm_loop (n := n) (p := S.length) (m := m) (by omega) hm (rangeL 0 (2 * m).toNat) (S ++ [.lst []]) t [] none none none (h.gr (Gr.push _ _)) (by omega) (push_at S _) ⟨fun _ z => absurd z (by simp), .nil, by show (0 : Int) ≤ m; omega⟩
  have hne : fs ≠ [] := n2 fun z => by rw [z] at rl; simp only [List.length_nil] at rl; omega
  have hlen := f2.len
  have sb := sorted_box p2 (by omega)
  rw [List.length_append] at l2 o2
  refine ⟨sortT fs, S2, ?_, sort_ok f2 hne, by omega, a2.mono (by omega), fun q h1 h2 => ?_⟩
  · have s1 : sAsgB 2 (dLst aNil) [some (.ref n), some (.int m), none, none, none, none, none] S = some (.nx [some (.ref n), some (.int m), some (.ref S.length), none, none, none, none] (S ++ [.lst []])) := by simp only [x_bnd, x_bnS, x_c, x_var, x_varK, x_stl, x_stlV, x_stlL, x_stlE, x_stlD, x_bxd, x_bxV, x_bxK, x_okv, x_okm, x_d2, x_d2K, x_d2L, x_tst, x_tstK, x_ch, x_chK, x_chL, x_chMt, x_chMf, x_chN, x_and, x_andK, x_andT, x_andF, x_or, x_orK, x_orT, x_orF, x_not, x_notK, x_notL, x_tru, x_truK, x_truL, x_band, x_bandT, x_bandF, x_bor, x_borT, x_borF, x_bnot, x_bnotK, x_dif, x_difT, x_difF, x_anil, x_acons, x_aK, x_aL, x_tup, x_tupK, x_lst, x_lstK, x_cl, x_clK, x_fn, x_fnK, x_isi, x_isiK, x_isiL, x_neg, x_negK, x_revL, x_kget, x_kgetK, x_sl, x_slK, x_slL, x_pnone, x_psome, x_psK, x_mt, x_mtK, x_mtL, x_itA, x_itAK, x_itL, x_itSeq, x_seqK, x_itStr, x_istrK, x_comp, x_compK, x_compL, x_wipe1, x_wipe2, x_seq, x_sqN, x_sqR, x_sqB, x_sqC, x_next, x_ret, x_retK, x_retN, x_asg, x_asgB, x_asgK, x_drop, x_dropK, x_if, x_ifT, x_ifF, x_for, x_forK, x_tgt, x_tgtK, x_tgtL, x_tname, x_par, x_parK, x_dput, x_dputK, x_dputK1, x_dputK2, x_dputL, x_def, x_defR, x_defN, y_add, y_sub, y_mul, y_mulX, y_mod, y_fdiv, y_lt, y_le, y_gt, y_ge, y_eqI, y_eqS, y_neI, y_neS, y_eqYI, y_eqYS, y_neYI, y_neYS, y_ixT, y_ixL, y_trB, y_k0, y_k1, y_k2, y_k3, y_k4, y_k5, y_k6, y_lenT, y_lenL, y_lenS, startE, List.map_cons, List.map_nil, List.length_cons, List.length_nil, List.replicate, List.cons_append, List.nil_append, List.append_nil, Nat.sub_self, Nat.reduceSub, Nat.reduceAdd, Nat.reduceLeDiff, Nat.reduceEqDiff, Nat.zero_add, Nat.zero_le, Nat.sub_zero, List.set_cons_zero, List.set_cons_succ, List.getElem?_cons_zero, List.getElem?_cons_succ, Bool.not_true, Bool.not_false, decide_true, decide_false]
    have ar : aCons (d2 mulX (dC (.int 2)) (dVar 1)) aNil [some (.ref n), some (.int m), some (.ref S.length), none, none, none, none] (S ++ [.lst []]) = some (.ok [.int (2 * m)] (S ++ [.lst []])) := by simp only [x_bnd, x_bnS, x_c, x_var, x_varK, x_stl, x_stlV, x_stlL, x_stlE, x_stlD, x_bxd, x_bxV, x_bxK, x_okv, x_okm, x_d2, x_d2K, x_d2L, x_tst, x_tstK, x_ch, x_chK, x_chL, x_chMt, x_chMf, x_chN, x_and, x_andK, x_andT, x_andF, x_or, x_orK, x_orT, x_orF, x_not, x_notK, x_notL, x_tru, x_truK, x_truL, x_band, x_bandT, x_bandF, x_bor, x_borT, x_borF, x_bnot, x_bnotK, x_dif, x_difT, x_difF, x_anil, x_acons, x_aK, x_aL, x_tup, x_tupK, x_lst, x_lstK, x_cl, x_clK, x_fn, x_fnK, x_isi, x_isiK, x_isiL, x_neg, x_negK, x_revL, x_kget, x_kgetK, x_sl, x_slK, x_slL, x_pnone, x_psome, x_psK, x_mt, x_mtK, x_mtL, x_itA, x_itAK, x_itL, x_itSeq, x_seqK, x_itStr, x_istrK, x_comp, x_compK, x_compL, x_wipe1, x_wipe2, x_seq, x_sqN, x_sqR, x_sqB, x_sqC, x_next, x_ret, x_retK, x_retN, x_asg, x_asgB, x_asgK, x_drop, x_dropK, x_if, x_ifT, x_ifF, x_for, x_forK, x_tgt, x_tgtK, x_tgtL, x_tname, x_par, x_parK, x_dput, x_dputK, x_dputK1, x_dputK2, x_dputL, x_def, x_defR, x_defN, y_add, y_sub, y_mul, y_mulX, y_mod, y_fdiv, y_lt, y_le, y_gt, y_ge, y_eqI, y_eqS, y_neI, y_neS, y_eqYI, y_eqYS, y_neYI, y_neYS, y_ixT, y_ixL, y_trB, y_k0, y_k1, y_k2, y_k3, y_k4, y_k5, y_k6, y_lenT, y_lenL, y_lenS, startE, List.map_cons, List.map_nil, List.length_cons, List.length_nil, List.replicate, List.cons_append, List.nil_append, List.append_nil, Nat.sub_self, Nat.reduceSub, Nat.reduceAdd, Nat.reduceLeDiff, Nat.reduceEqDiff, Nat.zero_add, Nat.zero_le, Nat.sub_zero, List.set_cons_zero, List.set_cons_succ, List.getElem?_cons_zero, List.getElem?_cons_succ, Bool.not_true, Bool.not_false, decide_true, decide_false, mo_2]
    have s2 : sFor (itA range1D (aCons (d2 mulX (dC (.int 2)) (dVar 1)) aNil)) (tName 3) nmS [some (.ref n), some (.int m), some (.ref S.length), none, none, none, none] (S ++ [.lst []]) = some (.nx [some (.ref n), some (.int m), some (.ref S.length), x3, x4, x5, none] S2) := by
      rw [x_for, x_itA, ar, x_bnd, x_itAK, rg, x_itL, x_bnS, x_forK, e2]
    generalize S.length = p at *
    have s3 : sRet (dCl sortedD (aCons (dVar 2) aNil)) [some (.ref n), some (.int m), some (.ref p), x3, x4, x5, none] S2 = some (.rt (.own (.lst ((sortT fs).map .str))) S2) := by simp only [x_bnd, x_bnS, x_c, x_var, x_varK, x_stl, x_stlV, x_stlL, x_stlE, x_stlD, x_bxd, x_bxV, x_bxK, x_okv, x_okm, x_d2, x_d2K, x_d2L, x_tst, x_tstK, x_ch, x_chK, x_chL, x_chMt, x_chMf, x_chN, x_and, x_andK, x_andT, x_andF, x_or, x_orK, x_orT, x_orF, x_not, x_notK, x_notL, x_tru, x_truK, x_truL, x_band, x_bandT, x_bandF, x_bor, x_borT, x_borF, x_bnot, x_bnotK, x_dif, x_difT, x_difF, x_anil, x_acons, x_aK, x_aL, x_tup, x_tupK, x_lst, x_lstK, x_cl, x_clK, x_fn, x_fnK, x_isi, x_isiK, x_isiL, x_neg, x_negK, x_revL, x_kget, x_kgetK, x_sl, x_slK, x_slL, x_pnone, x_psome, x_psK, x_mt, x_mtK, x_mtL, x_itA, x_itAK, x_itL, x_itSeq, x_seqK, x_itStr, x_istrK, x_comp, x_compK, x_compL, x_wipe1, x_wipe2, x_seq, x_sqN, x_sqR, x_sqB, x_sqC, x_next, x_ret, x_retK, x_retN, x_asg, x_asgB, x_asgK, x_drop, x_dropK, x_if, x_ifT, x_ifF, x_for, x_forK, x_tgt, x_tgtK, x_tgtL, x_tname, x_par, x_parK, x_dput, x_dputK, x_dputK1, x_dputK2, x_dputL, x_def, x_defR, x_defN, y_add, y_sub, y_mul, y_mulX, y_mod, y_fdiv, y_lt, y_le, y_gt, y_ge, y_eqI, y_eqS, y_neI, y_neS, y_eqYI, y_eqYS, y_neYI, y_neYS, y_ixT, y_ixL, y_trB, y_k0, y_k1, y_k2, y_k3, y_k4, y_k5, y_k6, y_lenT, y_lenL, y_lenS, startE, List.map_cons, List.map_nil, List.length_cons, List.length_nil, List.replicate, List.cons_append, List.nil_append, List.append_nil, Nat.sub_self, Nat.reduceSub, Nat.reduceAdd, Nat.reduceLeDiff, Nat.reduceEqDiff, Nat.zero_add, Nat.zero_le, Nat.sub_zero, List.set_cons_zero, List.set_cons_succ, List.getElem?_cons_zero, List.getElem?_cons_succ, Bool.not_true, Bool.not_false, decide_true, decide_false, sb]
    rw [den_nm, x_def]
    show defK (sSeq _ _ [some (.ref n), some (.int m), none, none, none, none, none] S) = _
    rw [x_seq, s1, x_sqN, x_seq, s2, x_sqN, s3, x_defR]
  · have := o2 q h1 (by omega) (by omega)
    rw [this, List.getElem?_append_left h2]
/-! boxed lists walked -/
noncomputable def compKI (t : Tn) (c : Dn Bool) (f : Dn Out) (ρ : En) (p : List D × (Sto → Prop)) (S1 : Sto) : Option (Rz Out) := match loopCI p.2 t c f ρ p.1 0 S1 with
  | some (ys, S2) => some (.ok (.own (.lst ys)) S2)
  | none => none
theorem x_compI (g : Dn (List D × (Sto → Prop))) (t : Tn) (c : Dn Bool) (f : Dn Out) (vs : List Nat) (ρ : En) (S : Sto) : dCompB g t c f vs ρ S = bnd (g ρ S) (compKI t c f (wipeE ρ vs)) := rfl
theorem x_compKI {I : Sto → Prop} {t : Tn} {c : Dn Bool} {f : Dn Out} {ρ : En} {es ys : List D} {S S2 : Sto} (h : loopCI I t c f ρ es 0 S = some (ys, S2)) : compKI t c f ρ (es, I) S = some (.ok (.own (.lst ys)) S2) := by
  unfold compKI
  rw [h]
theorem loop_fltI (ρ : En) (I : Sto → Prop) (c : D → Bool) (p : Dn Bool) (i : Nat) : ∀ (l : List D) (k : Nat) (S : Sto), I S → i < ρ.length → k + l.length ≤ sizeLine → (∀ x ∈ l, p (ρ.set i (some x)) S = some (.ok (c x) S)) →
    loopCI I (tName i) p (dVar i) ρ l k S = some (l.filter c, S)
  | [], k, S, hI, _, _, _ => lcI_nil hI
  | x :: l, k, S, hI, hi, hk, h => by
    have h1 := h x List.mem_cons_self
    have hl : (x :: l).length = l.length + 1 := rfl
    have hz : k < sizeLine := by omega
    have hv : dVar i (ρ.set i (some x)) S = some (.ok (.val x) S) := by
      rw [x_var, List.getElem?_set_self hi]
      rfl
    rw [lcI_cons hI]
    cases hc : c x with
    | true =>
      rw [hc] at h1
      have ih := loop_fltI ρ I c p i l (k + 1) S hI hi (by omega) fun y hy => h y (List.mem_cons_of_mem _ hy)
      simp only [tName, h1, x_stl, x_bnd, hv, x_stlV, if_pos hz, ih, Option.map, List.filter, hc]
    | false =>
      rw [hc] at h1
      have ih := loop_fltI ρ I c p i l k S hI hi (by omega) fun y hy => h y (List.mem_cons_of_mem _ hy)
      simp only [tName, h1, ih, List.filter, hc]
/-! kinds drawn -/
def kL (hd : List Str) (j : Int) : List Kd := (hd.map Kd.ow ++ hd.map Kd.ow) ++ [.pl 2, .pl 9, .pl j]
theorem kL_d (hd : List Str) (j : Int) : (kL hd j).map Kd.d = (hd.map .str ++ hd.map .str) ++ [.int 2, .int 9, .int j] := by
  have e : (hd.map Kd.ow).map Kd.d = hd.map D.str := by rw [List.map_map]; rfl
  unfold kL
  rw [List.map_append, List.map_append, e]
  rfl
theorem kL_ok {hd : List Str} {j : Int} (hj : 2 ≤ j ∧ j ≤ 9) : ∀ k ∈ kL hd j, okK hd k := by
  intro k hk
  rcases List.mem_append.mp hk with hk | hk
  · have : k ∈ hd.map Kd.ow := by
      rcases List.mem_append.mp hk with hk | hk <;> exact hk
    obtain ⟨s, hs, rfl⟩ := List.mem_map.mp this
    exact hs
  · rcases List.mem_cons.mp hk with rfl | hk
    · exact ⟨by decide, by decide⟩
    · rcases List.mem_cons.mp hk with rfl | hk
      · exact ⟨by decide, by decide⟩
      · rw [List.mem_singleton.mp hk]
        exact hj
theorem kL_len (hd : List Str) (j : Int) : (kL hd j).length = 2 * hd.length + 3 := by
  unfold kL
  simp only [List.length_append, List.length_map, List.length_cons, List.length_nil]
  omega
theorem e_lkind {n t : Nat} {S : Sto} (h : At n t S) (ht : t < 900000) {hd : List Str} (hl : hd.length ≤ 2) :
    ∃ k S', den_law_kind [.ref n, .tup (hd.map .str)] S = some (.ok (.val k.d) S') ∧ okK hd k ∧ Ev n (t + 2) S S' := by
  obtain ⟨r, S1, e1, r1, r2, g1⟩ := g_dig (m := 8) h (by omega) ⟨by decide, by decide⟩
  obtain ⟨r', S2, e2, r3, r4, g2⟩ := g_dig (m := 2 * (hd.length : Int) + 3) g1.2.1 (by omega) ⟨by omega, by omega⟩
  obtain ⟨k, hk, ek⟩ := atI_mem (l := kL hd (2 + r)) r3 (by rw [kL_len]; omega)
  have a1 : addD S1 (.lst (hd.map .str)) (.lst (hd.map .str)) = some (.own (.lst (hd.map .str ++ hd.map .str))) := adLD S1 _ _ (by rw [List.length_map]; omega)
  have a2 : addD S1 (.lst (hd.map .str ++ hd.map .str)) (.lst [.int 2, .int 9, .int (2 + r)]) = some (.own (.lst ((kL hd (2 + r)).map Kd.d))) := by
    rw [kL_d]
    exact adLD S1 _ _ (by rw [List.length_append, List.length_map]; show _ + 3 ≤ _; omega)
  have ix : ixD S2 (.lst ((kL hd (2 + r)).map Kd.d)) (.int r') = some (.val k.d) := by
    rw [y_ixF, atI_map, ek]
    rfl
  refine ⟨k, S2, ?_, kL_ok (by omega) k hk, g1.trans g2⟩
  have yl : lenD S1 [.tup (hd.map .str)] = some (.val (.int (hd.length : Int))) := by rw [y_lenT, List.length_map]
  generalize (hd.length : Int) = L at *
  generalize (kL hd (2 + r)).map Kd.d = kl at *
  generalize hd.map D.str ++ hd.map .str = hh at *
  generalize hd.map D.str = hs at *
  generalize k.d = kd at *
  simp only [den_law_kind, x_bnd, x_bnS, x_c, x_var, x_varK, x_stl, x_stlV, x_stlL, x_stlE, x_stlD, x_bxd, x_bxV, x_bxK, x_okv, x_okm, x_d2, x_d2K, x_d2L, x_tst, x_tstK, x_ch, x_chK, x_chL, x_chMt, x_chMf, x_chN, x_and, x_andK, x_andT, x_andF, x_or, x_orK, x_orT, x_orF, x_not, x_notK, x_notL, x_tru, x_truK, x_truL, x_band, x_bandT, x_bandF, x_bor, x_borT, x_borF, x_bnot, x_bnotK, x_dif, x_difT, x_difF, x_anil, x_acons, x_aK, x_aL, x_tup, x_tupK, x_lst, x_lstK, x_cl, x_clK, x_fn, x_fnK, x_isi, x_isiK, x_isiL, x_neg, x_negK, x_revL, x_kget, x_kgetK, x_sl, x_slK, x_slL, x_pnone, x_psome, x_psK, x_mt, x_mtK, x_mtL, x_itA, x_itAK, x_itL, x_itSeq, x_seqK, x_itStr, x_istrK, x_comp, x_compK, x_compL, x_wipe1, x_wipe2, x_seq, x_sqN, x_sqR, x_sqB, x_sqC, x_next, x_ret, x_retK, x_retN, x_asg, x_asgB, x_asgK, x_drop, x_dropK, x_if, x_ifT, x_ifF, x_for, x_forK, x_tgt, x_tgtK, x_tgtL, x_tname, x_par, x_parK, x_dput, x_dputK, x_dputK1, x_dputK2, x_dputL, x_def, x_defR, x_defN, y_add, y_sub, y_mul, y_mulX, y_mod, y_fdiv, y_lt, y_le, y_gt, y_ge, y_eqI, y_eqS, y_neI, y_neS, y_eqYI, y_eqYS, y_neYI, y_neYS, y_ixT, y_ixL, y_trB, y_k0, y_k1, y_k2, y_k3, y_k4, y_k5, y_k6, y_lenL, y_lenS, startE, List.map_cons, List.map_nil, List.length_cons, List.length_nil, List.replicate, List.cons_append, List.nil_append, List.append_nil, Nat.sub_self, Nat.reduceSub, Nat.reduceAdd, Nat.reduceLeDiff, Nat.reduceEqDiff, Nat.zero_add, Nat.zero_le, Nat.sub_zero, List.set_cons_zero, List.set_cons_succ, List.getElem?_cons_zero, List.getElem?_cons_succ, Bool.not_true, Bool.not_false, decide_true, decide_false, Int.reduceEq, Int.reduceLT, Int.reduceLE, Int.reduceSub, Int.reduceAdd, eq_self, Option.map_some, e1, y_listT, a1, a2, mo_2, yl, e2, ix]
noncomputable def fcP : Sn := sPar 7 8 (aCons (dFn 2 den_law_kind (aCons (dVar 0) (aCons (dVar 2) aNil))) (aCons (d2 addD (dC (.int 2)) (dFn 2 den_law_digit (aCons (dVar 0) (aCons (dC (.int 8)) aNil)))) aNil))
noncomputable def fcA : Sn := sDrop (dMt "list" appD (dVar 5) (aCons (dIf (tst (d2 eqX (dCl lenD (aCons (dCompB (itBox (dVar 5)) (tName 9) (tst (d2 inD (dVar 9) (dVar 2))) (dVar 9) [9]) aNil)) (dC (.int 2)))) (dVar 8) (dVar 7)) aNil))
noncomputable def fcT : Sn := sSeq fcP fcA
structure okT (hd : List Str) (tk : List Kd) : Prop where
  ok : ∀ k ∈ tk, okK hd k
  two : (tk.filter Kd.own).length ≤ 2
theorem okT.snoc {hd : List Str} {tk : List Kd} (h : okT hd tk) {k : Kd} (hk : okK hd k) (h2 : (tk.filter Kd.own).length = 2 → k.own = false) : okT hd (tk ++ [k]) := by
  refine ⟨fun x hx => ?_, ?_⟩
  · rcases List.mem_append.mp hx with hx | hx
    · exact h.ok x hx
    · rw [List.mem_singleton.mp hx]
      exact hk
  · have := h.two
    rw [List.filter_append, List.length_append]
    cases ho : k.own with
    | false => rw [List.filter_cons_of_neg (by rw [ho]; decide)]; simpa using this
    | true =>
      rw [List.filter_cons_of_pos ho]
      have : (tk.filter Kd.own).length ≠ 2 := fun z => by rw [h2 z] at ho; cases ho
      simp only [List.filter_nil, List.length_cons, List.length_nil]
      omega
theorem in_K (S : Sto) {hd : List Str} {k : Kd} (hk : okK hd k) : inD S k.d (.tup (hd.map .str)) = some (.val (.bl k.own)) := by
  cases k with
  | pl i => exact in_I S i hd
  | ow s =>
    have e := in_T S s hd
    rw [decide_eq_true (show s ∈ hd from hk)] at e
    exact e
theorem fa_one {S : Sto} {q : Nat} {hd : List Str} {tk : List Kd} {k : Kd} {j : Int} (hq : S[q]? = some (.lst (tk.map Kd.d))) (h : okT hd tk) (hl : tk.length ≤ 10) (hk : okK hd k) (hj : 2 ≤ j ∧ j ≤ 9) (x0 x1 x3 x4 x6 : Option D) :
    ∃ k', fcA [x0, x1, some (.tup (hd.map .str)), x3, x4, some (.ref q), x6, some k.d, some (.int j), none] S = some (.nx [x0, x1, some (.tup (hd.map .str)), x3, x4, some (.ref q), x6, some k.d, some (.int j), none] (S.set q (.lst ((tk ++ [k']).map Kd.d)))) ∧ okT hd (tk ++ [k']) := by
  have lf := loop_fltI [x0, x1, some (.tup (hd.map .str)), x3, x4, some (.ref q), x6, some k.d, some (.int j), none] (boxI q (tk.map Kd.d)) strB (tst (d2 inD (dVar 9) (dVar 2))) 9 (tk.map Kd.d) 0 S hq (by simp) (by rw [List.length_map]; show 0 + tk.length ≤ 2 ^ 24; omega) (fun x hx => by
    obtain ⟨y, hy, rfl⟩ := List.mem_map.mp hx
    have e := in_K S (h.ok y hy)
    rw [← own_str] at e
    generalize y.d = yd at *
    generalize hd.map D.str = hs at *
    simp only [x_bnd, x_bnS, x_c, x_var, x_varK, x_stl, x_stlV, x_stlL, x_stlE, x_stlD, x_bxd, x_bxV, x_bxK, x_okv, x_okm, x_d2, x_d2K, x_d2L, x_tst, x_tstK, x_ch, x_chK, x_chL, x_chMt, x_chMf, x_chN, x_and, x_andK, x_andT, x_andF, x_or, x_orK, x_orT, x_orF, x_not, x_notK, x_notL, x_tru, x_truK, x_truL, x_band, x_bandT, x_bandF, x_bor, x_borT, x_borF, x_bnot, x_bnotK, x_dif, x_difT, x_difF, x_anil, x_acons, x_aK, x_aL, x_tup, x_tupK, x_lst, x_lstK, x_cl, x_clK, x_fn, x_fnK, x_isi, x_isiK, x_isiL, x_neg, x_negK, x_revL, x_kget, x_kgetK, x_sl, x_slK, x_slL, x_pnone, x_psome, x_psK, x_mt, x_mtK, x_mtL, x_itA, x_itAK, x_itL, x_itSeq, x_seqK, x_itStr, x_istrK, x_comp, x_compK, x_compL, x_wipe1, x_wipe2, x_seq, x_sqN, x_sqR, x_sqB, x_sqC, x_next, x_ret, x_retK, x_retN, x_asg, x_asgB, x_asgK, x_drop, x_dropK, x_if, x_ifT, x_ifF, x_for, x_forK, x_tgt, x_tgtK, x_tgtL, x_tname, x_par, x_parK, x_dput, x_dputK, x_dputK1, x_dputK2, x_dputL, x_def, x_defR, x_defN, y_add, y_sub, y_mul, y_mulX, y_mod, y_fdiv, y_lt, y_le, y_gt, y_ge, y_eqI, y_eqS, y_neI, y_neS, y_eqYI, y_eqYS, y_neYI, y_neYS, y_ixT, y_ixL, y_trB, y_k0, y_k1, y_k2, y_k3, y_k4, y_k5, y_k6, y_lenT, y_lenL, y_lenS, startE, List.map_cons, List.map_nil, List.length_cons, List.length_nil, List.replicate, List.cons_append, List.nil_append, List.append_nil, Nat.sub_self, Nat.reduceSub, Nat.reduceAdd, Nat.reduceLeDiff, Nat.reduceEqDiff, Nat.zero_add, Nat.zero_le, Nat.sub_zero, List.set_cons_zero, List.set_cons_succ, List.getElem?_cons_zero, List.getElem?_cons_succ, Bool.not_true, Bool.not_false, decide_true, decide_false, e])
  rw [strF] at lf
  have cm := x_compKI lf
  have bk := x_boxK hq
  have ty := ty_box hq
  have ap := fun k' : Kd => app_box hq k'.d (by rw [List.length_map]; omega)
  have em : ∀ k' : Kd, tk.map Kd.d ++ [k'.d] = (tk ++ [k']).map Kd.d := fun k' => by rw [List.map_append]; rfl
  have ln : lenD S [.lst ((tk.filter Kd.own).map Kd.d)] = some (.val (.int ((tk.filter Kd.own).length : Int))) := by rw [y_lenL, List.length_map]
  by_cases h2 : (tk.filter Kd.own).length = 2
  · refine ⟨.pl j, ?_, h.snoc hj fun _ => rfl⟩
    have ap1 := ap (.pl j)
    rw [em] at ap1
    have ap1 : appD S (.ref q) [.int j] = _ := ap1
    clear ap em
    have g : decide (((tk.filter Kd.own).length : Int) = 2) = true := decide_eq_true (by omega)
    generalize ((tk.filter Kd.own).length : Int) = L at *
    generalize (tk ++ [Kd.pl j]).map Kd.d = t2 at *
    generalize (tk.filter Kd.own).map Kd.d = fl at *
    generalize tk.map Kd.d = t1 at *
    generalize k.d = kd at *
    generalize hd.map D.str = hs at *
    simp only [fcA, x_compI, x_itBox, x_bnd, x_bnS, x_c, x_var, x_varK, x_stl, x_stlV, x_stlL, x_stlE, x_stlD, x_bxd, x_bxV, x_bxK, x_okv, x_okm, x_d2, x_d2K, x_d2L, x_tst, x_tstK, x_ch, x_chK, x_chL, x_chMt, x_chMf, x_chN, x_and, x_andK, x_andT, x_andF, x_or, x_orK, x_orT, x_orF, x_not, x_notK, x_notL, x_tru, x_truK, x_truL, x_band, x_bandT, x_bandF, x_bor, x_borT, x_borF, x_bnot, x_bnotK, x_dif, x_difT, x_difF, x_anil, x_acons, x_aK, x_aL, x_tup, x_tupK, x_lst, x_lstK, x_cl, x_clK, x_fn, x_fnK, x_isi, x_isiK, x_isiL, x_neg, x_negK, x_revL, x_kget, x_kgetK, x_sl, x_slK, x_slL, x_pnone, x_psome, x_psK, x_mt, x_mtK, x_mtL, x_itA, x_itAK, x_itL, x_itSeq, x_seqK, x_itStr, x_istrK, x_comp, x_compK, x_compL, x_wipe1, x_wipe2, x_seq, x_sqN, x_sqR, x_sqB, x_sqC, x_next, x_ret, x_retK, x_retN, x_asg, x_asgB, x_asgK, x_drop, x_dropK, x_if, x_ifT, x_ifF, x_for, x_forK, x_tgt, x_tgtK, x_tgtL, x_tname, x_par, x_parK, x_dput, x_dputK, x_dputK1, x_dputK2, x_dputL, x_def, x_defR, x_defN, y_add, y_sub, y_mul, y_mulX, y_mod, y_fdiv, y_lt, y_le, y_gt, y_ge, y_eqI, y_eqS, y_neI, y_neS, y_eqYI, y_eqYS, y_neYI, y_neYS, y_ixT, y_ixL, y_trB, y_k0, y_k1, y_k2, y_k3, y_k4, y_k5, y_k6, y_lenL, y_lenS, startE, List.map_cons, List.map_nil, List.length_cons, List.length_nil, List.replicate, List.cons_append, List.nil_append, List.append_nil, Nat.sub_self, Nat.reduceSub, Nat.reduceAdd, Nat.reduceLeDiff, Nat.reduceEqDiff, Nat.zero_add, Nat.zero_le, Nat.sub_zero, List.set_cons_zero, List.set_cons_succ, List.getElem?_cons_zero, List.getElem?_cons_succ, Bool.not_true, Bool.not_false, decide_true, decide_false, Int.reduceEq, Int.reduceLT, Int.reduceLE, Int.reduceSub, Int.reduceAdd, eq_self, Option.map_some, x_wipe1, bk, cm, ln, g, ty, ap1]
  · refine ⟨k, ?_, h.snoc hk fun z => absurd z h2⟩
    have ap1 := ap k
    rw [em] at ap1
    clear ap em
    have g : decide (((tk.filter Kd.own).length : Int) = 2) = false := decide_eq_false (by omega)
    generalize ((tk.filter Kd.own).length : Int) = L at *
    generalize (tk ++ [k]).map Kd.d = t2 at *
    generalize (tk.filter Kd.own).map Kd.d = fl at *
    generalize tk.map Kd.d = t1 at *
    generalize k.d = kd at *
    generalize hd.map D.str = hs at *
    simp only [fcA, x_compI, x_itBox, x_bnd, x_bnS, x_c, x_var, x_varK, x_stl, x_stlV, x_stlL, x_stlE, x_stlD, x_bxd, x_bxV, x_bxK, x_okv, x_okm, x_d2, x_d2K, x_d2L, x_tst, x_tstK, x_ch, x_chK, x_chL, x_chMt, x_chMf, x_chN, x_and, x_andK, x_andT, x_andF, x_or, x_orK, x_orT, x_orF, x_not, x_notK, x_notL, x_tru, x_truK, x_truL, x_band, x_bandT, x_bandF, x_bor, x_borT, x_borF, x_bnot, x_bnotK, x_dif, x_difT, x_difF, x_anil, x_acons, x_aK, x_aL, x_tup, x_tupK, x_lst, x_lstK, x_cl, x_clK, x_fn, x_fnK, x_isi, x_isiK, x_isiL, x_neg, x_negK, x_revL, x_kget, x_kgetK, x_sl, x_slK, x_slL, x_pnone, x_psome, x_psK, x_mt, x_mtK, x_mtL, x_itA, x_itAK, x_itL, x_itSeq, x_seqK, x_itStr, x_istrK, x_comp, x_compK, x_compL, x_wipe1, x_wipe2, x_seq, x_sqN, x_sqR, x_sqB, x_sqC, x_next, x_ret, x_retK, x_retN, x_asg, x_asgB, x_asgK, x_drop, x_dropK, x_if, x_ifT, x_ifF, x_for, x_forK, x_tgt, x_tgtK, x_tgtL, x_tname, x_par, x_parK, x_dput, x_dputK, x_dputK1, x_dputK2, x_dputL, x_def, x_defR, x_defN, y_add, y_sub, y_mul, y_mulX, y_mod, y_fdiv, y_lt, y_le, y_gt, y_ge, y_eqI, y_eqS, y_neI, y_neS, y_eqYI, y_eqYS, y_neYI, y_neYS, y_ixT, y_ixL, y_trB, y_k0, y_k1, y_k2, y_k3, y_k4, y_k5, y_k6, y_lenL, y_lenS, startE, List.map_cons, List.map_nil, List.length_cons, List.length_nil, List.replicate, List.cons_append, List.nil_append, List.append_nil, Nat.sub_self, Nat.reduceSub, Nat.reduceAdd, Nat.reduceLeDiff, Nat.reduceEqDiff, Nat.zero_add, Nat.zero_le, Nat.sub_zero, List.set_cons_zero, List.set_cons_succ, List.getElem?_cons_zero, List.getElem?_cons_succ, Bool.not_true, Bool.not_false, decide_true, decide_false, Int.reduceEq, Int.reduceLT, Int.reduceLE, Int.reduceSub, Int.reduceAdd, eq_self, Option.map_some, x_wipe1, bk, cm, ln, g, ty, ap1]
theorem ft_step {n t q : Nat} {S : Sto} {hd : List Str} {tk : List Kd} (h : At n t S) (ht : t < 800000) (hl : hd.length ≤ 2) (hq : S[q]? = some (.lst (tk.map Kd.d))) (hqn : q ≠ n) (hk : okT hd tk) (htl : tk.length ≤ 10) (x1 x3 x4 x6 x7 x8 : Option D) :
    ∃ x7' x8' S' k', fcT [some (.ref n), x1, some (.tup (hd.map .str)), x3, x4, some (.ref q), x6, x7, x8, none] S = some (.nx [some (.ref n), x1, some (.tup (hd.map .str)), x3, x4, some (.ref q), x6, x7', x8', none] S') ∧ S'[q]? = some (.lst ((tk ++ [k']).map Kd.d)) ∧ okT hd (tk ++ [k']) ∧
      S.length ≤ S'.length ∧ At n (t + 3) S' ∧ ∀ m, m ≠ n → m ≠ q → m < S.length → S'[m]? = S[m]? := by
  obtain ⟨k, S1, e1, k1, g1⟩ := e_lkind h (by omega) hl
  obtain ⟨r, S2, e2, r1, r2, g2⟩ := g_dig (m := 8) g1.2.1 (by omega) ⟨by decide, by decide⟩
  have g := g1.trans g2
  have hq2 := g.at hqn hq
  obtain ⟨k', e3, o3⟩ := fa_one hq2 hk htl k1 (j := 2 + r) (by omega) (some (.ref n)) x1 x3 x4 x6
  refine ⟨some k.d, some (.int (2 + r)), _, k', ?_, set_at hq2, o3, by rw [List.length_set]; exact g.1, (g.2.1.put hqn _).mono (by omega), fun m h1 h2 h3 => by rw [List.getElem?_set_ne (Ne.symm h2)]; exact g.2.2 m h1 h3⟩
  have p : fcP [some (.ref n), x1, some (.tup (hd.map .str)), x3, x4, some (.ref q), x6, x7, x8, none] S = some (.nx [some (.ref n), x1, some (.tup (hd.map .str)), x3, x4, some (.ref q), x6, some k.d, some (.int (2 + r)), none] S2) := by
    generalize hd.map D.str = hs at *
    generalize k.d = kd at *
    simp only [fcP, x_bnd, x_bnS, x_c, x_var, x_varK, x_stl, x_stlV, x_stlL, x_stlE, x_stlD, x_bxd, x_bxV, x_bxK, x_okv, x_okm, x_d2, x_d2K, x_d2L, x_tst, x_tstK, x_ch, x_chK, x_chL, x_chMt, x_chMf, x_chN, x_and, x_andK, x_andT, x_andF, x_or, x_orK, x_orT, x_orF, x_not, x_notK, x_notL, x_tru, x_truK, x_truL, x_band, x_bandT, x_bandF, x_bor, x_borT, x_borF, x_bnot, x_bnotK, x_dif, x_difT, x_difF, x_anil, x_acons, x_aK, x_aL, x_tup, x_tupK, x_lst, x_lstK, x_cl, x_clK, x_fn, x_fnK, x_isi, x_isiK, x_isiL, x_neg, x_negK, x_revL, x_kget, x_kgetK, x_sl, x_slK, x_slL, x_pnone, x_psome, x_psK, x_mt, x_mtK, x_mtL, x_itA, x_itAK, x_itL, x_itSeq, x_seqK, x_itStr, x_istrK, x_comp, x_compK, x_compL, x_wipe1, x_wipe2, x_seq, x_sqN, x_sqR, x_sqB, x_sqC, x_next, x_ret, x_retK, x_retN, x_asg, x_asgB, x_asgK, x_drop, x_dropK, x_if, x_ifT, x_ifF, x_for, x_forK, x_tgt, x_tgtK, x_tgtL, x_tname, x_par, x_parK, x_dput, x_dputK, x_dputK1, x_dputK2, x_dputL, x_def, x_defR, x_defN, y_add, y_sub, y_mul, y_mulX, y_mod, y_fdiv, y_lt, y_le, y_gt, y_ge, y_eqI, y_eqS, y_neI, y_neS, y_eqYI, y_eqYS, y_neYI, y_neYS, y_ixT, y_ixL, y_trB, y_k0, y_k1, y_k2, y_k3, y_k4, y_k5, y_k6, y_lenT, y_lenL, y_lenS, startE, List.map_cons, List.map_nil, List.length_cons, List.length_nil, List.replicate, List.cons_append, List.nil_append, List.append_nil, Nat.sub_self, Nat.reduceSub, Nat.reduceAdd, Nat.reduceLeDiff, Nat.reduceEqDiff, Nat.zero_add, Nat.zero_le, Nat.sub_zero, List.set_cons_zero, List.set_cons_succ, List.getElem?_cons_zero, List.getElem?_cons_succ, Bool.not_true, Bool.not_false, decide_true, decide_false, e1, e2]
  unfold fcT
  rw [x_seq, p, x_sqN, e3]
theorem ft_lp {n q : Nat} {hd : List Str} (hl : hd.length ≤ 2) (hqn : q ≠ n) (x1 x3 x4 : Option D) : ∀ (xs : List D) (S : Sto) (t : Nat) (tk : List Kd) (x6 x7 x8 : Option D), At n t S → t + 3 * xs.length < 700000 → S[q]? = some (.lst (tk.map Kd.d)) → okT hd tk → tk.length + xs.length ≤ 10 →
    ∃ x6' x7' x8' S' tk', loopS (tName 6) fcT xs [some (.ref n), x1, some (.tup (hd.map .str)), x3, x4, some (.ref q), x6, x7, x8, none] S = some (.nx [some (.ref n), x1, some (.tup (hd.map .str)), x3, x4, some (.ref q), x6', x7', x8', none] S') ∧ S'[q]? = some (.lst (tk'.map Kd.d)) ∧ okT hd tk' ∧ tk'.length = tk.length + xs.length ∧
      S.length ≤ S'.length ∧ At n (t + 3 * xs.length) S' ∧ ∀ m, m ≠ n → m ≠ q → m < S.length → S'[m]? = S[m]?
  | [], S, t, tk, x6, x7, x8, h, _, hq, hk, _ => ⟨x6, x7, x8, S, tk, rfl, hq, hk, rfl, Nat.le_refl _, h, fun _ _ _ _ => rfl⟩
  | x :: xs, S, t, tk, x6, x7, x8, h, ht, hq, hk, htl => by
    rw [List.length_cons] at ht htl
    obtain ⟨y7, y8, S1, k1, e1, q1, o1, l1, a1, m1⟩ := ft_step h (by omega) hl hq hqn hk (by omega) x1 x3 x4 (some x) x7 x8
    obtain ⟨z6, z7, z8, S2, tk2, e2, q2, o2, n2, l2, a2, m2⟩ := ft_lp hl hqn x1 x3 x4 xs S1 (t + 3) (tk ++ [k1]) (some x) y7 y8 a1 (by omega) q1 o1 (by rw [List.length_append]; show tk.length + 1 + _ ≤ 10; omega)
    refine ⟨z6, z7, z8, S2, tk2, ls_cons rfl e1 e2, q2, o2, ?_, Nat.le_trans l1 l2, a2.mono (by rw [List.length_cons]; omega), fun m h1 h2 h3 => (m2 m h1 h2 (Nat.lt_of_lt_of_le h3 l1)).trans (m1 m h1 h2 h3)⟩
    rw [n2]
    simp only [List.length_append, List.length_cons, List.length_nil]
    omega
noncomputable def fcF : Sn := sFor (itA range1D (aCons (dFn 2 den_law_digit (aCons (dVar 0) (aCons (dC (.int 4)) aNil))) aNil)) (tName 6) fcT
def fcD : Sn := sDrop (dMt "list" appD (dVar 3) (aCons (dTup (aCons (dVar 4) (aCons (dCl tupleD (aCons (dVar 5) aNil)) (aCons (dFn 2 den_law_kind (aCons (dVar 0) (aCons (dVar 2) aNil))) aNil)))) aNil))
noncomputable def fcS : Sn := sSeq (sAsgB 5 (dLst aNil)) (sSeq fcF fcD)
theorem fd_one {n t p : Nat} {S : Sto} {hd : List Str} {ds : List Dd} {s : Str} (h : At n t S) (ht : t < 600000) (hl : hd.length ≤ 2) (hp : S[p]? = some (.lst (ds.map Dd.d))) (hpn : p ≠ n) (hs : okN s) (hdl : ds.length ≤ 100) (x1 x5 x6 x7 x8 : Option D) :
    ∃ x5' x6' x7' x8' S' x, fcS [some (.ref n), x1, some (.tup (hd.map .str)), some (.ref p), some (.str s), x5, x6, x7, x8, none] S = some (.nx [some (.ref n), x1, some (.tup (hd.map .str)), some (.ref p), some (.str s), x5', x6', x7', x8', none] S') ∧ S'[p]? = some (.lst ((ds ++ [x]).map Dd.d)) ∧ okD hd x ∧ x.nm = s ∧
      S.length ≤ S'.length ∧ At n (t + 12) S' ∧ ∀ m, m ≠ n → m ≠ p → m < S.length → S'[m]? = S[m]? := by
  have hlt := h.lt
  have hplt := (List.getElem?_eq_some_iff.mp hp).1
  obtain ⟨r, S1, e1, r1, r2, g1⟩ := g_dig (m := 4) (h.gr (Gr.push S [Ob.lst []])) (by omega) ⟨by decide, by decide⟩
  have g0 : Ev n t S (S ++ [Ob.lst []]) := h.ev (Gr.push _ _)
  have g := g0.trans g1
  have q1 := g1.at (m := S.length) (by omega) (push_at S (.lst []))
  have rg := rng (j := r) (by omega) (by omega)
  have rl := rng_len r.toNat
  obtain ⟨y6, y7, y8, S2, tk, e2, q2, o2, n2, l2, a2, m2⟩ := ft_lp (n := n) (q := S.length) hl (by omega) x1 (some (.ref p)) (some (.str s)) (rangeL 0 r.toNat) S1 (t + 1) [] x6 x7 x8 g1.2.1 (by omega) q1 ⟨fun _ z => absurd z (by simp), by simp⟩ (by rw [rl]; show 0 + _ ≤ _; omega)
  have htk : tk.length ≤ 3 := by
    rw [n2, rl]
    show 0 + _ ≤ 3
    omega
  obtain ⟨gv, S3, e3, k3, g3⟩ := e_lkind a2 (by omega) hl
  have hp1 := g.at hpn hp
  have hp2 : S2[p]? = some (.lst (ds.map Dd.d)) := by
    rw [m2 p hpn (by omega) (List.getElem?_eq_some_iff.mp hp1).1, hp1]
  have hp3 := g3.at hpn hp2
  have tb := tup_box q2
  have ap := app_box hp3 (Dd.d ⟨s, tk, gv⟩) (by rw [List.length_map]; omega)
  have em : ds.map Dd.d ++ [Dd.d ⟨s, tk, gv⟩] = (ds ++ [(⟨s, tk, gv⟩ : Dd)]).map Dd.d := by rw [List.map_append]; rfl
  rw [em] at ap
  have ty := ty_box hp2
  have ty3 := ty_box hp3
  have ed : D.tup [.str s, .tup (tk.map Kd.d), gv.d] = Dd.d ⟨s, tk, gv⟩ := rfl
  refine ⟨some (.ref S.length), y6, y7, y8, S3.set p (.lst ((ds ++ [(⟨s, tk, gv⟩ : Dd)]).map Dd.d)), ⟨s, tk, gv⟩, ?_, set_at hp3, ⟨hs, htk, o2.ok, o2.two, k3⟩, rfl, ?_, (g3.2.1.put hpn _).mono (by rw [rl]; omega), fun m h1 h2 h3 => ?_⟩
  · have s1 : sAsgB 5 (dLst aNil) [some (.ref n), x1, some (.tup (hd.map .str)), some (.ref p), some (.str s), x5, x6, x7, x8, none] S = some (.nx [some (.ref n), x1, some (.tup (hd.map .str)), some (.ref p), some (.str s), some (.ref S.length), x6, x7, x8, none] (S ++ [.lst []])) := by
      generalize hd.map D.str = hs at *
      simp only [x_bnd, x_bnS, x_c, x_var, x_varK, x_stl, x_stlV, x_stlL, x_stlE, x_stlD, x_bxd, x_bxV, x_bxK, x_okv, x_okm, x_d2, x_d2K, x_d2L, x_tst, x_tstK, x_ch, x_chK, x_chL, x_chMt, x_chMf, x_chN, x_and, x_andK, x_andT, x_andF, x_or, x_orK, x_orT, x_orF, x_not, x_notK, x_notL, x_tru, x_truK, x_truL, x_band, x_bandT, x_bandF, x_bor, x_borT, x_borF, x_bnot, x_bnotK, x_dif, x_difT, x_difF, x_anil, x_acons, x_aK, x_aL, x_tup, x_tupK, x_lst, x_lstK, x_cl, x_clK, x_fn, x_fnK, x_isi, x_isiK, x_isiL, x_neg, x_negK, x_revL, x_kget, x_kgetK, x_sl, x_slK, x_slL, x_pnone, x_psome, x_psK, x_mt, x_mtK, x_mtL, x_itA, x_itAK, x_itL, x_itSeq, x_seqK, x_itStr, x_istrK, x_comp, x_compK, x_compL, x_wipe1, x_wipe2, x_seq, x_sqN, x_sqR, x_sqB, x_sqC, x_next, x_ret, x_retK, x_retN, x_asg, x_asgB, x_asgK, x_drop, x_dropK, x_if, x_ifT, x_ifF, x_for, x_forK, x_tgt, x_tgtK, x_tgtL, x_tname, x_par, x_parK, x_dput, x_dputK, x_dputK1, x_dputK2, x_dputL, x_def, x_defR, x_defN, y_add, y_sub, y_mul, y_mulX, y_mod, y_fdiv, y_lt, y_le, y_gt, y_ge, y_eqI, y_eqS, y_neI, y_neS, y_eqYI, y_eqYS, y_neYI, y_neYS, y_ixT, y_ixL, y_trB, y_k0, y_k1, y_k2, y_k3, y_k4, y_k5, y_k6, y_lenT, y_lenL, y_lenS, startE, List.map_cons, List.map_nil, List.length_cons, List.length_nil, List.replicate, List.cons_append, List.nil_append, List.append_nil, Nat.sub_self, Nat.reduceSub, Nat.reduceAdd, Nat.reduceLeDiff, Nat.reduceEqDiff, Nat.zero_add, Nat.zero_le, Nat.sub_zero, List.set_cons_zero, List.set_cons_succ, List.getElem?_cons_zero, List.getElem?_cons_succ, Bool.not_true, Bool.not_false, decide_true, decide_false]
    have ar : aCons (dFn 2 den_law_digit (aCons (dVar 0) (aCons (dC (.int 4)) aNil))) aNil [some (.ref n), x1, some (.tup (hd.map .str)), some (.ref p), some (.str s), some (.ref S.length), x6, x7, x8, none] (S ++ [.lst []]) = some (.ok [.int r] S1) := by
      generalize hd.map D.str = hs at *
      simp only [x_bnd, x_bnS, x_c, x_var, x_varK, x_stl, x_stlV, x_stlL, x_stlE, x_stlD, x_bxd, x_bxV, x_bxK, x_okv, x_okm, x_d2, x_d2K, x_d2L, x_tst, x_tstK, x_ch, x_chK, x_chL, x_chMt, x_chMf, x_chN, x_and, x_andK, x_andT, x_andF, x_or, x_orK, x_orT, x_orF, x_not, x_notK, x_notL, x_tru, x_truK, x_truL, x_band, x_bandT, x_bandF, x_bor, x_borT, x_borF, x_bnot, x_bnotK, x_dif, x_difT, x_difF, x_anil, x_acons, x_aK, x_aL, x_tup, x_tupK, x_lst, x_lstK, x_cl, x_clK, x_fn, x_fnK, x_isi, x_isiK, x_isiL, x_neg, x_negK, x_revL, x_kget, x_kgetK, x_sl, x_slK, x_slL, x_pnone, x_psome, x_psK, x_mt, x_mtK, x_mtL, x_itA, x_itAK, x_itL, x_itSeq, x_seqK, x_itStr, x_istrK, x_comp, x_compK, x_compL, x_wipe1, x_wipe2, x_seq, x_sqN, x_sqR, x_sqB, x_sqC, x_next, x_ret, x_retK, x_retN, x_asg, x_asgB, x_asgK, x_drop, x_dropK, x_if, x_ifT, x_ifF, x_for, x_forK, x_tgt, x_tgtK, x_tgtL, x_tname, x_par, x_parK, x_dput, x_dputK, x_dputK1, x_dputK2, x_dputL, x_def, x_defR, x_defN, y_add, y_sub, y_mul, y_mulX, y_mod, y_fdiv, y_lt, y_le, y_gt, y_ge, y_eqI, y_eqS, y_neI, y_neS, y_eqYI, y_eqYS, y_neYI, y_neYS, y_ixT, y_ixL, y_trB, y_k0, y_k1, y_k2, y_k3, y_k4, y_k5, y_k6, y_lenT, y_lenL, y_lenS, startE, List.map_cons, List.map_nil, List.length_cons, List.length_nil, List.replicate, List.cons_append, List.nil_append, List.append_nil, Nat.sub_self, Nat.reduceSub, Nat.reduceAdd, Nat.reduceLeDiff, Nat.reduceEqDiff, Nat.zero_add, Nat.zero_le, Nat.sub_zero, List.set_cons_zero, List.set_cons_succ, List.getElem?_cons_zero, List.getElem?_cons_succ, Bool.not_true, Bool.not_false, decide_true, decide_false, e1]
    have s2 : fcF [some (.ref n), x1, some (.tup (hd.map .str)), some (.ref p), some (.str s), some (.ref S.length), x6, x7, x8, none] (S ++ [.lst []]) = some (.nx [some (.ref n), x1, some (.tup (hd.map .str)), some (.ref p), some (.str s), some (.ref S.length), y6, y7, y8, none] S2) := by
      unfold fcF
      rw [x_for, x_itA, ar, x_bnd, x_itAK, rg, x_itL, x_bnS, x_forK, e2]
    have s3 : fcD [some (.ref n), x1, some (.tup (hd.map .str)), some (.ref p), some (.str s), some (.ref S.length), y6, y7, y8, none] S2 = some (.nx [some (.ref n), x1, some (.tup (hd.map .str)), some (.ref p), some (.str s), some (.ref S.length), y6, y7, y8, none] (S3.set p (.lst ((ds ++ [(⟨s, tk, gv⟩ : Dd)]).map Dd.d)))) := by
      clear em e2
      generalize (ds ++ [(⟨s, tk, gv⟩ : Dd)]).map Dd.d = d2 at *
      generalize Dd.d ⟨s, tk, gv⟩ = xd at *
      generalize tk.map Kd.d = ts at *
      generalize gv.d = gd at *
      generalize hd.map D.str = hs at *
      generalize S.length = q at *
      simp only [fcD, x_bnd, x_bnS, x_c, x_var, x_varK, x_stl, x_stlV, x_stlL, x_stlE, x_stlD, x_bxd, x_bxV, x_bxK, x_okv, x_okm, x_d2, x_d2K, x_d2L, x_tst, x_tstK, x_ch, x_chK, x_chL, x_chMt, x_chMf, x_chN, x_and, x_andK, x_andT, x_andF, x_or, x_orK, x_orT, x_orF, x_not, x_notK, x_notL, x_tru, x_truK, x_truL, x_band, x_bandT, x_bandF, x_bor, x_borT, x_borF, x_bnot, x_bnotK, x_dif, x_difT, x_difF, x_anil, x_acons, x_aK, x_aL, x_tup, x_tupK, x_lst, x_lstK, x_cl, x_clK, x_fn, x_fnK, x_isi, x_isiK, x_isiL, x_neg, x_negK, x_revL, x_kget, x_kgetK, x_sl, x_slK, x_slL, x_pnone, x_psome, x_psK, x_mt, x_mtK, x_mtL, x_itA, x_itAK, x_itL, x_itSeq, x_seqK, x_itStr, x_istrK, x_comp, x_compK, x_compL, x_wipe1, x_wipe2, x_seq, x_sqN, x_sqR, x_sqB, x_sqC, x_next, x_ret, x_retK, x_retN, x_asg, x_asgB, x_asgK, x_drop, x_dropK, x_if, x_ifT, x_ifF, x_for, x_forK, x_tgt, x_tgtK, x_tgtL, x_tname, x_par, x_parK, x_dput, x_dputK, x_dputK1, x_dputK2, x_dputL, x_def, x_defR, x_defN, y_add, y_sub, y_mul, y_mulX, y_mod, y_fdiv, y_lt, y_le, y_gt, y_ge, y_eqI, y_eqS, y_neI, y_neS, y_eqYI, y_eqYS, y_neYI, y_neYS, y_ixT, y_ixL, y_trB, y_k0, y_k1, y_k2, y_k3, y_k4, y_k5, y_k6, y_lenT, y_lenL, y_lenS, startE, List.map_cons, List.map_nil, List.length_cons, List.length_nil, List.replicate, List.cons_append, List.nil_append, List.append_nil, Nat.sub_self, Nat.reduceSub, Nat.reduceAdd, Nat.reduceLeDiff, Nat.reduceEqDiff, Nat.zero_add, Nat.zero_le, Nat.sub_zero, List.set_cons_zero, List.set_cons_succ, List.getElem?_cons_zero, List.getElem?_cons_succ, Bool.not_true, Bool.not_false, decide_true, decide_false, tb, e3, ed, ty, ap]
    unfold fcS
    rw [x_seq, s1, x_sqN, x_seq, s2, x_sqN, s3]
  · rw [List.length_set]
    exact Nat.le_trans g.1 (Nat.le_trans l2 g3.1)
  · rw [List.getElem?_set_ne (Ne.symm h2)]
    have := (g3.2.2 m h1 (Nat.lt_of_lt_of_le h3 (Nat.le_trans g.1 l2))).trans (m2 m h1 (by omega) (Nat.lt_of_lt_of_le h3 g.1))
    rw [this]
    exact g.2.2 m h1 h3
theorem fd_loop {n p : Nat} {hd : List Str} (hl : hd.length ≤ 2) (hpn : p ≠ n) (x1 : Option D) : ∀ (ns : List Str) (S : Sto) (t : Nat) (ds : List Dd) (x4 x5 x6 x7 x8 : Option D), At n t S → t + 12 * ns.length < 600000 → S[p]? = some (.lst (ds.map Dd.d)) → ds.length + ns.length ≤ 100 → (∀ x ∈ ds, okD hd x) → (∀ s ∈ ns, okN s) →
    ∃ (x4' x5' x6' x7' x8' : Option D) (S' : Sto) (ds' : List Dd), loopS (tName 4) fcS (ns.map .str) [some (.ref n), x1, some (.tup (hd.map .str)), some (.ref p), x4, x5, x6, x7, x8, none] S = some (.nx [some (.ref n), x1, some (.tup (hd.map .str)), some (.ref p), x4', x5', x6', x7', x8', none] S') ∧ S'[p]? = some (.lst (ds'.map Dd.d)) ∧ (∀ x ∈ ds', okD hd x) ∧ ds'.map Dd.nm = ds.map Dd.nm ++ ns ∧
      S.length ≤ S'.length ∧ At n (t + 12 * ns.length) S' ∧ ∀ m, m ≠ n → m ≠ p → m < S.length → S'[m]? = S[m]?
  | [], S, t, ds, x4, x5, x6, x7, x8, h, _, hp, _, hd', _ => ⟨x4, x5, x6, x7, x8, S, ds, rfl, hp, hd', by rw [List.append_nil], Nat.le_refl _, h, fun _ _ _ _ => rfl⟩
  | s :: ns, S, t, ds, x4, x5, x6, x7, x8, h, ht, hp, hlen, hd', hn => by
    rw [List.length_cons] at ht hlen
    obtain ⟨y5, y6, y7, y8, S1, x, e1, p1, o1, nm1, l1, a1, m1⟩ := fd_one h (by omega) hl hp hpn (hn s List.mem_cons_self) (by omega) x1 x5 x6 x7 x8
    obtain ⟨z4, z5, z6, z7, z8, S2, ds2, e2, p2, o2, nm2, l2, a2, m2⟩ := fd_loop hl hpn x1 ns S1 (t + 12) (ds ++ [x]) (some (.str s)) y5 y6 y7 y8 a1 (by omega) p1 (by rw [List.length_append]; show ds.length + 1 + _ ≤ _; omega) (fun y hy => by
      rcases List.mem_append.mp hy with hy | hy
      · exact hd' y hy
      · rw [List.mem_singleton.mp hy]; exact o1) (fun y hy => hn y (List.mem_cons_of_mem _ hy))
    refine ⟨z4, z5, z6, z7, z8, S2, ds2, ls_cons rfl e1 e2, p2, o2, ?_, Nat.le_trans l1 l2, a2.mono (by rw [List.length_cons]; omega), fun m h1 h2 h3 => (m2 m h1 h2 (Nat.lt_of_lt_of_le h3 l1)).trans (m1 m h1 h2 h3)⟩
    rw [nm2, List.map_append, List.append_assoc]
    show ds.map Dd.nm ++ ([x.nm] ++ ns) = _
    rw [nm1]
    rfl
noncomputable def lfA : Sn := sAsg 2 (dCl tupleD (aCons (dFn 2 den_law_names (aCons (dVar 0) (aCons (d2 addD (dC (.int 1)) (dFn 2 den_law_digit (aCons (dVar 0) (aCons (dC (.int 2)) aNil)))) aNil))) aNil))
noncomputable def lfC : Sn := sFor (itSeq (dFn 2 den_law_names (aCons (dVar 0) (aCons (d2 addD (dC (.int 1)) (dFn 2 den_law_digit (aCons (dVar 0) (aCons (dVar 1) aNil)))) aNil)))) (tName 4) fcS
def lfR : Sn := sRet (dTup (aCons (dVar 2) (aCons (dCl tupleD (aCons (dVar 3) aNil)) aNil)))
theorem den_lf : den_law_face = defD 10 (sSeq lfA (sSeq (sAsgB 3 (dLst aNil)) (sSeq lfC lfR))) := rfl
theorem y_tupL2 (S : Sto) (ds : List D) : tupleD S [.lst ds] = some (.val (.tup ds)) := rfl
theorem e_lface {n t : Nat} {S : Sto} {most : Int} (h : At n t S) (ht : t < 400000) (hm : 1 ≤ most ∧ most ≤ 8) :
    ∃ f S', den_law_face [.ref n, .int most] S = some (.ok (.val (Fc.d f)) S') ∧ okF f ∧ Ev n (t + 1000) S S' := by
  obtain ⟨r, S1, e1, r1, r2, g1⟩ := g_dig (m := 2) h (by omega) ⟨by decide, by decide⟩
  obtain ⟨hd, S2, e2, k2, g2⟩ := e_names (m := 1 + r) g1.2.1 (by omega) (by omega)
  have ga := g1.trans g2
  have g3 : Ev n (t + 1 + 160) S2 (S2 ++ [Ob.lst []]) := g2.2.1.ev (Gr.push _ _)
  obtain ⟨r', S4, e4, r3, r4, g4⟩ := g_dig (m := most) g3.2.1 (by omega) ⟨hm.1, by omega⟩
  obtain ⟨ns, S5, e5, k5, g5⟩ := e_names (m := 1 + r') g4.2.1 (by omega) (by omega)
  have hlt := g2.2.1.lt
  have gb := g4.trans g5
  have p5 := gb.at (m := S2.length) (by omega) (push_at S2 (.lst []))
  have hhl : hd.length ≤ 2 := by have := k2.len; omega
  have hnl : ns.length ≤ 8 := by have := k5.len; omega
  obtain ⟨y4, y5, y6, y7, y8, S6, ds, e6, p6, o6, nm6, l6, a6, m6⟩ := fd_loop (n := n) (p := S2.length) hhl (by omega) (some (.int most)) ns S5 _ [] none none none none none g5.2.1 (by omega) p5 (by show 0 + _ ≤ _; omega) (fun _ z => absurd z (by simp)) k5.nm
  have hlen : ds.length = ns.length := by
    have := congrArg List.length nm6
    rw [List.length_append, List.length_map] at this
    simpa using this
  have nm6 : ds.map Dd.nm = ns := nm6
  have tb := tup_box p6
  refine ⟨⟨hd, ds⟩, S6, ?_, ⟨k2.pos, hhl, k2.nm, k2.rise, by show 1 ≤ ds.length; rw [hlen]; exact k5.pos, by show ds.length ≤ 8; omega, o6, by show Rise "" (ds.map Dd.nm); rw [nm6]; exact k5.rise⟩, ?_, a6.mono (by omega), fun m h1 h2 => ?_⟩
  · have s1 : lfA [some (.ref n), some (.int most), none, none, none, none, none, none, none, none] S = some (.nx [some (.ref n), some (.int most), some (.tup (hd.map .str)), none, none, none, none, none, none, none] S2) := by
      generalize hd.map D.str = hs at *
      simp only [lfA, x_bnd, x_bnS, x_c, x_var, x_varK, x_stl, x_stlV, x_stlL, x_stlE, x_stlD, x_bxd, x_bxV, x_bxK, x_okv, x_okm, x_d2, x_d2K, x_d2L, x_tst, x_tstK, x_ch, x_chK, x_chL, x_chMt, x_chMf, x_chN, x_and, x_andK, x_andT, x_andF, x_or, x_orK, x_orT, x_orF, x_not, x_notK, x_notL, x_tru, x_truK, x_truL, x_band, x_bandT, x_bandF, x_bor, x_borT, x_borF, x_bnot, x_bnotK, x_dif, x_difT, x_difF, x_anil, x_acons, x_aK, x_aL, x_tup, x_tupK, x_lst, x_lstK, x_cl, x_clK, x_fn, x_fnK, x_isi, x_isiK, x_isiL, x_neg, x_negK, x_revL, x_kget, x_kgetK, x_sl, x_slK, x_slL, x_pnone, x_psome, x_psK, x_mt, x_mtK, x_mtL, x_itA, x_itAK, x_itL, x_itSeq, x_seqK, x_itStr, x_istrK, x_comp, x_compK, x_compL, x_wipe1, x_wipe2, x_seq, x_sqN, x_sqR, x_sqB, x_sqC, x_next, x_ret, x_retK, x_retN, x_asg, x_asgB, x_asgK, x_drop, x_dropK, x_if, x_ifT, x_ifF, x_for, x_forK, x_tgt, x_tgtK, x_tgtL, x_tname, x_par, x_parK, x_dput, x_dputK, x_dputK1, x_dputK2, x_dputL, x_def, x_defR, x_defN, y_add, y_sub, y_mul, y_mulX, y_mod, y_fdiv, y_lt, y_le, y_gt, y_ge, y_eqI, y_eqS, y_neI, y_neS, y_eqYI, y_eqYS, y_neYI, y_neYS, y_ixT, y_ixL, y_trB, y_k0, y_k1, y_k2, y_k3, y_k4, y_k5, y_k6, y_lenT, y_lenL, y_lenS, startE, List.map_cons, List.map_nil, List.length_cons, List.length_nil, List.replicate, List.cons_append, List.nil_append, List.append_nil, Nat.sub_self, Nat.reduceSub, Nat.reduceAdd, Nat.reduceLeDiff, Nat.reduceEqDiff, Nat.zero_add, Nat.zero_le, Nat.sub_zero, List.set_cons_zero, List.set_cons_succ, List.getElem?_cons_zero, List.getElem?_cons_succ, Bool.not_true, Bool.not_false, decide_true, decide_false, e1, e2, y_tupL2]
    have s2 : sAsgB 3 (dLst aNil) [some (.ref n), some (.int most), some (.tup (hd.map .str)), none, none, none, none, none, none, none] S2 = some (.nx [some (.ref n), some (.int most), some (.tup (hd.map .str)), some (.ref S2.length), none, none, none, none, none, none] (S2 ++ [.lst []])) := by
      generalize hd.map D.str = hs at *
      simp only [x_bnd, x_bnS, x_c, x_var, x_varK, x_stl, x_stlV, x_stlL, x_stlE, x_stlD, x_bxd, x_bxV, x_bxK, x_okv, x_okm, x_d2, x_d2K, x_d2L, x_tst, x_tstK, x_ch, x_chK, x_chL, x_chMt, x_chMf, x_chN, x_and, x_andK, x_andT, x_andF, x_or, x_orK, x_orT, x_orF, x_not, x_notK, x_notL, x_tru, x_truK, x_truL, x_band, x_bandT, x_bandF, x_bor, x_borT, x_borF, x_bnot, x_bnotK, x_dif, x_difT, x_difF, x_anil, x_acons, x_aK, x_aL, x_tup, x_tupK, x_lst, x_lstK, x_cl, x_clK, x_fn, x_fnK, x_isi, x_isiK, x_isiL, x_neg, x_negK, x_revL, x_kget, x_kgetK, x_sl, x_slK, x_slL, x_pnone, x_psome, x_psK, x_mt, x_mtK, x_mtL, x_itA, x_itAK, x_itL, x_itSeq, x_seqK, x_itStr, x_istrK, x_comp, x_compK, x_compL, x_wipe1, x_wipe2, x_seq, x_sqN, x_sqR, x_sqB, x_sqC, x_next, x_ret, x_retK, x_retN, x_asg, x_asgB, x_asgK, x_drop, x_dropK, x_if, x_ifT, x_ifF, x_for, x_forK, x_tgt, x_tgtK, x_tgtL, x_tname, x_par, x_parK, x_dput, x_dputK, x_dputK1, x_dputK2, x_dputL, x_def, x_defR, x_defN, y_add, y_sub, y_mul, y_mulX, y_mod, y_fdiv, y_lt, y_le, y_gt, y_ge, y_eqI, y_eqS, y_neI, y_neS, y_eqYI, y_eqYS, y_neYI, y_neYS, y_ixT, y_ixL, y_trB, y_k0, y_k1, y_k2, y_k3, y_k4, y_k5, y_k6, y_lenT, y_lenL, y_lenS, startE, List.map_cons, List.map_nil, List.length_cons, List.length_nil, List.replicate, List.cons_append, List.nil_append, List.append_nil, Nat.sub_self, Nat.reduceSub, Nat.reduceAdd, Nat.reduceLeDiff, Nat.reduceEqDiff, Nat.zero_add, Nat.zero_le, Nat.sub_zero, List.set_cons_zero, List.set_cons_succ, List.getElem?_cons_zero, List.getElem?_cons_succ, Bool.not_true, Bool.not_false, decide_true, decide_false]
    have it : itSeq (dFn 2 den_law_names (aCons (dVar 0) (aCons (d2 addD (dC (.int 1)) (dFn 2 den_law_digit (aCons (dVar 0) (aCons (dVar 1) aNil)))) aNil))) [some (.ref n), some (.int most), some (.tup (hd.map .str)), some (.ref S2.length), none, none, none, none, none, none] (S2 ++ [.lst []]) = some (.ok (ns.map .str) S5) := by
      clear nm6 e6
      generalize hd.map D.str = hs at *
      generalize ns.map D.str = nn at *
      simp only [x_bnd, x_bnS, x_c, x_var, x_varK, x_stl, x_stlV, x_stlL, x_stlE, x_stlD, x_bxd, x_bxV, x_bxK, x_okv, x_okm, x_d2, x_d2K, x_d2L, x_tst, x_tstK, x_ch, x_chK, x_chL, x_chMt, x_chMf, x_chN, x_and, x_andK, x_andT, x_andF, x_or, x_orK, x_orT, x_orF, x_not, x_notK, x_notL, x_tru, x_truK, x_truL, x_band, x_bandT, x_bandF, x_bor, x_borT, x_borF, x_bnot, x_bnotK, x_dif, x_difT, x_difF, x_anil, x_acons, x_aK, x_aL, x_tup, x_tupK, x_lst, x_lstK, x_cl, x_clK, x_fn, x_fnK, x_isi, x_isiK, x_isiL, x_neg, x_negK, x_revL, x_kget, x_kgetK, x_sl, x_slK, x_slL, x_pnone, x_psome, x_psK, x_mt, x_mtK, x_mtL, x_itA, x_itAK, x_itL, x_itSeq, x_seqK, x_itStr, x_istrK, x_comp, x_compK, x_compL, x_wipe1, x_wipe2, x_seq, x_sqN, x_sqR, x_sqB, x_sqC, x_next, x_ret, x_retK, x_retN, x_asg, x_asgB, x_asgK, x_drop, x_dropK, x_if, x_ifT, x_ifF, x_for, x_forK, x_tgt, x_tgtK, x_tgtL, x_tname, x_par, x_parK, x_dput, x_dputK, x_dputK1, x_dputK2, x_dputL, x_def, x_defR, x_defN, y_add, y_sub, y_mul, y_mulX, y_mod, y_fdiv, y_lt, y_le, y_gt, y_ge, y_eqI, y_eqS, y_neI, y_neS, y_eqYI, y_eqYS, y_neYI, y_neYS, y_ixT, y_ixL, y_trB, y_k0, y_k1, y_k2, y_k3, y_k4, y_k5, y_k6, y_lenT, y_lenL, y_lenS, startE, List.map_cons, List.map_nil, List.length_cons, List.length_nil, List.replicate, List.cons_append, List.nil_append, List.append_nil, Nat.sub_self, Nat.reduceSub, Nat.reduceAdd, Nat.reduceLeDiff, Nat.reduceEqDiff, Nat.zero_add, Nat.zero_le, Nat.sub_zero, List.set_cons_zero, List.set_cons_succ, List.getElem?_cons_zero, List.getElem?_cons_succ, Bool.not_true, Bool.not_false, decide_true, decide_false, e4, e5, fix_L]
    have s3 : lfC [some (.ref n), some (.int most), some (.tup (hd.map .str)), some (.ref S2.length), none, none, none, none, none, none] (S2 ++ [.lst []]) = some (.nx [some (.ref n), some (.int most), some (.tup (hd.map .str)), some (.ref S2.length), y4, y5, y6, y7, y8, none] S6) := by
      unfold lfC
      rw [x_for, it, x_bnS, x_forK, e6]
    have s4 : lfR [some (.ref n), some (.int most), some (.tup (hd.map .str)), some (.ref S2.length), y4, y5, y6, y7, y8, none] S6 = some (.rt (.val (Fc.d ⟨hd, ds⟩)) S6) := by
      have ed : Fc.d ⟨hd, ds⟩ = .tup [.tup (hd.map .str), .tup (ds.map Dd.d)] := rfl
      rw [ed]
      clear e6
      generalize ds.map Dd.d = dd at *
      generalize hd.map D.str = hs at *
      generalize S2.length = p at *
      simp only [lfR, x_bnd, x_bnS, x_c, x_var, x_varK, x_stl, x_stlV, x_stlL, x_stlE, x_stlD, x_bxd, x_bxV, x_bxK, x_okv, x_okm, x_d2, x_d2K, x_d2L, x_tst, x_tstK, x_ch, x_chK, x_chL, x_chMt, x_chMf, x_chN, x_and, x_andK, x_andT, x_andF, x_or, x_orK, x_orT, x_orF, x_not, x_notK, x_notL, x_tru, x_truK, x_truL, x_band, x_bandT, x_bandF, x_bor, x_borT, x_borF, x_bnot, x_bnotK, x_dif, x_difT, x_difF, x_anil, x_acons, x_aK, x_aL, x_tup, x_tupK, x_lst, x_lstK, x_cl, x_clK, x_fn, x_fnK, x_isi, x_isiK, x_isiL, x_neg, x_negK, x_revL, x_kget, x_kgetK, x_sl, x_slK, x_slL, x_pnone, x_psome, x_psK, x_mt, x_mtK, x_mtL, x_itA, x_itAK, x_itL, x_itSeq, x_seqK, x_itStr, x_istrK, x_comp, x_compK, x_compL, x_wipe1, x_wipe2, x_seq, x_sqN, x_sqR, x_sqB, x_sqC, x_next, x_ret, x_retK, x_retN, x_asg, x_asgB, x_asgK, x_drop, x_dropK, x_if, x_ifT, x_ifF, x_for, x_forK, x_tgt, x_tgtK, x_tgtL, x_tname, x_par, x_parK, x_dput, x_dputK, x_dputK1, x_dputK2, x_dputL, x_def, x_defR, x_defN, y_add, y_sub, y_mul, y_mulX, y_mod, y_fdiv, y_lt, y_le, y_gt, y_ge, y_eqI, y_eqS, y_neI, y_neS, y_eqYI, y_eqYS, y_neYI, y_neYS, y_ixT, y_ixL, y_trB, y_k0, y_k1, y_k2, y_k3, y_k4, y_k5, y_k6, y_lenT, y_lenL, y_lenS, startE, List.map_cons, List.map_nil, List.length_cons, List.length_nil, List.replicate, List.cons_append, List.nil_append, List.append_nil, Nat.sub_self, Nat.reduceSub, Nat.reduceAdd, Nat.reduceLeDiff, Nat.reduceEqDiff, Nat.zero_add, Nat.zero_le, Nat.sub_zero, List.set_cons_zero, List.set_cons_succ, List.getElem?_cons_zero, List.getElem?_cons_succ, Bool.not_true, Bool.not_false, decide_true, decide_false, tb]
    rw [den_lf, x_def]
    show defK (sSeq _ _ [some (.ref n), some (.int most), none, none, none, none, none, none, none, none] S) = _
    rw [x_seq, s1, x_sqN, x_seq, s2, x_sqN, x_seq, s3, x_sqN, s4, x_defR]
  · have := ga.1
    have := g3.1
    have := gb.1
    omega
  · have h3 : m < S2.length := Nat.lt_of_lt_of_le h2 ga.1
    rw [m6 m h1 (by omega) (Nat.lt_of_lt_of_le h3 (Nat.le_trans g3.1 gb.1)), gb.2.2 m h1 (Nat.lt_of_lt_of_le h3 g3.1), g3.2.2 m h1 h3]
    exact ga.2.2 m h1 h2
end W03
namespace W03
open Sf L2 PySem PySem.Spec PyProof.Rows
/-! sizes -/
theorem pl_fits : (List.range 8).all (fun j => fitB (.int ((j : Int) + 2)) && (decide (wt (.int ((j : Int) + 2)) ≤ 6) && decide (dp (.int ((j : Int) + 2)) ≤ 0))) = true := by decide +kernel
theorem pl_fit {i : Int} (h : 2 ≤ i ∧ i ≤ 9) : Fit 6 0 (.int i) := by
  have q := List.all_eq_true.mp pl_fits (i - 2).toNat (List.mem_range.mpr (by omega))
  have e : (((i - 2).toNat : Nat) : Int) + 2 = i := by omega
  rw [e] at q
  simp only [Bool.and_eq_true] at q
  exact ⟨q.1, of_decide_eq_true q.2.1, of_decide_eq_true q.2.2⟩
theorem fitL_map {α : Type} {g : α → D} {w p : Nat} : ∀ (l : List α), (∀ x ∈ l, Fit w p (g x)) → FitL (l.length * (w + 1)) p (l.map g)
  | [], _ => FitL.nil
  | x :: l, h => by
    have := FitL.cons (h x List.mem_cons_self) (fitL_map l fun y hy => h y (List.mem_cons_of_mem _ hy))
    refine this.mono ?_ (Nat.le_refl _)
    rw [List.length_cons, Nat.succ_mul]
    omega
theorem kd_fit {hd : List Str} (hn : ∀ s ∈ hd, okN s) {k : Kd} (h : okK hd k) : Fit 8 0 k.d := by
  cases k with
  | pl i => exact (pl_fit h).mono (by decide) (by decide)
  | ow s => exact n_fit (hn s h)
theorem tk_fit {hd : List Str} (hn : ∀ s ∈ hd, okN s) {x : Dd} (h : okD hd x) : Fit 27 1 (.tup (x.tk.map Kd.d)) := by
  have f := fitL_map (g := Kd.d) (w := 8) (p := 0) x.tk fun k hk => kd_fit hn (h.tk k hk)
  have hl : x.tk.length * (8 + 1) ≤ 3 * 9 := Nat.mul_le_mul h.len (by decide)
  exact (f.mono hl (Nat.le_refl _)).tup
theorem dd_fit {hd : List Str} (hn : ∀ s ∈ hd, okN s) {x : Dd} (h : okD hd x) : Fit 46 2 x.d :=
  (FitL.cons ((n_fit h.nm).mono (Nat.le_refl _) (Nat.zero_le 1)) (FitL.cons (tk_fit hn h) (FitL.cons ((kd_fit hn h.gv).mono (Nat.le_refl _) (Nat.zero_le 1)) (FitL.nil (w := 0))))).tup.mono (by decide) (by decide)
/-! the face told -/
theorem is_nb (S : Sto) : isD S .non .non = some (.val (.bl true)) := rfl
theorem e_isf (S : Sto) {f : Fc} (h : okF f) : den_is_face [f.d] S = some (.ok (.val (.bl true)) S) := by
  have p1 := e_part S (f.hd.map .str) 2 (by rw [List.length_map]; exact h.h1) (by rw [List.length_map]; have := h.h2; omega)
  have p2 := e_part S (f.dd.map Dd.d) 8 (by rw [List.length_map]; exact h.d1) (by rw [List.length_map]; have := h.d2; omega)
  have b1 := e_badh S h.hn h.hr
  have b2 := e_badd S h.dn h.dr
  have g : (!decide ((((0 + 1 + 1 : Nat)) : Int) = 2)) = false := by decide
  unfold Fc.d
  generalize f.hd.map D.str = hs at *
  generalize f.dd.map Dd.d = ds at *
  have a0 : atI [D.tup hs, .tup ds] 0 = some (.tup hs) := rfl
  have a1 : atI [D.tup hs, .tup ds] 1 = some (.tup ds) := rfl
  simp only [den_is_face, x_bnd, x_bnS, x_c, x_var, x_varK, x_stl, x_stlV, x_stlL, x_stlE, x_stlD, x_bxd, x_bxV, x_bxK, x_okv, x_okm, x_d2, x_d2K, x_d2L, x_tst, x_tstK, x_ch, x_chK, x_chL, x_chMt, x_chMf, x_chN, x_and, x_andK, x_andT, x_andF, x_or, x_orK, x_orT, x_orF, x_not, x_notK, x_notL, x_tru, x_truK, x_truL, x_band, x_bandT, x_bandF, x_bor, x_borT, x_borF, x_bnot, x_bnotK, x_dif, x_difT, x_difF, x_anil, x_acons, x_aK, x_aL, x_tup, x_tupK, x_lst, x_lstK, x_cl, x_clK, x_fn, x_fnK, x_isi, x_isiK, x_isiL, x_neg, x_negK, x_revL, x_kget, x_kgetK, x_sl, x_slK, x_slL, x_pnone, x_psome, x_psK, x_mt, x_mtK, x_mtL, x_itA, x_itAK, x_itL, x_itSeq, x_seqK, x_itStr, x_istrK, x_comp, x_compK, x_compL, x_wipe1, x_wipe2, x_seq, x_sqN, x_sqR, x_sqB, x_sqC, x_next, x_ret, x_retK, x_retN, x_asg, x_asgB, x_asgK, x_drop, x_dropK, x_if, x_ifT, x_ifF, x_for, x_forK, x_tgt, x_tgtK, x_tgtL, x_tname, x_par, x_parK, x_dput, x_dputK, x_dputK1, x_dputK2, x_dputL, x_def, x_defR, x_defN, y_add, y_sub, y_mul, y_mulX, y_mod, y_fdiv, y_lt, y_le, y_gt, y_ge, y_eqI, y_eqS, y_neI, y_neS, y_eqYI, y_eqYS, y_neYI, y_neYS, y_ixT, y_ixL, y_trB, y_k0, y_k1, y_k2, y_k3, y_k4, y_k5, y_k6, y_lenT, y_lenL, y_lenS, startE, List.map_cons, List.map_nil, List.length_cons, List.length_nil, List.replicate, List.cons_append, List.nil_append, List.append_nil, Nat.sub_self, Nat.reduceSub, Nat.reduceAdd, Nat.reduceLeDiff, Nat.reduceEqDiff, Nat.zero_add, Nat.zero_le, Nat.sub_zero, List.set_cons_zero, List.set_cons_succ, List.getElem?_cons_zero, List.getElem?_cons_succ, Bool.not_true, Bool.not_false, decide_true, decide_false, z_int0, z_int1, z_int2, z_int3, z_int4, z_int5, z_int6, z_bool0, z_bool1, z_bool2, z_bool3, z_bool4, z_bool5, z_bool6, z_str0, z_str1, z_str2, z_str3, z_str4, z_str5, z_str6, z_tuple0, z_tuple1, z_tuple2, z_tuple3, z_tuple4, z_tuple5, z_tuple6, z_list0, z_list1, z_list2, z_list3, z_list4, z_list5, z_list6, z_dict0, z_dict1, z_dict2, z_dict3, z_dict4, z_dict5, z_dict6, g, a0, a1, Option.map_some, p1, p2, b1, b2, is_nb]
/-- a comprehension over tuples -/
theorem loop_tup {α : Type} (ρ : En) (t : Tn) (h g : α → D) (f : Dn Out) : ∀ (l : List α) (k : Nat) (S : Sto), k + l.length ≤ sizeLine → (∀ x ∈ l, ∃ ρ1, t ρ (h x) = some ρ1 ∧ f ρ1 S = some (.ok (.val (g x)) S)) →
    loopC t bYes f ρ (l.map h) k S = some (l.map g, S)
  | [], k, S, _, _ => rfl
  | x :: l, k, S, hk, q => by
    obtain ⟨ρ1, h0, h1⟩ := q x List.mem_cons_self
    have hl : (x :: l).length = l.length + 1 := rfl
    have ih := loop_tup ρ t h g f l (k + 1) S (by omega) fun y hy => q y (List.mem_cons_of_mem _ hy)
    have hz : k < sizeLine := by omega
    simp only [List.map, loopC, h0, bYes, x_stl, x_bnd, h1, x_stlV, if_pos hz, ih, Option.map]
def Dd.pr (x : Dd) : D := .tup [.tup (x.tk.map Kd.d), x.gv.d]
def Dd.kv (x : Dd) : Key × D := (.inr x.nm, x.pr)
theorem pairs_dd : ∀ l : List Dd, pairsD (l.map fun x => .tup [.str x.nm, x.pr]) = some (l.map Dd.kv)
  | [] => rfl
  | x :: l => by
    show ((pairD (.tup [.str x.nm, x.pr])).bind fun p => (pairsD (l.map fun x => .tup [.str x.nm, x.pr])).map fun r => p :: r) = _
    rw [pairs_dd l]
    rfl
theorem put_new {kvs : List (Key × D)} {k : Key} (h : ∀ q ∈ kvs, q.1 ≠ k) (d : D) : putD kvs k d = kvs ++ [(k, d)] := by
  unfold putD
  rw [if_neg]
  intro z
  obtain ⟨q, hq, e⟩ := List.any_eq_true.mp z
  exact h q hq (of_decide_eq_true e)
theorem merge_nd : ∀ (l : List Dd) (kvs : List (Key × D)), (∀ x ∈ l, ∀ q ∈ kvs, q.1 ≠ .inr x.nm) → (l.map Dd.nm).Nodup → mergeP kvs (l.map Dd.kv) = kvs ++ l.map Dd.kv
  | [], kvs, _, _ => (List.append_nil _).symm
  | x :: l, kvs, h, hn => by
    obtain ⟨n1, n2⟩ := List.nodup_cons.mp hn
    show mergeP (putD kvs (.inr x.nm) x.pr) (l.map Dd.kv) = _
    rw [put_new (h x List.mem_cons_self), merge_nd l _ (fun y hy q hq => ?_) n2, List.append_assoc]
    · rfl
    · rcases List.mem_append.mp hq with hq | hq
      · exact h y (List.mem_cons_of_mem _ hy) q hq
      · rw [List.mem_singleton.mp hq]
        intro z
        have z : x.nm = y.nm := Sum.inr.inj z
        exact n1 (z ▸ List.mem_map.mpr ⟨y, hy, rfl⟩)
theorem rise_lt : ∀ (l : List Str) (a : Str), Rise a l → ∀ x ∈ l, strLt a x = true
  | [], _, _, _, h => absurd h (by simp)
  | y :: l, a, h, x, hx => by
    rcases List.mem_cons.mp hx with rfl | hx
    · exact h.1
    · have h1 := of_decide_eq_true h.1
      have h2 := of_decide_eq_true (rise_lt l y h.2 x hx)
      exact decide_eq_true (List.lt_trans h1 h2)
theorem rise_nd : ∀ (l : List Str) (a : Str), Rise a l → l.Nodup
  | [], _, _ => .nil
  | y :: l, a, h => List.nodup_cons.mpr ⟨fun z => by
      have q := of_decide_eq_true (rise_lt l y h.2 y z)
      exact List.lt_irrefl _ q, rise_nd l y h.2⟩
def Fc.kvs (f : Fc) : List (Key × D) := f.dd.map Dd.kv
theorem merge_f {f : Fc} (h : okF f) : mergeP [] (f.dd.map Dd.kv) = f.kvs := merge_nd f.dd [] (fun _ _ _ q => absurd q (by simp)) (rise_nd _ _ h.dr)
theorem e_dbn (S : Sto) {f : Fc} (h : okF f) : den_deeds_by_name [f.d] S = some (.ok (.own (.dct f.kvs)) S) := by
  have i1 := fc_ix1 S f
  have lp := loop_tup [some f.d, none, none, none] (tTup (tsCons (tName 1) (tsCons (tName 2) (tsCons (tName 3) tsNil)))) Dd.d (fun x => .tup [.str x.nm, x.pr]) (dTup (aCons (dVar 1) (aCons (dTup (aCons (dVar 2) (aCons (dVar 3) aNil))) aNil))) f.dd 0 S
    (by have := h.d2; show 0 + f.dd.length ≤ 2 ^ 24; omega) (fun x _ => ⟨_, rfl, by
      unfold Dd.pr
      generalize x.tk.map Kd.d = ts
      generalize x.gv.d = gd
      simp only [x_bnd, x_bnS, x_c, x_var, x_varK, x_stl, x_stlV, x_stlL, x_stlE, x_stlD, x_bxd, x_bxV, x_bxK, x_okv, x_okm, x_d2, x_d2K, x_d2L, x_tst, x_tstK, x_ch, x_chK, x_chL, x_chMt, x_chMf, x_chN, x_and, x_andK, x_andT, x_andF, x_or, x_orK, x_orT, x_orF, x_not, x_notK, x_notL, x_tru, x_truK, x_truL, x_band, x_bandT, x_bandF, x_bor, x_borT, x_borF, x_bnot, x_bnotK, x_dif, x_difT, x_difF, x_anil, x_acons, x_aK, x_aL, x_tup, x_tupK, x_lst, x_lstK, x_cl, x_clK, x_fn, x_fnK, x_isi, x_isiK, x_isiL, x_neg, x_negK, x_revL, x_kget, x_kgetK, x_sl, x_slK, x_slL, x_pnone, x_psome, x_psK, x_mt, x_mtK, x_mtL, x_itA, x_itAK, x_itL, x_itSeq, x_seqK, x_itStr, x_istrK, x_comp, x_compK, x_compL, x_wipe1, x_wipe2, x_seq, x_sqN, x_sqR, x_sqB, x_sqC, x_next, x_ret, x_retK, x_retN, x_asg, x_asgB, x_asgK, x_drop, x_dropK, x_if, x_ifT, x_ifF, x_for, x_forK, x_tgt, x_tgtK, x_tgtL, x_tname, x_par, x_parK, x_dput, x_dputK, x_dputK1, x_dputK2, x_dputL, x_def, x_defR, x_defN, y_add, y_sub, y_mul, y_mulX, y_mod, y_fdiv, y_lt, y_le, y_gt, y_ge, y_eqI, y_eqS, y_neI, y_neS, y_eqYI, y_eqYS, y_neYI, y_neYS, y_ixT, y_ixL, y_trB, y_k0, y_k1, y_k2, y_k3, y_k4, y_k5, y_k6, y_lenT, y_lenL, y_lenS, startE, List.map_cons, List.map_nil, List.length_cons, List.length_nil, List.replicate, List.cons_append, List.nil_append, List.append_nil, Nat.sub_self, Nat.reduceSub, Nat.reduceAdd, Nat.reduceLeDiff, Nat.reduceEqDiff, Nat.zero_add, Nat.zero_le, Nat.sub_zero, List.set_cons_zero, List.set_cons_succ, List.getElem?_cons_zero, List.getElem?_cons_succ, Bool.not_true, Bool.not_false, decide_true, decide_false]⟩)
  have w : wipeE [some f.d, none, none, none] [1, 2, 3] = [some f.d, none, none, none] := rfl
  have dp : dictP S [.lst (f.dd.map fun x => .tup [.str x.nm, x.pr])] = some (.own (.dct f.kvs)) := by
    have e : (view S (.lst (f.dd.map fun x => .tup [.str x.nm, x.pr]))).bind pairsD = some (f.dd.map Dd.kv) := by
      show (some _).bind pairsD = _
      rw [Option.bind_some, pairs_dd]
    unfold dictP
    dsimp only
    rw [e]
    dsimp only
    rw [merge_f h]
  generalize f.kvs = kk at *
  generalize (f.dd.map fun x => D.tup [.str x.nm, x.pr]) = pp at *
  generalize f.d = fd at *
  generalize f.dd.map Dd.d = ds at *
  simp only [den_deeds_by_name, x_bnd, x_bnS, x_c, x_var, x_varK, x_stl, x_stlV, x_stlL, x_stlE, x_stlD, x_bxd, x_bxV, x_bxK, x_okv, x_okm, x_d2, x_d2K, x_d2L, x_tst, x_tstK, x_ch, x_chK, x_chL, x_chMt, x_chMf, x_chN, x_and, x_andK, x_andT, x_andF, x_or, x_orK, x_orT, x_orF, x_not, x_notK, x_notL, x_tru, x_truK, x_truL, x_band, x_bandT, x_bandF, x_bor, x_borT, x_borF, x_bnot, x_bnotK, x_dif, x_difT, x_difF, x_anil, x_acons, x_aK, x_aL, x_tup, x_tupK, x_lst, x_lstK, x_cl, x_clK, x_fn, x_fnK, x_isi, x_isiK, x_isiL, x_neg, x_negK, x_revL, x_kget, x_kgetK, x_sl, x_slK, x_slL, x_pnone, x_psome, x_psK, x_mt, x_mtK, x_mtL, x_itA, x_itAK, x_itL, x_itSeq, x_seqK, x_itStr, x_istrK, x_comp, x_compK, x_compL, x_wipe1, x_wipe2, x_seq, x_sqN, x_sqR, x_sqB, x_sqC, x_next, x_ret, x_retK, x_retN, x_asg, x_asgB, x_asgK, x_drop, x_dropK, x_if, x_ifT, x_ifF, x_for, x_forK, x_tgt, x_tgtK, x_tgtL, x_tname, x_par, x_parK, x_dput, x_dputK, x_dputK1, x_dputK2, x_dputL, x_def, x_defR, x_defN, y_add, y_sub, y_mul, y_mulX, y_mod, y_fdiv, y_lt, y_le, y_gt, y_ge, y_eqI, y_eqS, y_neI, y_neS, y_eqYI, y_eqYS, y_neYI, y_neYS, y_ixT, y_ixL, y_trB, y_k0, y_k1, y_k2, y_k3, y_k4, y_k5, y_k6, y_lenT, y_lenL, y_lenS, startE, List.map_cons, List.map_nil, List.length_cons, List.length_nil, List.replicate, List.cons_append, List.nil_append, List.append_nil, Nat.sub_self, Nat.reduceSub, Nat.reduceAdd, Nat.reduceLeDiff, Nat.reduceEqDiff, Nat.zero_add, Nat.zero_le, Nat.sub_zero, List.set_cons_zero, List.set_cons_succ, List.getElem?_cons_zero, List.getElem?_cons_succ, Bool.not_true, Bool.not_false, decide_true, decide_false, i1, fix_T, w, lp, dp]
end W03
namespace W03
open Sf L2 PySem PySem.Spec PyProof.Rows
theorem stl_dct {kvs : List (Key × D)} (h : kvs ≠ []) (S : Sto) : stlK (.own (.dct kvs)) S = some (.ok (.ref S.length) (S ++ [.dct kvs])) := by
  cases kvs with
  | nil => exact absurd rfl h
  | cons a l => rfl
theorem kvs_ne {f : Fc} (h : okF f) : f.kvs ≠ [] := by
  have := h.d1
  intro z
  have z : f.dd.map Dd.kv = [] := z
  have z := congrArg List.length z
  rw [List.length_map] at z
  simp only [List.length_nil] at z
  omega
theorem get_in : ∀ (l : List Dd), (l.map Dd.nm).Nodup → ∀ x ∈ l, getD' (l.map Dd.kv) (.inr x.nm) = some x.pr
  | [], _, _, h => absurd h (by simp)
  | y :: l, hn, x, hx => by
    obtain ⟨n1, n2⟩ := List.nodup_cons.mp hn
    unfold getD'
    by_cases e : y.nm = x.nm
    · rcases List.mem_cons.mp hx with rfl | hx
      · rw [List.map_cons, List.find?_cons_of_pos (by simp [Dd.kv])]
        rfl
      · exact absurd (List.mem_map.mpr ⟨x, hx, e.symm⟩) n1
    · rcases List.mem_cons.mp hx with rfl | hx
      · exact absurd rfl e
      · rw [List.map_cons, List.find?_cons_of_neg (by
          intro z
          have z := of_decide_eq_true z
          exact e (Sum.inr.inj z))]
        exact get_in l n2 x hx
theorem get_no : ∀ (l : List Dd) (s : Str), s ∉ l.map Dd.nm → getD' (l.map Dd.kv) (.inr s) = none
  | [], _, _ => rfl
  | y :: l, s, h => by
    unfold getD'
    rw [List.map_cons, List.find?_cons_of_neg (by
      intro z
      have z := of_decide_eq_true z
      have z : y.nm = s := Sum.inr.inj z
      exact h (by rw [← z]; exact List.mem_cons_self))]
    exact get_no l s fun q => h (List.mem_cons_of_mem _ q)
theorem view_dct {S : Sto} {n : Nat} {kvs : List (Key × D)} (h : S[n]? = some (.dct kvs)) : viewD S (.ref n) = some kvs := by
  simp only [viewD, h]
theorem notin_dct {S : Sto} {n : Nat} {kvs : List (Key × D)} (h : S[n]? = some (.dct kvs)) (s : Str) : dnotinD S (.str s) (.ref n) = some (.val (.bl (!(getD' kvs (.inr s)).isSome))) := by
  have v := view_dct h
  have e : dinB S (.str s) (.ref n) = match viewD S (.ref n) with
    | some kvs => some (getD' kvs (.inr s)).isSome
    | none => none := by
    unfold dinB
    rw [v]
    rfl
  unfold dnotinD
  rw [e, v]
  rfl
theorem dg_dct {S : Sto} {n : Nat} {kvs : List (Key × D)} (h : S[n]? = some (.dct kvs)) (s : Str) : dgD S (.ref n) (.str s) = (getD' kvs (.inr s)).map .val := by
  have v := view_dct h
  unfold dgD
  rw [v]
  rfl
def erO : Xn := ⟨"OutOfPlace", []⟩
theorem x_raise (c : Str) (f : Dn Out) (ρ : En) (S : Sto) : sRaise c f ρ S = bnS (stl f ρ S) ρ (erK c ρ) := rfl
theorem x_erK (c : Str) (ρ : En) (d : D) (S : Sto) : erK c ρ d S = some (.er ⟨c, []⟩ ρ S) := rfl
theorem x_defE (x : Xn) (ρ : En) (S : Sto) : defK (some (.er x ρ S)) = some (.er x S) := rfl
theorem need_in (S : Sto) {f : Fc} (h : okF f) {x : Dd} (hx : x ∈ f.dd) : den_need_deed [f.d, .str x.nm] S = some (.ok (.val .non) (S ++ [.dct f.kvs])) := by
  have e1 := e_nm (h.dn x hx).nm S
  have e2 := e_dbn S h
  have e3 := stl_dct (kvs_ne h) S
  have e4 := notin_dct (push_at S (.dct f.kvs)) x.nm
  have g : getD' f.kvs (.inr x.nm) = some x.pr := get_in f.dd (rise_nd _ _ h.dr) x hx
  rw [g] at e4
  have e4 : dnotinD (S ++ [.dct f.kvs]) (.str x.nm) (.ref S.length) = some (.val (.bl false)) := e4
  generalize f.kvs = kk at *
  generalize f.d = fd at *
  simp only [den_need_deed, x_bnd, x_bnS, x_c, x_var, x_varK, x_stl, x_stlV, x_stlL, x_stlE, x_stlD, x_bxd, x_bxV, x_bxK, x_okv, x_okm, x_d2, x_d2K, x_d2L, x_tst, x_tstK, x_ch, x_chK, x_chL, x_chMt, x_chMf, x_chN, x_and, x_andK, x_andT, x_andF, x_or, x_orK, x_orT, x_orF, x_not, x_notK, x_notL, x_tru, x_truK, x_truL, x_band, x_bandT, x_bandF, x_bor, x_borT, x_borF, x_bnot, x_bnotK, x_dif, x_difT, x_difF, x_anil, x_acons, x_aK, x_aL, x_tup, x_tupK, x_lst, x_lstK, x_cl, x_clK, x_fn, x_fnK, x_isi, x_isiK, x_isiL, x_neg, x_negK, x_revL, x_kget, x_kgetK, x_sl, x_slK, x_slL, x_pnone, x_psome, x_psK, x_mt, x_mtK, x_mtL, x_itA, x_itAK, x_itL, x_itSeq, x_seqK, x_itStr, x_istrK, x_comp, x_compK, x_compL, x_wipe1, x_wipe2, x_seq, x_sqN, x_sqR, x_sqB, x_sqC, x_next, x_ret, x_retK, x_retN, x_asg, x_asgB, x_asgK, x_drop, x_dropK, x_if, x_ifT, x_ifF, x_for, x_forK, x_tgt, x_tgtK, x_tgtL, x_tname, x_par, x_parK, x_dput, x_dputK, x_dputK1, x_dputK2, x_dputL, x_def, x_defR, x_defN, y_add, y_sub, y_mul, y_mulX, y_mod, y_fdiv, y_lt, y_le, y_gt, y_ge, y_eqI, y_eqS, y_neI, y_neS, y_eqYI, y_eqYS, y_neYI, y_neYS, y_ixT, y_ixL, y_trB, y_k0, y_k1, y_k2, y_k3, y_k4, y_k5, y_k6, y_lenT, y_lenL, y_lenS, startE, List.map_cons, List.map_nil, List.length_cons, List.length_nil, List.replicate, List.cons_append, List.nil_append, List.append_nil, Nat.sub_self, Nat.reduceSub, Nat.reduceAdd, Nat.reduceLeDiff, Nat.reduceEqDiff, Nat.zero_add, Nat.zero_le, Nat.sub_zero, List.set_cons_zero, List.set_cons_succ, List.getElem?_cons_zero, List.getElem?_cons_succ, Bool.not_true, Bool.not_false, decide_true, decide_false, e1, e2, e3, e4]
theorem need_no {w p : Nat} (S : Sto) {f : Fc} (h : okF f) {d : D} (hf : Fit w p d) (hw : w ≤ 100000) (hd : ∀ s, d = .str s → s ∉ f.dd.map Dd.nm) : ∃ S', den_need_deed [f.d, d] S = some (.er erO S') ∧ Gr S S' := by
  have e1 := e_name S hf hw
  cases hb : nameB d with
  | false =>
    rw [hb] at e1
    refine ⟨S, ?_, Gr.refl S⟩
    generalize f.d = fd at *
    simp only [den_need_deed, x_bnd, x_bnS, x_c, x_var, x_varK, x_stl, x_stlV, x_stlL, x_stlE, x_stlD, x_bxd, x_bxV, x_bxK, x_okv, x_okm, x_d2, x_d2K, x_d2L, x_tst, x_tstK, x_ch, x_chK, x_chL, x_chMt, x_chMf, x_chN, x_and, x_andK, x_andT, x_andF, x_or, x_orK, x_orT, x_orF, x_not, x_notK, x_notL, x_tru, x_truK, x_truL, x_band, x_bandT, x_bandF, x_bor, x_borT, x_borF, x_bnot, x_bnotK, x_dif, x_difT, x_difF, x_anil, x_acons, x_aK, x_aL, x_tup, x_tupK, x_lst, x_lstK, x_cl, x_clK, x_fn, x_fnK, x_isi, x_isiK, x_isiL, x_neg, x_negK, x_revL, x_kget, x_kgetK, x_sl, x_slK, x_slL, x_pnone, x_psome, x_psK, x_mt, x_mtK, x_mtL, x_itA, x_itAK, x_itL, x_itSeq, x_seqK, x_itStr, x_istrK, x_comp, x_compK, x_compL, x_wipe1, x_wipe2, x_seq, x_sqN, x_sqR, x_sqB, x_sqC, x_next, x_ret, x_retK, x_retN, x_asg, x_asgB, x_asgK, x_drop, x_dropK, x_if, x_ifT, x_ifF, x_for, x_forK, x_tgt, x_tgtK, x_tgtL, x_tname, x_par, x_parK, x_dput, x_dputK, x_dputK1, x_dputK2, x_dputL, x_def, x_defR, x_defN, y_add, y_sub, y_mul, y_mulX, y_mod, y_fdiv, y_lt, y_le, y_gt, y_ge, y_eqI, y_eqS, y_neI, y_neS, y_eqYI, y_eqYS, y_neYI, y_neYS, y_ixT, y_ixL, y_trB, y_k0, y_k1, y_k2, y_k3, y_k4, y_k5, y_k6, y_lenT, y_lenL, y_lenS, startE, List.map_cons, List.map_nil, List.length_cons, List.length_nil, List.replicate, List.cons_append, List.nil_append, List.append_nil, Nat.sub_self, Nat.reduceSub, Nat.reduceAdd, Nat.reduceLeDiff, Nat.reduceEqDiff, Nat.zero_add, Nat.zero_le, Nat.sub_zero, List.set_cons_zero, List.set_cons_succ, List.getElem?_cons_zero, List.getElem?_cons_succ, Bool.not_true, Bool.not_false, decide_true, decide_false, e1, x_raise, x_erK, x_defE, erO]
  | true =>
    rw [hb] at e1
    cases d with
    | str s =>
      have e2 := e_dbn S h
      have e3 := stl_dct (kvs_ne h) S
      have e4 := notin_dct (push_at S (.dct f.kvs)) s
      have g : getD' f.kvs (.inr s) = none := get_no f.dd s (hd s rfl)
      rw [g] at e4
      have e4 : dnotinD (S ++ [.dct f.kvs]) (.str s) (.ref S.length) = some (.val (.bl true)) := e4
      refine ⟨S ++ [.dct f.kvs], ?_, Gr.push _ _⟩
      generalize f.kvs = kk at *
      generalize f.d = fd at *
      simp only [den_need_deed, x_bnd, x_bnS, x_c, x_var, x_varK, x_stl, x_stlV, x_stlL, x_stlE, x_stlD, x_bxd, x_bxV, x_bxK, x_okv, x_okm, x_d2, x_d2K, x_d2L, x_tst, x_tstK, x_ch, x_chK, x_chL, x_chMt, x_chMf, x_chN, x_and, x_andK, x_andT, x_andF, x_or, x_orK, x_orT, x_orF, x_not, x_notK, x_notL, x_tru, x_truK, x_truL, x_band, x_bandT, x_bandF, x_bor, x_borT, x_borF, x_bnot, x_bnotK, x_dif, x_difT, x_difF, x_anil, x_acons, x_aK, x_aL, x_tup, x_tupK, x_lst, x_lstK, x_cl, x_clK, x_fn, x_fnK, x_isi, x_isiK, x_isiL, x_neg, x_negK, x_revL, x_kget, x_kgetK, x_sl, x_slK, x_slL, x_pnone, x_psome, x_psK, x_mt, x_mtK, x_mtL, x_itA, x_itAK, x_itL, x_itSeq, x_seqK, x_itStr, x_istrK, x_comp, x_compK, x_compL, x_wipe1, x_wipe2, x_seq, x_sqN, x_sqR, x_sqB, x_sqC, x_next, x_ret, x_retK, x_retN, x_asg, x_asgB, x_asgK, x_drop, x_dropK, x_if, x_ifT, x_ifF, x_for, x_forK, x_tgt, x_tgtK, x_tgtL, x_tname, x_par, x_parK, x_dput, x_dputK, x_dputK1, x_dputK2, x_dputL, x_def, x_defR, x_defN, y_add, y_sub, y_mul, y_mulX, y_mod, y_fdiv, y_lt, y_le, y_gt, y_ge, y_eqI, y_eqS, y_neI, y_neS, y_eqYI, y_eqYS, y_neYI, y_neYS, y_ixT, y_ixL, y_trB, y_k0, y_k1, y_k2, y_k3, y_k4, y_k5, y_k6, y_lenT, y_lenL, y_lenS, startE, List.map_cons, List.map_nil, List.length_cons, List.length_nil, List.replicate, List.cons_append, List.nil_append, List.append_nil, Nat.sub_self, Nat.reduceSub, Nat.reduceAdd, Nat.reduceLeDiff, Nat.reduceEqDiff, Nat.zero_add, Nat.zero_le, Nat.sub_zero, List.set_cons_zero, List.set_cons_succ, List.getElem?_cons_zero, List.getElem?_cons_succ, Bool.not_true, Bool.not_false, decide_true, decide_false, e1, e2, e3, e4, x_raise, x_erK, x_defE, erO]
    | _ => exact absurd hb (by simp [nameB])
theorem x_defEr (x : Xn) (S : Sto) (ρ : En) (k : Out → Sto → Option Fl) : bnS (some (.er x S)) ρ k = some (.er x ρ S) := rfl
theorem x_sqE (x : Xn) (ρ : En) (S : Sto) (t : Sn) : sqK t (some (.er x ρ S)) = some (.er x ρ S) := rfl
theorem pr_ix (S : Sto) (x : Dd) : ixD S x.pr (.int 0) = some (.val (.tup (x.tk.map Kd.d))) ∧ ixD S x.pr (.int 1) = some (.val x.gv.d) := ⟨rfl, rfl⟩
theorem takes_in (S : Sto) {f : Fc} (h : okF f) {x : Dd} (hx : x ∈ f.dd) : ∃ S', den_takes_of [f.d, .str x.nm] S = some (.ok (.val (.tup (x.tk.map Kd.d))) S') ∧ Gr S S' := by
  have e1 := e_need S h
  have e2 := need_in S h hx
  have e3 := e_dbn (S ++ [.dct f.kvs]) h
  have e4 := stl_dct (kvs_ne h) (S ++ [.dct f.kvs])
  have e5 := dg_dct (push_at (S ++ [.dct f.kvs]) (.dct f.kvs)) x.nm
  have g : getD' f.kvs (.inr x.nm) = some x.pr := get_in f.dd (rise_nd _ _ h.dr) x hx
  rw [g] at e5
  have e6 := (pr_ix ((S ++ [.dct f.kvs]) ++ [.dct f.kvs]) x).1
  refine ⟨(S ++ [.dct f.kvs]) ++ [.dct f.kvs], ?_, (Gr.push _ _).app _⟩
  generalize f.kvs = kk at *
  generalize f.d = fd at *
  generalize x.tk.map Kd.d = ts at *
  generalize x.pr = xp at *
  generalize hS1 : S ++ [Ob.dct kk] = S1 at *
  generalize hS2 : S1 ++ [Ob.dct kk] = S2 at *
  generalize S1.length = n1 at *
  simp only [den_takes_of, x_bnd, x_bnS, x_c, x_var, x_varK, x_stl, x_stlV, x_stlL, x_stlE, x_stlD, x_bxd, x_bxV, x_bxK, x_okv, x_okm, x_d2, x_d2K, x_d2L, x_tst, x_tstK, x_ch, x_chK, x_chL, x_chMt, x_chMf, x_chN, x_and, x_andK, x_andT, x_andF, x_or, x_orK, x_orT, x_orF, x_not, x_notK, x_notL, x_tru, x_truK, x_truL, x_band, x_bandT, x_bandF, x_bor, x_borT, x_borF, x_bnot, x_bnotK, x_dif, x_difT, x_difF, x_anil, x_acons, x_aK, x_aL, x_tup, x_tupK, x_lst, x_lstK, x_cl, x_clK, x_fn, x_fnK, x_isi, x_isiK, x_isiL, x_neg, x_negK, x_revL, x_kget, x_kgetK, x_sl, x_slK, x_slL, x_pnone, x_psome, x_psK, x_mt, x_mtK, x_mtL, x_itA, x_itAK, x_itL, x_itSeq, x_seqK, x_itStr, x_istrK, x_comp, x_compK, x_compL, x_wipe1, x_wipe2, x_seq, x_sqN, x_sqR, x_sqB, x_sqC, x_next, x_ret, x_retK, x_retN, x_asg, x_asgB, x_asgK, x_drop, x_dropK, x_if, x_ifT, x_ifF, x_for, x_forK, x_tgt, x_tgtK, x_tgtL, x_tname, x_par, x_parK, x_dput, x_dputK, x_dputK1, x_dputK2, x_dputL, x_def, x_defR, x_defN, y_add, y_sub, y_mul, y_mulX, y_mod, y_fdiv, y_lt, y_le, y_gt, y_ge, y_eqI, y_eqS, y_neI, y_neS, y_eqYI, y_eqYS, y_neYI, y_neYS, y_ixT, y_ixL, y_trB, y_k0, y_k1, y_k2, y_k3, y_k4, y_k5, y_k6, y_lenL, y_lenS, startE, List.map_cons, List.map_nil, List.length_cons, List.length_nil, List.replicate, List.cons_append, List.nil_append, List.append_nil, Nat.sub_self, Nat.reduceSub, Nat.reduceAdd, Nat.reduceLeDiff, Nat.reduceEqDiff, Nat.zero_add, Nat.zero_le, Nat.sub_zero, List.set_cons_zero, List.set_cons_succ, List.getElem?_cons_zero, List.getElem?_cons_succ, Bool.not_true, Bool.not_false, decide_true, decide_false, Int.reduceEq, Int.reduceLT, Int.reduceLE, Int.reduceSub, Int.reduceAdd, eq_self, Option.map_some, e1, e2, e3, e4, e5, e6]
theorem gives_in (S : Sto) {f : Fc} (h : okF f) {x : Dd} (hx : x ∈ f.dd) : ∃ S', den_gives_of [f.d, .str x.nm] S = some (.ok (.val x.gv.d) S') ∧ Gr S S' := by
  have e1 := e_need S h
  have e2 := need_in S h hx
  have e3 := e_dbn (S ++ [.dct f.kvs]) h
  have e4 := stl_dct (kvs_ne h) (S ++ [.dct f.kvs])
  have e5 := dg_dct (push_at (S ++ [.dct f.kvs]) (.dct f.kvs)) x.nm
  have g : getD' f.kvs (.inr x.nm) = some x.pr := get_in f.dd (rise_nd _ _ h.dr) x hx
  rw [g] at e5
  have e6 := (pr_ix ((S ++ [.dct f.kvs]) ++ [.dct f.kvs]) x).2
  refine ⟨(S ++ [.dct f.kvs]) ++ [.dct f.kvs], ?_, (Gr.push _ _).app _⟩
  generalize f.kvs = kk at *
  generalize f.d = fd at *
  generalize x.gv.d = gd at *
  generalize x.pr = xp at *
  generalize hS1 : S ++ [Ob.dct kk] = S1 at *
  generalize hS2 : S1 ++ [Ob.dct kk] = S2 at *
  generalize S1.length = n1 at *
  simp only [den_gives_of, x_bnd, x_bnS, x_c, x_var, x_varK, x_stl, x_stlV, x_stlL, x_stlE, x_stlD, x_bxd, x_bxV, x_bxK, x_okv, x_okm, x_d2, x_d2K, x_d2L, x_tst, x_tstK, x_ch, x_chK, x_chL, x_chMt, x_chMf, x_chN, x_and, x_andK, x_andT, x_andF, x_or, x_orK, x_orT, x_orF, x_not, x_notK, x_notL, x_tru, x_truK, x_truL, x_band, x_bandT, x_bandF, x_bor, x_borT, x_borF, x_bnot, x_bnotK, x_dif, x_difT, x_difF, x_anil, x_acons, x_aK, x_aL, x_tup, x_tupK, x_lst, x_lstK, x_cl, x_clK, x_fn, x_fnK, x_isi, x_isiK, x_isiL, x_neg, x_negK, x_revL, x_kget, x_kgetK, x_sl, x_slK, x_slL, x_pnone, x_psome, x_psK, x_mt, x_mtK, x_mtL, x_itA, x_itAK, x_itL, x_itSeq, x_seqK, x_itStr, x_istrK, x_comp, x_compK, x_compL, x_wipe1, x_wipe2, x_seq, x_sqN, x_sqR, x_sqB, x_sqC, x_next, x_ret, x_retK, x_retN, x_asg, x_asgB, x_asgK, x_drop, x_dropK, x_if, x_ifT, x_ifF, x_for, x_forK, x_tgt, x_tgtK, x_tgtL, x_tname, x_par, x_parK, x_dput, x_dputK, x_dputK1, x_dputK2, x_dputL, x_def, x_defR, x_defN, y_add, y_sub, y_mul, y_mulX, y_mod, y_fdiv, y_lt, y_le, y_gt, y_ge, y_eqI, y_eqS, y_neI, y_neS, y_eqYI, y_eqYS, y_neYI, y_neYS, y_ixT, y_ixL, y_trB, y_k0, y_k1, y_k2, y_k3, y_k4, y_k5, y_k6, y_lenL, y_lenS, startE, List.map_cons, List.map_nil, List.length_cons, List.length_nil, List.replicate, List.cons_append, List.nil_append, List.append_nil, Nat.sub_self, Nat.reduceSub, Nat.reduceAdd, Nat.reduceLeDiff, Nat.reduceEqDiff, Nat.zero_add, Nat.zero_le, Nat.sub_zero, List.set_cons_zero, List.set_cons_succ, List.getElem?_cons_zero, List.getElem?_cons_succ, Bool.not_true, Bool.not_false, decide_true, decide_false, Int.reduceEq, Int.reduceLT, Int.reduceLE, Int.reduceSub, Int.reduceAdd, eq_self, Option.map_some, e1, e2, e3, e4, e5, e6]
theorem takes_no {w p : Nat} (S : Sto) {f : Fc} (h : okF f) {d : D} (hf : Fit w p d) (hw : w ≤ 100000) (hd : ∀ s, d = .str s → s ∉ f.dd.map Dd.nm) : ∃ S', den_takes_of [f.d, d] S = some (.er erO S') ∧ Gr S S' := by
  have e1 := e_need S h
  obtain ⟨S', e2, g⟩ := need_no S h hf hw hd
  refine ⟨S', ?_, g⟩
  generalize f.d = fd at *
  simp only [den_takes_of, x_bnd, x_bnS, x_c, x_var, x_varK, x_stl, x_stlV, x_stlL, x_stlE, x_stlD, x_bxd, x_bxV, x_bxK, x_okv, x_okm, x_d2, x_d2K, x_d2L, x_tst, x_tstK, x_ch, x_chK, x_chL, x_chMt, x_chMf, x_chN, x_and, x_andK, x_andT, x_andF, x_or, x_orK, x_orT, x_orF, x_not, x_notK, x_notL, x_tru, x_truK, x_truL, x_band, x_bandT, x_bandF, x_bor, x_borT, x_borF, x_bnot, x_bnotK, x_dif, x_difT, x_difF, x_anil, x_acons, x_aK, x_aL, x_tup, x_tupK, x_lst, x_lstK, x_cl, x_clK, x_fn, x_fnK, x_isi, x_isiK, x_isiL, x_neg, x_negK, x_revL, x_kget, x_kgetK, x_sl, x_slK, x_slL, x_pnone, x_psome, x_psK, x_mt, x_mtK, x_mtL, x_itA, x_itAK, x_itL, x_itSeq, x_seqK, x_itStr, x_istrK, x_comp, x_compK, x_compL, x_wipe1, x_wipe2, x_seq, x_sqN, x_sqR, x_sqB, x_sqC, x_next, x_ret, x_retK, x_retN, x_asg, x_asgB, x_asgK, x_drop, x_dropK, x_if, x_ifT, x_ifF, x_for, x_forK, x_tgt, x_tgtK, x_tgtL, x_tname, x_par, x_parK, x_dput, x_dputK, x_dputK1, x_dputK2, x_dputL, x_def, x_defR, x_defN, y_add, y_sub, y_mul, y_mulX, y_mod, y_fdiv, y_lt, y_le, y_gt, y_ge, y_eqI, y_eqS, y_neI, y_neS, y_eqYI, y_eqYS, y_neYI, y_neYS, y_ixT, y_ixL, y_trB, y_k0, y_k1, y_k2, y_k3, y_k4, y_k5, y_k6, y_lenT, y_lenL, y_lenS, startE, List.map_cons, List.map_nil, List.length_cons, List.length_nil, List.replicate, List.cons_append, List.nil_append, List.append_nil, Nat.sub_self, Nat.reduceSub, Nat.reduceAdd, Nat.reduceLeDiff, Nat.reduceEqDiff, Nat.zero_add, Nat.zero_le, Nat.sub_zero, List.set_cons_zero, List.set_cons_succ, List.getElem?_cons_zero, List.getElem?_cons_succ, Bool.not_true, Bool.not_false, decide_true, decide_false, e1, e2, x_defEr, x_sqE, x_defE]
theorem gives_no {w p : Nat} (S : Sto) {f : Fc} (h : okF f) {d : D} (hf : Fit w p d) (hw : w ≤ 100000) (hd : ∀ s, d = .str s → s ∉ f.dd.map Dd.nm) : ∃ S', den_gives_of [f.d, d] S = some (.er erO S') ∧ Gr S S' := by
  have e1 := e_need S h
  obtain ⟨S', e2, g⟩ := need_no S h hf hw hd
  refine ⟨S', ?_, g⟩
  generalize f.d = fd at *
  simp only [den_gives_of, x_bnd, x_bnS, x_c, x_var, x_varK, x_stl, x_stlV, x_stlL, x_stlE, x_stlD, x_bxd, x_bxV, x_bxK, x_okv, x_okm, x_d2, x_d2K, x_d2L, x_tst, x_tstK, x_ch, x_chK, x_chL, x_chMt, x_chMf, x_chN, x_and, x_andK, x_andT, x_andF, x_or, x_orK, x_orT, x_orF, x_not, x_notK, x_notL, x_tru, x_truK, x_truL, x_band, x_bandT, x_bandF, x_bor, x_borT, x_borF, x_bnot, x_bnotK, x_dif, x_difT, x_difF, x_anil, x_acons, x_aK, x_aL, x_tup, x_tupK, x_lst, x_lstK, x_cl, x_clK, x_fn, x_fnK, x_isi, x_isiK, x_isiL, x_neg, x_negK, x_revL, x_kget, x_kgetK, x_sl, x_slK, x_slL, x_pnone, x_psome, x_psK, x_mt, x_mtK, x_mtL, x_itA, x_itAK, x_itL, x_itSeq, x_seqK, x_itStr, x_istrK, x_comp, x_compK, x_compL, x_wipe1, x_wipe2, x_seq, x_sqN, x_sqR, x_sqB, x_sqC, x_next, x_ret, x_retK, x_retN, x_asg, x_asgB, x_asgK, x_drop, x_dropK, x_if, x_ifT, x_ifF, x_for, x_forK, x_tgt, x_tgtK, x_tgtL, x_tname, x_par, x_parK, x_dput, x_dputK, x_dputK1, x_dputK2, x_dputL, x_def, x_defR, x_defN, y_add, y_sub, y_mul, y_mulX, y_mod, y_fdiv, y_lt, y_le, y_gt, y_ge, y_eqI, y_eqS, y_neI, y_neS, y_eqYI, y_eqYS, y_neYI, y_neYS, y_ixT, y_ixL, y_trB, y_k0, y_k1, y_k2, y_k3, y_k4, y_k5, y_k6, y_lenT, y_lenL, y_lenS, startE, List.map_cons, List.map_nil, List.length_cons, List.length_nil, List.replicate, List.cons_append, List.nil_append, List.append_nil, Nat.sub_self, Nat.reduceSub, Nat.reduceAdd, Nat.reduceLeDiff, Nat.reduceEqDiff, Nat.zero_add, Nat.zero_le, Nat.sub_zero, List.set_cons_zero, List.set_cons_succ, List.getElem?_cons_zero, List.getElem?_cons_succ, Bool.not_true, Bool.not_false, decide_true, decide_false, e1, e2, x_defEr, x_sqE, x_defE]
end W03
namespace W03
open Sf L2 PySem PySem.Spec PyProof.Rows
/-! the kinds of what was refused -/
def excO : Ob := .exc "OutOfPlace" []
theorem isx_at {S : Sto} {n : Nat} (h : S[n]? = some excO) {tbl : List (Str × Bool)} {b : Bool} (e : tbl.lookup ("OutOfPlace" : Str) = some b) : isxK tbl (.ref n) S = some (.ok (.val (.bl b)) S) := by
  unfold isxK
  dsimp only
  rw [h]
  show (match tbl.lookup ("OutOfPlace" : Str) with
    | some b => some (Rz.ok (Out.val (.bl b)) S)
    | none => none) = _
  rw [e]
theorem x_isx (tbl : List (Str × Bool)) (f : Dn Out) (ρ : En) (S : Sto) : dIsX tbl f ρ S = bnd (stl f ρ S) (isxK tbl) := rfl
def prD (p : Str × Bool) : D := .tup [.str p.1, .bl p.2]
def kOne (a : Str) (t : List (Str × Bool)) : Dn Out := dTup (aCons (dC (.str a)) (aCons (dIsX t (dVar 0)) aNil))
def kTwo (a : Str) (t1 : List (Str × Bool)) (b : Str) (t2 : List (Str × Bool)) : Dn Out := dLst (aCons (kOne a t1) (aCons (kOne b t2) aNil))
theorem k_two {S : Sto} {n : Nat} (h : S[n]? = some excO) (a b : Str) {t1 t2 : List (Str × Bool)} {b1 b2 : Bool} (e1 : t1.lookup ("OutOfPlace" : Str) = some b1) (e2 : t2.lookup ("OutOfPlace" : Str) = some b2) (x1 x2 x3 : Option D) :
    kTwo a t1 b t2 [some (.ref n), x1, x2, x3] S = some (.ok (.own (.lst ([(a, b1), (b, b2)].map prD))) S) := by
  have i1 := isx_at h e1
  have i2 := isx_at h e2
  simp only [kTwo, kOne, x_bnd, x_bnS, x_c, x_var, x_varK, x_stl, x_stlV, x_stlL, x_stlE, x_stlD, x_bxd, x_bxV, x_bxK, x_okv, x_okm, x_d2, x_d2K, x_d2L, x_tst, x_tstK, x_ch, x_chK, x_chL, x_chMt, x_chMf, x_chN, x_and, x_andK, x_andT, x_andF, x_or, x_orK, x_orT, x_orF, x_not, x_notK, x_notL, x_tru, x_truK, x_truL, x_band, x_bandT, x_bandF, x_bor, x_borT, x_borF, x_bnot, x_bnotK, x_dif, x_difT, x_difF, x_anil, x_acons, x_aK, x_aL, x_tup, x_tupK, x_lst, x_lstK, x_cl, x_clK, x_fn, x_fnK, x_isi, x_isiK, x_isiL, x_neg, x_negK, x_revL, x_kget, x_kgetK, x_sl, x_slK, x_slL, x_pnone, x_psome, x_psK, x_mt, x_mtK, x_mtL, x_itA, x_itAK, x_itL, x_itSeq, x_seqK, x_itStr, x_istrK, x_comp, x_compK, x_compL, x_wipe1, x_wipe2, x_seq, x_sqN, x_sqR, x_sqB, x_sqC, x_next, x_ret, x_retK, x_retN, x_asg, x_asgB, x_asgK, x_drop, x_dropK, x_if, x_ifT, x_ifF, x_for, x_forK, x_tgt, x_tgtK, x_tgtL, x_tname, x_par, x_parK, x_dput, x_dputK, x_dputK1, x_dputK2, x_dputL, x_def, x_defR, x_defN, y_add, y_sub, y_mul, y_mulX, y_mod, y_fdiv, y_lt, y_le, y_gt, y_ge, y_eqI, y_eqS, y_neI, y_neS, y_eqYI, y_eqYS, y_neYI, y_neYS, y_ixT, y_ixL, y_trB, y_k0, y_k1, y_k2, y_k3, y_k4, y_k5, y_k6, y_lenT, y_lenL, y_lenS, startE, List.map_cons, List.map_nil, List.length_cons, List.length_nil, List.replicate, List.cons_append, List.nil_append, List.append_nil, Nat.sub_self, Nat.reduceSub, Nat.reduceAdd, Nat.reduceLeDiff, Nat.reduceEqDiff, Nat.zero_add, Nat.zero_le, Nat.sub_zero, List.set_cons_zero, List.set_cons_succ, List.getElem?_cons_zero, List.getElem?_cons_succ, Bool.not_true, Bool.not_false, decide_true, decide_false, x_isx, i1, i2]
  rfl
theorem k_step {S S0 : Sto} {n p : Nat} {l : List (Str × Bool)} (g : Gr S0 S) (h : S[n]? = some excO) (hp : S[p]? = some (.lst (l.map prD))) (hl : l.length ≤ 100) (a b : Str) {t1 t2 : List (Str × Bool)} {b1 b2 : Bool} (e1 : t1.lookup ("OutOfPlace" : Str) = some b1) (e2 : t2.lookup ("OutOfPlace" : Str) = some b2) (x2 x3 : Option D) :
    ∃ S' p', sAsgB 1 (d2 addD (dVar 1) (kTwo a t1 b t2)) [some (.ref n), some (.ref p), x2, x3] S = some (.nx [some (.ref n), some (.ref p'), x2, x3] S') ∧ S'[n]? = some excO ∧ S'[p']? = some (.lst ((l ++ [(a, b1), (b, b2)]).map prD)) ∧ Gr S0 S' ∧ S0.length ≤ p' := by
  have k := k_two h a b e1 e2 (some (.ref p)) x2 x3
  have ad : addD S (.ref p) (.lst ([(a, b1), (b, b2)].map prD)) = some (.own (.lst ((l ++ [(a, b1), (b, b2)]).map prD))) := by
    rw [add_box hp (by rw [List.length_map, List.length_map]; show _ + 2 ≤ _; omega), List.map_append]
  refine ⟨S ++ [.lst ((l ++ [(a, b1), (b, b2)]).map prD)], S.length, ?_, at_app h, push_at _ _, g.app _, g.1⟩
  generalize [(a, b1), (b, b2)].map prD = t at *
  generalize (l ++ [(a, b1), (b, b2)]).map prD = u at *
  simp only [x_bnd, x_bnS, x_c, x_var, x_varK, x_stl, x_stlV, x_stlL, x_stlE, x_stlD, x_bxd, x_bxV, x_bxK, x_okv, x_okm, x_d2, x_d2K, x_d2L, x_tst, x_tstK, x_ch, x_chK, x_chL, x_chMt, x_chMf, x_chN, x_and, x_andK, x_andT, x_andF, x_or, x_orK, x_orT, x_orF, x_not, x_notK, x_notL, x_tru, x_truK, x_truL, x_band, x_bandT, x_bandF, x_bor, x_borT, x_borF, x_bnot, x_bnotK, x_dif, x_difT, x_difF, x_anil, x_acons, x_aK, x_aL, x_tup, x_tupK, x_lst, x_lstK, x_cl, x_clK, x_fn, x_fnK, x_isi, x_isiK, x_isiL, x_neg, x_negK, x_revL, x_kget, x_kgetK, x_sl, x_slK, x_slL, x_pnone, x_psome, x_psK, x_mt, x_mtK, x_mtL, x_itA, x_itAK, x_itL, x_itSeq, x_seqK, x_itStr, x_istrK, x_comp, x_compK, x_compL, x_wipe1, x_wipe2, x_seq, x_sqN, x_sqR, x_sqB, x_sqC, x_next, x_ret, x_retK, x_retN, x_asg, x_asgB, x_asgK, x_drop, x_dropK, x_if, x_ifT, x_ifF, x_for, x_forK, x_tgt, x_tgtK, x_tgtL, x_tname, x_par, x_parK, x_dput, x_dputK, x_dputK1, x_dputK2, x_dputL, x_def, x_defR, x_defN, y_add, y_sub, y_mul, y_mulX, y_mod, y_fdiv, y_lt, y_le, y_gt, y_ge, y_eqI, y_eqS, y_neI, y_neS, y_eqYI, y_eqYS, y_neYI, y_neYS, y_ixT, y_ixL, y_trB, y_k0, y_k1, y_k2, y_k3, y_k4, y_k5, y_k6, y_lenT, y_lenL, y_lenS, startE, List.map_cons, List.map_nil, List.length_cons, List.length_nil, List.replicate, List.cons_append, List.nil_append, List.append_nil, Nat.sub_self, Nat.reduceSub, Nat.reduceAdd, Nat.reduceLeDiff, Nat.reduceEqDiff, Nat.zero_add, Nat.zero_le, Nat.sub_zero, List.set_cons_zero, List.set_cons_succ, List.getElem?_cons_zero, List.getElem?_cons_succ, Bool.not_true, Bool.not_false, decide_true, decide_false, k, ad]
theorem k_app {S S0 : Sto} {n p : Nat} {l : List (Str × Bool)} (g : Gr S0 S) (h : S[n]? = some excO) (hp : S[p]? = some (.lst (l.map prD))) (hpn : p ≠ n) (h0 : S0.length ≤ p) (hl : l.length ≤ 100) {f : Dn Out} {q : Str × Bool} (x2 x3 : Option D)
    (hf : stl f [some (.ref n), some (.ref p), x2, x3] S = some (.ok (prD q) S)) :
    ∃ S', sDrop (dMt "list" appD (dVar 1) (aCons f aNil)) [some (.ref n), some (.ref p), x2, x3] S = some (.nx [some (.ref n), some (.ref p), x2, x3] S') ∧ S'[n]? = some excO ∧ S'[p]? = some (.lst ((l ++ [q]).map prD)) ∧ Gr S0 S' := by
  have ap := app_box hp (prD q) (by rw [List.length_map]; omega)
  rw [show l.map prD ++ [prD q] = (l ++ [q]).map prD by rw [List.map_append]; rfl] at ap
  have ty := ty_box hp
  refine ⟨S.set p (.lst ((l ++ [q]).map prD)), ?_, at_set h (Ne.symm hpn), set_at hp, g.set h0 _⟩
  generalize (l ++ [q]).map prD = u at *
  generalize prD q = qd at *
  have hf2 : aCons f aNil [some (.ref n), some (.ref p), x2, x3] S = some (.ok [qd] S) := by
    rw [x_acons, hf, x_bnd, x_aK, x_anil, x_bnd, x_aL]
  have v1 : stl (dVar 1) [some (.ref n), some (.ref p), x2, x3] S = some (.ok (.ref p) S) := rfl
  rw [x_drop, x_mt, v1, x_bnd, x_mtK _ _ ty, hf2, x_bnd, x_mtL, ap, x_okm, x_bnS, x_dropK]
theorem k_loop (I : Sto → Prop) (x0 x1 x2 x3 : Option D) (S : Sto) (hI : I S) : ∀ (l : List (Str × Bool)) (k : Nat), k + l.length ≤ 1000 →
    loopCI I (tTup (tsCons (tName 2) (tsCons (tName 3) tsNil))) (dTru (dVar 3)) (dVar 2) [x0, x1, x2, x3] (l.map prD) k S = some ((l.filter (·.2)).map fun p => .str p.1, S)
  | [], k, _ => lcI_nil hI
  | (a, b) :: l, k, hk => by
    rw [List.length_cons] at hk
    have hs : k < sizeLine := by show k < 2 ^ 24; omega
    have t : (tTup (tsCons (tName 2) (tsCons (tName 3) tsNil))) [x0, x1, x2, x3] (prD (a, b)) = some [x0, x1, some (.str a), some (.bl b)] := rfl
    have c : dTru (dVar 3) [x0, x1, some (.str a), some (.bl b)] S = some (.ok b S) := by simp only [x_bnd, x_bnS, x_c, x_var, x_varK, x_stl, x_stlV, x_stlL, x_stlE, x_stlD, x_bxd, x_bxV, x_bxK, x_okv, x_okm, x_d2, x_d2K, x_d2L, x_tst, x_tstK, x_ch, x_chK, x_chL, x_chMt, x_chMf, x_chN, x_and, x_andK, x_andT, x_andF, x_or, x_orK, x_orT, x_orF, x_not, x_notK, x_notL, x_tru, x_truK, x_truL, x_band, x_bandT, x_bandF, x_bor, x_borT, x_borF, x_bnot, x_bnotK, x_dif, x_difT, x_difF, x_anil, x_acons, x_aK, x_aL, x_tup, x_tupK, x_lst, x_lstK, x_cl, x_clK, x_fn, x_fnK, x_isi, x_isiK, x_isiL, x_neg, x_negK, x_revL, x_kget, x_kgetK, x_sl, x_slK, x_slL, x_pnone, x_psome, x_psK, x_mt, x_mtK, x_mtL, x_itA, x_itAK, x_itL, x_itSeq, x_seqK, x_itStr, x_istrK, x_comp, x_compK, x_compL, x_wipe1, x_wipe2, x_seq, x_sqN, x_sqR, x_sqB, x_sqC, x_next, x_ret, x_retK, x_retN, x_asg, x_asgB, x_asgK, x_drop, x_dropK, x_if, x_ifT, x_ifF, x_for, x_forK, x_tgt, x_tgtK, x_tgtL, x_tname, x_par, x_parK, x_dput, x_dputK, x_dputK1, x_dputK2, x_dputL, x_def, x_defR, x_defN, y_add, y_sub, y_mul, y_mulX, y_mod, y_fdiv, y_lt, y_le, y_gt, y_ge, y_eqI, y_eqS, y_neI, y_neS, y_eqYI, y_eqYS, y_neYI, y_neYS, y_ixT, y_ixL, y_trB, y_k0, y_k1, y_k2, y_k3, y_k4, y_k5, y_k6, y_lenT, y_lenL, y_lenS, startE, List.map_cons, List.map_nil, List.length_cons, List.length_nil, List.replicate, List.cons_append, List.nil_append, List.append_nil, Nat.sub_self, Nat.reduceSub, Nat.reduceAdd, Nat.reduceLeDiff, Nat.reduceEqDiff, Nat.zero_add, Nat.zero_le, Nat.sub_zero, List.set_cons_zero, List.set_cons_succ, List.getElem?_cons_zero, List.getElem?_cons_succ, Bool.not_true, Bool.not_false, decide_true, decide_false]
    have v : stl (dVar 2) [x0, x1, some (.str a), some (.bl b)] S = some (.ok (.str a) S) := rfl
    rw [List.map_cons, lcI_cons hI, t]
    cases b with
    | true =>
      have ih := k_loop I x0 x1 x2 x3 S hI l (k + 1) (by omega)
      simp only [c, v, if_pos hs, ih, Option.map_some]
      rfl
    | false =>
      have ih := k_loop I x0 x1 x2 x3 S hI l k (by omega)
      simp only [c, ih]
      rfl
noncomputable def kF : Dn Out := dCompB (itBox (dVar 1)) (tTup (tsCons (tName 2) (tsCons (tName 3) tsNil))) (dTru (dVar 3)) (dVar 2) [2, 3]
theorem k_done {S : Sto} {p : Nat} {l : List (Str × Bool)} (x0 : Option D) (hp : S[p]? = some (.lst (l.map prD))) (hl : l.length ≤ 1000) : kF [x0, some (.ref p), none, none] S = some (.ok (.own (.lst ((l.filter (·.2)).map fun p => .str p.1))) S) := by
  have lp := k_loop (boxI p (l.map prD)) x0 (some (.ref p)) none none S hp l 0 (by omega)
  have cm := x_compKI lp
  have bk := x_boxK hp
  have v1 : stl (dVar 1) [x0, some (.ref p), none, none] S = some (.ok (.ref p) S) := rfl
  unfold kF
  rw [x_compI, x_itBox, v1, x_bnd, bk, x_bnd]
  exact cm
theorem den_k : den_law_kinds = defD 4 (sSeq (sAsgB 1 (kTwo "row" xt_BadRow "face" xt_BadFace))
  (sSeq (sAsgB 1 (d2 addD (dVar 1) (kTwo "making" xt_BadMaking "user" xt_BadUser)))
  (sSeq (sAsgB 1 (d2 addD (dVar 1) (kTwo "steps" xt_BadSteps "lead" xt_BadLead)))
  (sSeq (sAsgB 1 (d2 addD (dVar 1) (kTwo "apart" xt_ToldApart "place" xt_OutOfPlace)))
  (sSeq (sAsgB 1 (d2 addD (dVar 1) (kTwo "great" xt_TooGreat "paper" xt_BadPaper)))
  (sSeq (sAsgB 1 (d2 addD (dVar 1) (kTwo "program" xt_BadProgram "module" xt_BadModule)))
  (sSeq (sAsgB 1 (d2 addD (dVar 1) (kTwo "refused" xt_Refused "use" xt_BadUse)))
  (sSeq (sDrop (dMt "list" appD (dVar 1) (aCons (kOne "input" xt_BadInput) aNil)))
  (sSeq (sDrop (dMt "list" appD (dVar 1) (aCons (dTup (aCons (dC (.str "other")) (aCons (dOr (dNot (dIsX xt_ValueError (dVar 0))) (dNot (dIsX xt_FaceError (dVar 0)))) aNil))) aNil)))
  (sRet kF)))))))))) := rfl
theorem e_kinds {S : Sto} {n : Nat} (h : S[n]? = some excO) : ∃ S', den_law_kinds [.ref n] S = some (.ok (.own (.lst [.str "place"])) S') ∧ Gr S S' := by
  have hlt := (List.getElem?_eq_some_iff.mp h).1
  have k1 := k_two h "row" "face" (t1 := xt_BadRow) (t2 := xt_BadFace) (b1 := false) (b2 := false) rfl rfl none none none
  have s1 : sAsgB 1 (kTwo "row" xt_BadRow "face" xt_BadFace) [some (.ref n), none, none, none] S = some (.nx [some (.ref n), some (.ref S.length), none, none] (S ++ [.lst ([(("row" : Str), false), ("face", false)].map prD)])) := by
    generalize kTwo "row" xt_BadRow "face" xt_BadFace = q at *
    generalize ([(("row" : Str), false), ("face", false)].map prD) = u at *
    simp only [x_bnd, x_bnS, x_c, x_var, x_varK, x_stl, x_stlV, x_stlL, x_stlE, x_stlD, x_bxd, x_bxV, x_bxK, x_okv, x_okm, x_d2, x_d2K, x_d2L, x_tst, x_tstK, x_ch, x_chK, x_chL, x_chMt, x_chMf, x_chN, x_and, x_andK, x_andT, x_andF, x_or, x_orK, x_orT, x_orF, x_not, x_notK, x_notL, x_tru, x_truK, x_truL, x_band, x_bandT, x_bandF, x_bor, x_borT, x_borF, x_bnot, x_bnotK, x_dif, x_difT, x_difF, x_anil, x_acons, x_aK, x_aL, x_tup, x_tupK, x_lst, x_lstK, x_cl, x_clK, x_fn, x_fnK, x_isi, x_isiK, x_isiL, x_neg, x_negK, x_revL, x_kget, x_kgetK, x_sl, x_slK, x_slL, x_pnone, x_psome, x_psK, x_mt, x_mtK, x_mtL, x_itA, x_itAK, x_itL, x_itSeq, x_seqK, x_itStr, x_istrK, x_comp, x_compK, x_compL, x_wipe1, x_wipe2, x_seq, x_sqN, x_sqR, x_sqB, x_sqC, x_next, x_ret, x_retK, x_retN, x_asg, x_asgB, x_asgK, x_drop, x_dropK, x_if, x_ifT, x_ifF, x_for, x_forK, x_tgt, x_tgtK, x_tgtL, x_tname, x_par, x_parK, x_dput, x_dputK, x_dputK1, x_dputK2, x_dputL, x_def, x_defR, x_defN, y_add, y_sub, y_mul, y_mulX, y_mod, y_fdiv, y_lt, y_le, y_gt, y_ge, y_eqI, y_eqS, y_neI, y_neS, y_eqYI, y_eqYS, y_neYI, y_neYS, y_ixT, y_ixL, y_trB, y_k0, y_k1, y_k2, y_k3, y_k4, y_k5, y_k6, y_lenT, y_lenL, y_lenS, startE, List.map_cons, List.map_nil, List.length_cons, List.length_nil, List.replicate, List.cons_append, List.nil_append, List.append_nil, Nat.sub_self, Nat.reduceSub, Nat.reduceAdd, Nat.reduceLeDiff, Nat.reduceEqDiff, Nat.zero_add, Nat.zero_le, Nat.sub_zero, List.set_cons_zero, List.set_cons_succ, List.getElem?_cons_zero, List.getElem?_cons_succ, Bool.not_true, Bool.not_false, decide_true, decide_false, k1]
  obtain ⟨S2, p2, s2, h2, q2, g2, l2⟩ := k_step (S0 := S) (Gr.push S _) (at_app h) (push_at S (.lst ([(("row" : Str), false), ("face", false)].map prD))) (Nat.le_of_ble_eq_true rfl) "making" "user" (t1 := xt_BadMaking) (t2 := xt_BadUser) (b1 := false) (b2 := false) rfl rfl none none
  obtain ⟨S3, p3, s3, h3, q3, g3, l3⟩ := k_step g2 h2 q2 (Nat.le_of_ble_eq_true rfl) "steps" "lead" (t1 := xt_BadSteps) (t2 := xt_BadLead) (b1 := false) (b2 := false) rfl rfl none none
  obtain ⟨S4, p4, s4, h4, q4, g4, l4⟩ := k_step g3 h3 q3 (Nat.le_of_ble_eq_true rfl) "apart" "place" (t1 := xt_ToldApart) (t2 := xt_OutOfPlace) (b1 := false) (b2 := true) rfl rfl none none
  obtain ⟨S5, p5, s5, h5, q5, g5, l5⟩ := k_step g4 h4 q4 (Nat.le_of_ble_eq_true rfl) "great" "paper" (t1 := xt_TooGreat) (t2 := xt_BadPaper) (b1 := false) (b2 := false) rfl rfl none none
  obtain ⟨S6, p6, s6, h6, q6, g6, l6⟩ := k_step g5 h5 q5 (Nat.le_of_ble_eq_true rfl) "program" "module" (t1 := xt_BadProgram) (t2 := xt_BadModule) (b1 := false) (b2 := false) rfl rfl none none
  obtain ⟨S7, p7, s7, h7, q7, g7, l7⟩ := k_step g6 h6 q6 (Nat.le_of_ble_eq_true rfl) "refused" "use" (t1 := xt_Refused) (t2 := xt_BadUse) (b1 := false) (b2 := false) rfl rfl none none
  have i8 := isx_at h7 (tbl := xt_BadInput) (b := false) rfl
  obtain ⟨S8, s8, h8, q8, g8⟩ := k_app g7 h7 q7 (by omega) l7 (Nat.le_of_ble_eq_true rfl) (f := kOne "input" xt_BadInput) (q := ("input", false)) none none (by
    simp only [kOne, x_bnd, x_bnS, x_c, x_var, x_varK, x_stl, x_stlV, x_stlL, x_stlE, x_stlD, x_bxd, x_bxV, x_bxK, x_okv, x_okm, x_d2, x_d2K, x_d2L, x_tst, x_tstK, x_ch, x_chK, x_chL, x_chMt, x_chMf, x_chN, x_and, x_andK, x_andT, x_andF, x_or, x_orK, x_orT, x_orF, x_not, x_notK, x_notL, x_tru, x_truK, x_truL, x_band, x_bandT, x_bandF, x_bor, x_borT, x_borF, x_bnot, x_bnotK, x_dif, x_difT, x_difF, x_anil, x_acons, x_aK, x_aL, x_tup, x_tupK, x_lst, x_lstK, x_cl, x_clK, x_fn, x_fnK, x_isi, x_isiK, x_isiL, x_neg, x_negK, x_revL, x_kget, x_kgetK, x_sl, x_slK, x_slL, x_pnone, x_psome, x_psK, x_mt, x_mtK, x_mtL, x_itA, x_itAK, x_itL, x_itSeq, x_seqK, x_itStr, x_istrK, x_comp, x_compK, x_compL, x_wipe1, x_wipe2, x_seq, x_sqN, x_sqR, x_sqB, x_sqC, x_next, x_ret, x_retK, x_retN, x_asg, x_asgB, x_asgK, x_drop, x_dropK, x_if, x_ifT, x_ifF, x_for, x_forK, x_tgt, x_tgtK, x_tgtL, x_tname, x_par, x_parK, x_dput, x_dputK, x_dputK1, x_dputK2, x_dputL, x_def, x_defR, x_defN, y_add, y_sub, y_mul, y_mulX, y_mod, y_fdiv, y_lt, y_le, y_gt, y_ge, y_eqI, y_eqS, y_neI, y_neS, y_eqYI, y_eqYS, y_neYI, y_neYS, y_ixT, y_ixL, y_trB, y_k0, y_k1, y_k2, y_k3, y_k4, y_k5, y_k6, y_lenT, y_lenL, y_lenS, startE, List.map_cons, List.map_nil, List.length_cons, List.length_nil, List.replicate, List.cons_append, List.nil_append, List.append_nil, Nat.sub_self, Nat.reduceSub, Nat.reduceAdd, Nat.reduceLeDiff, Nat.reduceEqDiff, Nat.zero_add, Nat.zero_le, Nat.sub_zero, List.set_cons_zero, List.set_cons_succ, List.getElem?_cons_zero, List.getElem?_cons_succ, Bool.not_true, Bool.not_false, decide_true, decide_false, x_isx, i8]
    rfl)
  have i9 := isx_at h8 (tbl := xt_ValueError) (b := true) rfl
  have i10 := isx_at h8 (tbl := xt_FaceError) (b := true) rfl
  obtain ⟨S9, s9, h9, q9, g9⟩ := k_app g8 h8 q8 (by omega) l7 (Nat.le_of_ble_eq_true rfl) (f := dTup (aCons (dC (.str "other")) (aCons (dOr (dNot (dIsX xt_ValueError (dVar 0))) (dNot (dIsX xt_FaceError (dVar 0)))) aNil))) (q := ("other", false)) none none (by
    simp only [x_bnd, x_bnS, x_c, x_var, x_varK, x_stl, x_stlV, x_stlL, x_stlE, x_stlD, x_bxd, x_bxV, x_bxK, x_okv, x_okm, x_d2, x_d2K, x_d2L, x_tst, x_tstK, x_ch, x_chK, x_chL, x_chMt, x_chMf, x_chN, x_and, x_andK, x_andT, x_andF, x_or, x_orK, x_orT, x_orF, x_not, x_notK, x_notL, x_tru, x_truK, x_truL, x_band, x_bandT, x_bandF, x_bor, x_borT, x_borF, x_bnot, x_bnotK, x_dif, x_difT, x_difF, x_anil, x_acons, x_aK, x_aL, x_tup, x_tupK, x_lst, x_lstK, x_cl, x_clK, x_fn, x_fnK, x_isi, x_isiK, x_isiL, x_neg, x_negK, x_revL, x_kget, x_kgetK, x_sl, x_slK, x_slL, x_pnone, x_psome, x_psK, x_mt, x_mtK, x_mtL, x_itA, x_itAK, x_itL, x_itSeq, x_seqK, x_itStr, x_istrK, x_comp, x_compK, x_compL, x_wipe1, x_wipe2, x_seq, x_sqN, x_sqR, x_sqB, x_sqC, x_next, x_ret, x_retK, x_retN, x_asg, x_asgB, x_asgK, x_drop, x_dropK, x_if, x_ifT, x_ifF, x_for, x_forK, x_tgt, x_tgtK, x_tgtL, x_tname, x_par, x_parK, x_dput, x_dputK, x_dputK1, x_dputK2, x_dputL, x_def, x_defR, x_defN, y_add, y_sub, y_mul, y_mulX, y_mod, y_fdiv, y_lt, y_le, y_gt, y_ge, y_eqI, y_eqS, y_neI, y_neS, y_eqYI, y_eqYS, y_neYI, y_neYS, y_ixT, y_ixL, y_trB, y_k0, y_k1, y_k2, y_k3, y_k4, y_k5, y_k6, y_lenT, y_lenL, y_lenS, startE, List.map_cons, List.map_nil, List.length_cons, List.length_nil, List.replicate, List.cons_append, List.nil_append, List.append_nil, Nat.sub_self, Nat.reduceSub, Nat.reduceAdd, Nat.reduceLeDiff, Nat.reduceEqDiff, Nat.zero_add, Nat.zero_le, Nat.sub_zero, List.set_cons_zero, List.set_cons_succ, List.getElem?_cons_zero, List.getElem?_cons_succ, Bool.not_true, Bool.not_false, decide_true, decide_false, x_isx, i9, i10]
    rfl)
  refine ⟨S9, ?_, g9⟩
  have s10 : kF [some (.ref n), some (.ref p7), none, none] S9 = some (.ok (.own (.lst [.str "place"])) S9) := k_done _ q9 (Nat.le_of_ble_eq_true rfl)
  have s11 : sRet kF [some (.ref n), some (.ref p7), none, none] S9 = some (.rt (.own (.lst [.str "place"])) S9) := by
    rw [x_ret, s10, x_bnS, x_retK]
  rw [den_k, x_def]
  show defK (sSeq _ _ [some (.ref n), none, none, none] S) = _
  rw [x_seq, s1, x_sqN, x_seq, s2, x_sqN, x_seq, s3, x_sqN, x_seq, s4, x_sqN, x_seq, s5, x_sqN, x_seq, s6, x_sqN, x_seq, s7, x_sqN, x_seq, s8, x_sqN, x_seq, s9, x_sqN, s11, x_defR]
/-! what is refused -/
def rfB : Sn := sIf (tst (d2 eqX (dVar 0) (dC (.int 0)))) (sDrop (dFn 2 den_takes_of (aCons (dVar 1) (aCons (dVar 2) aNil)))) (sDrop (dFn 2 den_gives_of (aCons (dVar 1) (aCons (dVar 2) aNil))))
noncomputable def rfR : Sn := sRet (dIf (tst (d2 isD (dVar 3) (dC .non))) (dC .non) (dFn 1 den_law_kinds (aCons (dVar 3) aNil)))
theorem den_rf : den_law_refused = defD 5 (sSeq (sAsg 3 (dC .non)) (sSeq (sTry tr_FaceError 4 3 rfB) rfR)) := rfl
theorem isn_ref (S : Sto) (m : Nat) : isD S (.ref m) .non = some (.val (.bl false)) := rfl
theorem e_refused {w p : Nat} (S : Sto) {f : Fc} (h : okF f) {d : D} (hf : Fit w p d) (hw : w ≤ 100000) (hd : ∀ s, d = .str s → s ∉ f.dd.map Dd.nm) (way : Int) : ∃ S', den_law_refused [.int way, f.d, d] S = some (.ok (.own (.lst [.str "place"])) S') ∧ Gr S S' := by
  obtain ⟨S1, e1, g1⟩ := takes_no S h hf hw hd
  obtain ⟨S1', e1', g1'⟩ := gives_no S h hf hw hd
  obtain ⟨S2, eb, g2⟩ : ∃ S2, rfB [some (.int way), some f.d, some d, some .non, none] S = some (.er erO [some (.int way), some f.d, some d, some .non, none] S2) ∧ Gr S S2 := by
    by_cases hz : way = 0
    · refine ⟨S1, ?_, g1⟩
      generalize f.d = fd at *
      simp only [rfB, x_bnd, x_bnS, x_c, x_var, x_varK, x_stl, x_stlV, x_stlL, x_stlE, x_stlD, x_bxd, x_bxV, x_bxK, x_okv, x_okm, x_d2, x_d2K, x_d2L, x_tst, x_tstK, x_ch, x_chK, x_chL, x_chMt, x_chMf, x_chN, x_and, x_andK, x_andT, x_andF, x_or, x_orK, x_orT, x_orF, x_not, x_notK, x_notL, x_tru, x_truK, x_truL, x_band, x_bandT, x_bandF, x_bor, x_borT, x_borF, x_bnot, x_bnotK, x_dif, x_difT, x_difF, x_anil, x_acons, x_aK, x_aL, x_tup, x_tupK, x_lst, x_lstK, x_cl, x_clK, x_fn, x_fnK, x_isi, x_isiK, x_isiL, x_neg, x_negK, x_revL, x_kget, x_kgetK, x_sl, x_slK, x_slL, x_pnone, x_psome, x_psK, x_mt, x_mtK, x_mtL, x_itA, x_itAK, x_itL, x_itSeq, x_seqK, x_itStr, x_istrK, x_comp, x_compK, x_compL, x_wipe1, x_wipe2, x_seq, x_sqN, x_sqR, x_sqB, x_sqC, x_next, x_ret, x_retK, x_retN, x_asg, x_asgB, x_asgK, x_drop, x_dropK, x_if, x_ifT, x_ifF, x_for, x_forK, x_tgt, x_tgtK, x_tgtL, x_tname, x_par, x_parK, x_dput, x_dputK, x_dputK1, x_dputK2, x_dputL, x_def, x_defR, x_defN, y_add, y_sub, y_mul, y_mulX, y_mod, y_fdiv, y_lt, y_le, y_gt, y_ge, y_eqI, y_eqS, y_neI, y_neS, y_eqYI, y_eqYS, y_neYI, y_neYS, y_ixT, y_ixL, y_trB, y_k0, y_k1, y_k2, y_k3, y_k4, y_k5, y_k6, y_lenT, y_lenL, y_lenS, startE, List.map_cons, List.map_nil, List.length_cons, List.length_nil, List.replicate, List.cons_append, List.nil_append, List.append_nil, Nat.sub_self, Nat.reduceSub, Nat.reduceAdd, Nat.reduceLeDiff, Nat.reduceEqDiff, Nat.zero_add, Nat.zero_le, Nat.sub_zero, List.set_cons_zero, List.set_cons_succ, List.getElem?_cons_zero, List.getElem?_cons_succ, Bool.not_true, Bool.not_false, decide_true, decide_false, decide_eq_true hz, e1, x_defEr]
    · refine ⟨S1', ?_, g1'⟩
      generalize f.d = fd at *
      simp only [rfB, x_bnd, x_bnS, x_c, x_var, x_varK, x_stl, x_stlV, x_stlL, x_stlE, x_stlD, x_bxd, x_bxV, x_bxK, x_okv, x_okm, x_d2, x_d2K, x_d2L, x_tst, x_tstK, x_ch, x_chK, x_chL, x_chMt, x_chMf, x_chN, x_and, x_andK, x_andT, x_andF, x_or, x_orK, x_orT, x_orF, x_not, x_notK, x_notL, x_tru, x_truK, x_truL, x_band, x_bandT, x_bandF, x_bor, x_borT, x_borF, x_bnot, x_bnotK, x_dif, x_difT, x_difF, x_anil, x_acons, x_aK, x_aL, x_tup, x_tupK, x_lst, x_lstK, x_cl, x_clK, x_fn, x_fnK, x_isi, x_isiK, x_isiL, x_neg, x_negK, x_revL, x_kget, x_kgetK, x_sl, x_slK, x_slL, x_pnone, x_psome, x_psK, x_mt, x_mtK, x_mtL, x_itA, x_itAK, x_itL, x_itSeq, x_seqK, x_itStr, x_istrK, x_comp, x_compK, x_compL, x_wipe1, x_wipe2, x_seq, x_sqN, x_sqR, x_sqB, x_sqC, x_next, x_ret, x_retK, x_retN, x_asg, x_asgB, x_asgK, x_drop, x_dropK, x_if, x_ifT, x_ifF, x_for, x_forK, x_tgt, x_tgtK, x_tgtL, x_tname, x_par, x_parK, x_dput, x_dputK, x_dputK1, x_dputK2, x_dputL, x_def, x_defR, x_defN, y_add, y_sub, y_mul, y_mulX, y_mod, y_fdiv, y_lt, y_le, y_gt, y_ge, y_eqI, y_eqS, y_neI, y_neS, y_eqYI, y_eqYS, y_neYI, y_neYS, y_ixT, y_ixL, y_trB, y_k0, y_k1, y_k2, y_k3, y_k4, y_k5, y_k6, y_lenT, y_lenL, y_lenS, startE, List.map_cons, List.map_nil, List.length_cons, List.length_nil, List.replicate, List.cons_append, List.nil_append, List.append_nil, Nat.sub_self, Nat.reduceSub, Nat.reduceAdd, Nat.reduceLeDiff, Nat.reduceEqDiff, Nat.zero_add, Nat.zero_le, Nat.sub_zero, List.set_cons_zero, List.set_cons_succ, List.getElem?_cons_zero, List.getElem?_cons_succ, Bool.not_true, Bool.not_false, decide_true, decide_false, decide_eq_false hz, e1', x_defEr]
  obtain ⟨S3, e3, g3⟩ := e_kinds (push_at S2 excO)
  refine ⟨S3, ?_, (g2.app _).trans g3⟩
  have s1 : sAsg 3 (dC .non) [some (.int way), some f.d, some d, none, none] S = some (.nx [some (.int way), some f.d, some d, some .non, none] S) := rfl
  have s2 : sTry tr_FaceError 4 3 rfB [some (.int way), some f.d, some d, some .non, none] S = some (.nx [some (.int way), some f.d, some d, some (.ref S2.length), none] (S2 ++ [excO])) := by
    unfold sTry
    rw [eb]
    rfl
  have s3 : rfR [some (.int way), some f.d, some d, some (.ref S2.length), none] (S2 ++ [excO]) = some (.rt (.own (.lst [.str "place"])) S3) := by
    generalize f.d = fd at *
    generalize S2 ++ [excO] = S4 at *
    generalize S2.length = n at *
    simp only [rfR, x_bnd, x_bnS, x_c, x_var, x_varK, x_stl, x_stlV, x_stlL, x_stlE, x_stlD, x_bxd, x_bxV, x_bxK, x_okv, x_okm, x_d2, x_d2K, x_d2L, x_tst, x_tstK, x_ch, x_chK, x_chL, x_chMt, x_chMf, x_chN, x_and, x_andK, x_andT, x_andF, x_or, x_orK, x_orT, x_orF, x_not, x_notK, x_notL, x_tru, x_truK, x_truL, x_band, x_bandT, x_bandF, x_bor, x_borT, x_borF, x_bnot, x_bnotK, x_dif, x_difT, x_difF, x_anil, x_acons, x_aK, x_aL, x_tup, x_tupK, x_lst, x_lstK, x_cl, x_clK, x_fn, x_fnK, x_isi, x_isiK, x_isiL, x_neg, x_negK, x_revL, x_kget, x_kgetK, x_sl, x_slK, x_slL, x_pnone, x_psome, x_psK, x_mt, x_mtK, x_mtL, x_itA, x_itAK, x_itL, x_itSeq, x_seqK, x_itStr, x_istrK, x_comp, x_compK, x_compL, x_wipe1, x_wipe2, x_seq, x_sqN, x_sqR, x_sqB, x_sqC, x_next, x_ret, x_retK, x_retN, x_asg, x_asgB, x_asgK, x_drop, x_dropK, x_if, x_ifT, x_ifF, x_for, x_forK, x_tgt, x_tgtK, x_tgtL, x_tname, x_par, x_parK, x_dput, x_dputK, x_dputK1, x_dputK2, x_dputL, x_def, x_defR, x_defN, y_add, y_sub, y_mul, y_mulX, y_mod, y_fdiv, y_lt, y_le, y_gt, y_ge, y_eqI, y_eqS, y_neI, y_neS, y_eqYI, y_eqYS, y_neYI, y_neYS, y_ixT, y_ixL, y_trB, y_k0, y_k1, y_k2, y_k3, y_k4, y_k5, y_k6, y_lenT, y_lenL, y_lenS, startE, List.map_cons, List.map_nil, List.length_cons, List.length_nil, List.replicate, List.cons_append, List.nil_append, List.append_nil, Nat.sub_self, Nat.reduceSub, Nat.reduceAdd, Nat.reduceLeDiff, Nat.reduceEqDiff, Nat.zero_add, Nat.zero_le, Nat.sub_zero, List.set_cons_zero, List.set_cons_succ, List.getElem?_cons_zero, List.getElem?_cons_succ, Bool.not_true, Bool.not_false, decide_true, decide_false, isn_ref, e3]
  rw [den_rf, x_def]
  show defK (sSeq _ _ [some (.int way), some f.d, some d, none, none] S) = _
  rw [x_seq, s1, x_sqN, x_seq, s2, x_sqN, s3, x_defR]
end W03
namespace W03
open Sf L2 PySem PySem.Spec PyProof.Rows
/-! all that is told of a face -/
def Fc.ns (f : Fc) : List Str := f.dd.map Dd.nm
theorem e_hid (S : Sto) {f : Fc} (h : okF f) : den_hidden_of [f.d] S = some (.ok (.own (.lst (f.hd.map .str))) S) := by
  have e1 := e_need S h
  have i0 := fc_ix0 S f
  generalize f.d = fd at *
  generalize f.hd.map D.str = hs at *
  simp only [den_hidden_of, x_bnd, x_bnS, x_c, x_var, x_varK, x_stl, x_stlV, x_stlL, x_stlE, x_stlD, x_bxd, x_bxV, x_bxK, x_okv, x_okm, x_d2, x_d2K, x_d2L, x_tst, x_tstK, x_ch, x_chK, x_chL, x_chMt, x_chMf, x_chN, x_and, x_andK, x_andT, x_andF, x_or, x_orK, x_orT, x_orF, x_not, x_notK, x_notL, x_tru, x_truK, x_truL, x_band, x_bandT, x_bandF, x_bor, x_borT, x_borF, x_bnot, x_bnotK, x_dif, x_difT, x_difF, x_anil, x_acons, x_aK, x_aL, x_tup, x_tupK, x_lst, x_lstK, x_cl, x_clK, x_fn, x_fnK, x_isi, x_isiK, x_isiL, x_neg, x_negK, x_revL, x_kget, x_kgetK, x_sl, x_slK, x_slL, x_pnone, x_psome, x_psK, x_mt, x_mtK, x_mtL, x_itA, x_itAK, x_itL, x_itSeq, x_seqK, x_itStr, x_istrK, x_comp, x_compK, x_compL, x_wipe1, x_wipe2, x_seq, x_sqN, x_sqR, x_sqB, x_sqC, x_next, x_ret, x_retK, x_retN, x_asg, x_asgB, x_asgK, x_drop, x_dropK, x_if, x_ifT, x_ifF, x_for, x_forK, x_tgt, x_tgtK, x_tgtL, x_tname, x_par, x_parK, x_dput, x_dputK, x_dputK1, x_dputK2, x_dputL, x_def, x_defR, x_defN, y_add, y_sub, y_mul, y_mulX, y_mod, y_fdiv, y_lt, y_le, y_gt, y_ge, y_eqI, y_eqS, y_neI, y_neS, y_eqYI, y_eqYS, y_neYI, y_neYS, y_ixT, y_ixL, y_trB, y_k0, y_k1, y_k2, y_k3, y_k4, y_k5, y_k6, y_lenT, y_lenL, y_lenS, startE, List.map_cons, List.map_nil, List.length_cons, List.length_nil, List.replicate, List.cons_append, List.nil_append, List.append_nil, Nat.sub_self, Nat.reduceSub, Nat.reduceAdd, Nat.reduceLeDiff, Nat.reduceEqDiff, Nat.zero_add, Nat.zero_le, Nat.sub_zero, List.set_cons_zero, List.set_cons_succ, List.getElem?_cons_zero, List.getElem?_cons_succ, Bool.not_true, Bool.not_false, decide_true, decide_false, e1, i0, y_listT]
theorem nm_map (f : Fc) : f.dd.map (fun x => D.str x.nm) = f.ns.map .str := by
  unfold Fc.ns
  rw [List.map_map]
  rfl
theorem e_nms (S : Sto) {f : Fc} (h : okF f) : den_names_of [f.d] S = some (.ok (.own (.lst (f.ns.map .str))) S) := by
  have e1 := e_need S h
  have i1 := fc_ix1 S f
  have lp := loop_tup [some f.d, none, none, none] (tTup (tsCons (tName 1) (tsCons (tName 2) (tsCons (tName 3) tsNil)))) Dd.d (fun x => .str x.nm) (dVar 1) f.dd 0 S
    (by have := h.d2; show 0 + f.dd.length ≤ 2 ^ 24; omega) (fun x _ => ⟨_, rfl, rfl⟩)
  rw [nm_map] at lp
  have w : wipeE [some f.d, none, none, none] [1, 2, 3] = [some f.d, none, none, none] := rfl
  generalize f.d = fd at *
  generalize f.ns.map D.str = nn at *
  generalize f.dd.map Dd.d = ds at *
  simp only [den_names_of, x_bnd, x_bnS, x_c, x_var, x_varK, x_stl, x_stlV, x_stlL, x_stlE, x_stlD, x_bxd, x_bxV, x_bxK, x_okv, x_okm, x_d2, x_d2K, x_d2L, x_tst, x_tstK, x_ch, x_chK, x_chL, x_chMt, x_chMf, x_chN, x_and, x_andK, x_andT, x_andF, x_or, x_orK, x_orT, x_orF, x_not, x_notK, x_notL, x_tru, x_truK, x_truL, x_band, x_bandT, x_bandF, x_bor, x_borT, x_borF, x_bnot, x_bnotK, x_dif, x_difT, x_difF, x_anil, x_acons, x_aK, x_aL, x_tup, x_tupK, x_lst, x_lstK, x_cl, x_clK, x_fn, x_fnK, x_isi, x_isiK, x_isiL, x_neg, x_negK, x_revL, x_kget, x_kgetK, x_sl, x_slK, x_slL, x_pnone, x_psome, x_psK, x_mt, x_mtK, x_mtL, x_itA, x_itAK, x_itL, x_itSeq, x_seqK, x_itStr, x_istrK, x_comp, x_compK, x_compL, x_wipe1, x_wipe2, x_seq, x_sqN, x_sqR, x_sqB, x_sqC, x_next, x_ret, x_retK, x_retN, x_asg, x_asgB, x_asgK, x_drop, x_dropK, x_if, x_ifT, x_ifF, x_for, x_forK, x_tgt, x_tgtK, x_tgtL, x_tname, x_par, x_parK, x_dput, x_dputK, x_dputK1, x_dputK2, x_dputL, x_def, x_defR, x_defN, y_add, y_sub, y_mul, y_mulX, y_mod, y_fdiv, y_lt, y_le, y_gt, y_ge, y_eqI, y_eqS, y_neI, y_neS, y_eqYI, y_eqYS, y_neYI, y_neYS, y_ixT, y_ixL, y_trB, y_k0, y_k1, y_k2, y_k3, y_k4, y_k5, y_k6, y_lenT, y_lenL, y_lenS, startE, List.map_cons, List.map_nil, List.length_cons, List.length_nil, List.replicate, List.cons_append, List.nil_append, List.append_nil, Nat.sub_self, Nat.reduceSub, Nat.reduceAdd, Nat.reduceLeDiff, Nat.reduceEqDiff, Nat.zero_add, Nat.zero_le, Nat.sub_zero, List.set_cons_zero, List.set_cons_succ, List.getElem?_cons_zero, List.getElem?_cons_succ, Bool.not_true, Bool.not_false, decide_true, decide_false, e1, i1, fix_T, w, lp]
theorem y_reprZ {w p : Nat} {S : Sto} {d e : D} (he : deep2 S d = e) (h : Fit w p e) (hw : w ≤ 500000) (hp : p ≤ 60) : reprZ S [d] = some (.val (.str e.py.shown)) := by
  obtain ⟨h1, h2, _⟩ := fit_all e h.fit
  have e2 := h.shown hw
  have e3 : e.py.depth ≤ 60 := Nat.le_trans h.dp hp
  subst he
  exact if_pos ⟨h1, h2, e3, e2⟩
theorem topd_kd (S : Sto) (k : Kd) : topd S k.d = k.d := by cases k <;> rfl
def lrT : Sn := sAsg 3 (dLst (aConsB (dFn 1 den_hidden_of (aCons (dVar 0) aNil)) (aConsB (dFn 1 den_names_of (aCons (dVar 0) aNil)) aNil)))
def lrQ : Sn := sIf (bOr (tst (d2 neX (dCl reprZ (aCons (dVar 3) aNil)) (dCl reprZ (aCons (dLst (aCons (dCl listD (aCons (d2 ixD (dVar 0) (dC (.int 0))) aNil)) (aCons (dVar 1) aNil))) aNil)))) (bOr (tst (d2 isNotD (dFn 1 den_need_face (aCons (dVar 0) aNil)) (dC .non))) (tst (d2 isNotD (dFn 1 den_is_face (aCons (dVar 0) aNil)) (dC (.bl true)))))) (sRet (dC (.bl false))) sNext
def lrX (i : Int) : Sn := sDrop (dMt "list" appD (d2 ixD (dVar 3) (dC (.int i))) (aCons (dC (.str "x")) aNil))
def lrD : Sn := sIf (tst (d2 neX (dCl reprZ (aCons (dLst (aCons (dFn 2 den_takes_of (aCons (dVar 0) (aCons (dVar 5) aNil))) (aCons (dFn 2 den_gives_of (aCons (dVar 0) (aCons (dVar 5) aNil))) aNil))) aNil)) (dCl reprZ (aCons (dLst (aCons (dVar 6) (aCons (dVar 7) aNil))) aNil)))) (sRet (dC (.bl false))) sNext
def lrF : Sn := sFor (itSeq (d2 ixD (dVar 0) (dC (.int 1)))) (tTup (tsCons (tName 5) (tsCons (tName 6) (tsCons (tName 7) tsNil)))) lrD
def lrS : Sn := sSeq lrT (sSeq lrQ (sSeq (lrX 0) (sSeq (lrX 1) lrF)))
def lrN : Sn := sAsg 1 (dComp (itSeq (d2 ixD (dVar 0) (dC (.int 1)))) (tName 4) bYes (d2 ixD (dVar 4) (dC (.int 0))) [4])
theorem den_lr : den_law_right = defD 8 (sSeq lrN (sSeq (sFor (itA range1D (aCons (dC (.int 2)) aNil)) (tName 2) lrS) (sRet (dC (.bl true))))) := rfl
theorem x_aconsB (f : Dn Out) (g : Dn (List D)) (ρ : En) (S : Sto) : aConsB f g ρ S = bnd (bxd f ρ S) (aK g ρ) := rfl
theorem lr_d (S : Sto) {f : Fc} (h : okF f) {x : Dd} (hx : x ∈ f.dd) (x1 x2 x3 x4 : Option D) : ∃ S', lrD [some f.d, x1, x2, x3, x4, some (.str x.nm), some (.tup (x.tk.map Kd.d)), some x.gv.d] S = some (.nx [some f.d, x1, x2, x3, x4, some (.str x.nm), some (.tup (x.tk.map Kd.d)), some x.gv.d] S') ∧ Gr S S' := by
  obtain ⟨S1, e1, g1⟩ := takes_in S h hx
  obtain ⟨S2, e2, g2⟩ := gives_in S1 h hx
  have ft : Fit 60 2 (.lst [.tup (x.tk.map Kd.d), x.gv.d]) := (FitL.cons (tk_fit h.hn (h.dn x hx)) (FitL.cons ((kd_fit h.hn (h.dn x hx).gv).mono (Nat.le_refl _) (Nat.zero_le 1)) (FitL.nil (w := 0)))).lst.mono (by decide) (by decide)
  have tk := topd_kd S2 x.gv
  have dz : deep2 S2 (.lst [.tup (x.tk.map Kd.d), x.gv.d]) = .lst [.tup (x.tk.map Kd.d), x.gv.d] := by
    show D.lst [topd S2 (.tup (x.tk.map Kd.d)), topd S2 x.gv.d] = _
    rw [tk]
    rfl
  have rz := y_reprZ dz ft (by decide) (by decide)
  refine ⟨S2, ?_, g1.trans g2⟩
  generalize (D.lst [.tup (x.tk.map Kd.d), x.gv.d]).py.shown = sh at *
  generalize f.d = fd at *
  generalize x.tk.map Kd.d = ts at *
  generalize x.gv.d = gd at *
  simp only [lrD, x_bnd, x_bnS, x_c, x_var, x_varK, x_stl, x_stlV, x_stlL, x_stlE, x_stlD, x_bxd, x_bxV, x_bxK, x_okv, x_okm, x_d2, x_d2K, x_d2L, x_tst, x_tstK, x_ch, x_chK, x_chL, x_chMt, x_chMf, x_chN, x_and, x_andK, x_andT, x_andF, x_or, x_orK, x_orT, x_orF, x_not, x_notK, x_notL, x_tru, x_truK, x_truL, x_band, x_bandT, x_bandF, x_bor, x_borT, x_borF, x_bnot, x_bnotK, x_dif, x_difT, x_difF, x_anil, x_acons, x_aK, x_aL, x_tup, x_tupK, x_lst, x_lstK, x_cl, x_clK, x_fn, x_fnK, x_isi, x_isiK, x_isiL, x_neg, x_negK, x_revL, x_kget, x_kgetK, x_sl, x_slK, x_slL, x_pnone, x_psome, x_psK, x_mt, x_mtK, x_mtL, x_itA, x_itAK, x_itL, x_itSeq, x_seqK, x_itStr, x_istrK, x_comp, x_compK, x_compL, x_wipe1, x_wipe2, x_seq, x_sqN, x_sqR, x_sqB, x_sqC, x_next, x_ret, x_retK, x_retN, x_asg, x_asgB, x_asgK, x_drop, x_dropK, x_if, x_ifT, x_ifF, x_for, x_forK, x_tgt, x_tgtK, x_tgtL, x_tname, x_par, x_parK, x_dput, x_dputK, x_dputK1, x_dputK2, x_dputL, x_def, x_defR, x_defN, y_add, y_sub, y_mul, y_mulX, y_mod, y_fdiv, y_lt, y_le, y_gt, y_ge, y_eqI, y_eqS, y_neI, y_neS, y_eqYI, y_eqYS, y_neYI, y_neYS, y_ixT, y_ixL, y_trB, y_k0, y_k1, y_k2, y_k3, y_k4, y_k5, y_k6, y_lenL, y_lenS, startE, List.map_cons, List.map_nil, List.length_cons, List.length_nil, List.replicate, List.cons_append, List.nil_append, List.append_nil, Nat.sub_self, Nat.reduceSub, Nat.reduceAdd, Nat.reduceLeDiff, Nat.reduceEqDiff, Nat.zero_add, Nat.zero_le, Nat.sub_zero, List.set_cons_zero, List.set_cons_succ, List.getElem?_cons_zero, List.getElem?_cons_succ, Bool.not_true, Bool.not_false, decide_true, decide_false, Int.reduceEq, Int.reduceLT, Int.reduceLE, Int.reduceSub, Int.reduceAdd, eq_self, Option.map_some, e1, e2, rz]
theorem lr_loop {f : Fc} (h : okF f) (x1 x2 x3 x4 : Option D) : ∀ (l : List Dd) (S : Sto) (x5 x6 x7 : Option D), (∀ x ∈ l, x ∈ f.dd) → ∃ S' x5' x6' x7', loopS (tTup (tsCons (tName 5) (tsCons (tName 6) (tsCons (tName 7) tsNil)))) lrD (l.map Dd.d) [some f.d, x1, x2, x3, x4, x5, x6, x7] S = some (.nx [some f.d, x1, x2, x3, x4, x5', x6', x7'] S') ∧ Gr S S'
  | [], S, x5, x6, x7, _ => ⟨S, x5, x6, x7, rfl, Gr.refl S⟩
  | x :: l, S, x5, x6, x7, hl => by
    obtain ⟨S1, e1, g1⟩ := lr_d S h (hl x List.mem_cons_self) x1 x2 x3 x4
    obtain ⟨S2, y5, y6, y7, e2, g2⟩ := lr_loop h x1 x2 x3 x4 l S1 (some (.str x.nm)) (some (.tup (x.tk.map Kd.d))) (some x.gv.d) fun y hy => hl y (List.mem_cons_of_mem _ hy)
    exact ⟨S2, y5, y6, y7, ls_cons rfl e1 e2, g1.trans g2⟩
theorem told_fit {f : Fc} (h : okF f) : Fit 200 3 (.lst [.lst (f.hd.map .str), .lst (f.ns.map .str)]) := by
  have f1 := fitL_map (g := D.str) (w := 8) (p := 0) f.hd fun s hs => n_fit (h.hn s hs)
  have f2 := fitL_map (g := D.str) (w := 8) (p := 0) f.ns fun s hs => by
    obtain ⟨x, hx, rfl⟩ := List.mem_map.mp hs
    exact n_fit (h.dn x hx).nm
  have l1 : f.hd.length * (8 + 1) ≤ 2 * 9 := Nat.mul_le_mul h.h2 (by decide)
  have l2 : f.ns.length * (8 + 1) ≤ 8 * 9 := Nat.mul_le_mul (by unfold Fc.ns; rw [List.length_map]; exact h.d2) (by decide)
  exact (FitL.cons (f1.mono l1 (Nat.le_refl _)).lst (FitL.cons (f2.mono l2 (Nat.le_refl _)).lst (FitL.nil (w := 0)))).lst.mono (by decide) (by decide)
theorem is_tt (S : Sto) : isNotD S (.bl true) (.bl true) = some (.val (.bl false)) := rfl
theorem topd_box {S : Sto} {n : Nat} {ds : List D} (h : S[n]? = some (.lst ds)) : topd S (.ref n) = .lst ds := by simp only [topd, h]
theorem lr_s (S : Sto) {f : Fc} (h : okF f) (x2 x3 x4 x5 x6 x7 : Option D) : ∃ S' x3' x5' x6' x7', lrS [some f.d, some (.lst (f.ns.map .str)), x2, x3, x4, x5, x6, x7] S = some (.nx [some f.d, some (.lst (f.ns.map .str)), x2, x3', x4, x5', x6', x7'] S') ∧ Gr S S' := by
  have eh := e_hid S h
  have en := e_nms (S ++ [.lst (f.hd.map .str)]) h
  have q1 : ((S ++ [Ob.lst (f.hd.map .str)]) ++ [Ob.lst (f.ns.map .str)])[S.length]? = some (.lst (f.hd.map .str)) := at_app (push_at S _)
  have q2 := push_at (S ++ [Ob.lst (f.hd.map .str)]) (.lst (f.ns.map .str))
  have l1 : (S ++ [Ob.lst (f.hd.map .str)]).length = S.length + 1 := by
    rw [List.length_append]
    rfl
  rw [l1] at q2
  have g0 : Gr S ((S ++ [Ob.lst (f.hd.map .str)]) ++ [Ob.lst (f.ns.map .str)]) := (Gr.push S _).app _
  have s1 : lrT [some f.d, some (.lst (f.ns.map .str)), x2, x3, x4, x5, x6, x7] S = some (.nx [some f.d, some (.lst (f.ns.map .str)), x2, some (.lst [.ref S.length, .ref (S.length + 1)]), x4, x5, x6, x7] ((S ++ [Ob.lst (f.hd.map .str)]) ++ [Ob.lst (f.ns.map .str)])) := by
    rw [← l1]
    generalize f.d = fd at *
    generalize f.hd.map D.str = hs at *
    generalize f.ns.map D.str = nn at *
    simp only [lrT, x_aconsB, x_bnd, x_bnS, x_c, x_var, x_varK, x_stl, x_stlV, x_stlL, x_stlE, x_stlD, x_bxd, x_bxV, x_bxK, x_okv, x_okm, x_d2, x_d2K, x_d2L, x_tst, x_tstK, x_ch, x_chK, x_chL, x_chMt, x_chMf, x_chN, x_and, x_andK, x_andT, x_andF, x_or, x_orK, x_orT, x_orF, x_not, x_notK, x_notL, x_tru, x_truK, x_truL, x_band, x_bandT, x_bandF, x_bor, x_borT, x_borF, x_bnot, x_bnotK, x_dif, x_difT, x_difF, x_anil, x_acons, x_aK, x_aL, x_tup, x_tupK, x_lst, x_lstK, x_cl, x_clK, x_fn, x_fnK, x_isi, x_isiK, x_isiL, x_neg, x_negK, x_revL, x_kget, x_kgetK, x_sl, x_slK, x_slL, x_pnone, x_psome, x_psK, x_mt, x_mtK, x_mtL, x_itA, x_itAK, x_itL, x_itSeq, x_seqK, x_itStr, x_istrK, x_comp, x_compK, x_compL, x_wipe1, x_wipe2, x_seq, x_sqN, x_sqR, x_sqB, x_sqC, x_next, x_ret, x_retK, x_retN, x_asg, x_asgB, x_asgK, x_drop, x_dropK, x_if, x_ifT, x_ifF, x_for, x_forK, x_tgt, x_tgtK, x_tgtL, x_tname, x_par, x_parK, x_dput, x_dputK, x_dputK1, x_dputK2, x_dputL, x_def, x_defR, x_defN, y_add, y_sub, y_mul, y_mulX, y_mod, y_fdiv, y_lt, y_le, y_gt, y_ge, y_eqI, y_eqS, y_neI, y_neS, y_eqYI, y_eqYS, y_neYI, y_neYS, y_ixT, y_ixL, y_trB, y_k0, y_k1, y_k2, y_k3, y_k4, y_k5, y_k6, y_lenT, y_lenL, y_lenS, startE, List.map_cons, List.map_nil, List.length_cons, List.length_nil, List.replicate, List.cons_append, List.nil_append, List.append_nil, Nat.sub_self, Nat.reduceSub, Nat.reduceAdd, Nat.reduceLeDiff, Nat.reduceEqDiff, Nat.zero_add, Nat.zero_le, Nat.sub_zero, List.set_cons_zero, List.set_cons_succ, List.getElem?_cons_zero, List.getElem?_cons_succ, Bool.not_true, Bool.not_false, decide_true, decide_false, eh, en]
  generalize (S ++ [Ob.lst (f.hd.map .str)]) ++ [Ob.lst (f.ns.map .str)] = S1 at *
  have dz : deep2 S1 (.lst [.ref S.length, .ref (S.length + 1)]) = .lst [.lst (f.hd.map .str), .lst (f.ns.map .str)] := by
    show D.lst [topd S1 (.ref S.length), topd S1 (.ref (S.length + 1))] = _
    rw [topd_box q1, topd_box q2]
  have dz2 : deep2 S1 (.lst [.lst (f.hd.map .str), .lst (f.ns.map .str)]) = .lst [.lst (f.hd.map .str), .lst (f.ns.map .str)] := rfl
  have r1 := y_reprZ dz (told_fit h) (by decide) (by decide)
  have r2 := y_reprZ dz2 (told_fit h) (by decide) (by decide)
  have i0 := fc_ix0 S1 f
  have nf := e_need S1 h
  have isf := e_isf S1 h
  have s2 : lrQ [some f.d, some (.lst (f.ns.map .str)), x2, some (.lst [.ref S.length, .ref (S.length + 1)]), x4, x5, x6, x7] S1 = some (.nx [some f.d, some (.lst (f.ns.map .str)), x2, some (.lst [.ref S.length, .ref (S.length + 1)]), x4, x5, x6, x7] S1) := by
    generalize (D.lst [.lst (f.hd.map .str), .lst (f.ns.map .str)]).py.shown = sh at *
    generalize f.d = fd at *
    generalize f.hd.map D.str = hs at *
    generalize f.ns.map D.str = nn at *
    generalize S.length = n at *
    simp only [lrQ, x_bnd, x_bnS, x_c, x_var, x_varK, x_stl, x_stlV, x_stlL, x_stlE, x_stlD, x_bxd, x_bxV, x_bxK, x_okv, x_okm, x_d2, x_d2K, x_d2L, x_tst, x_tstK, x_ch, x_chK, x_chL, x_chMt, x_chMf, x_chN, x_and, x_andK, x_andT, x_andF, x_or, x_orK, x_orT, x_orF, x_not, x_notK, x_notL, x_tru, x_truK, x_truL, x_band, x_bandT, x_bandF, x_bor, x_borT, x_borF, x_bnot, x_bnotK, x_dif, x_difT, x_difF, x_anil, x_acons, x_aK, x_aL, x_tup, x_tupK, x_lst, x_lstK, x_cl, x_clK, x_fn, x_fnK, x_isi, x_isiK, x_isiL, x_neg, x_negK, x_revL, x_kget, x_kgetK, x_sl, x_slK, x_slL, x_pnone, x_psome, x_psK, x_mt, x_mtK, x_mtL, x_itA, x_itAK, x_itL, x_itSeq, x_seqK, x_itStr, x_istrK, x_comp, x_compK, x_compL, x_wipe1, x_wipe2, x_seq, x_sqN, x_sqR, x_sqB, x_sqC, x_next, x_ret, x_retK, x_retN, x_asg, x_asgB, x_asgK, x_drop, x_dropK, x_if, x_ifT, x_ifF, x_for, x_forK, x_tgt, x_tgtK, x_tgtL, x_tname, x_par, x_parK, x_dput, x_dputK, x_dputK1, x_dputK2, x_dputL, x_def, x_defR, x_defN, y_add, y_sub, y_mul, y_mulX, y_mod, y_fdiv, y_lt, y_le, y_gt, y_ge, y_eqI, y_eqS, y_neI, y_neS, y_eqYI, y_eqYS, y_neYI, y_neYS, y_ixT, y_ixL, y_trB, y_k0, y_k1, y_k2, y_k3, y_k4, y_k5, y_k6, y_lenL, y_lenS, startE, List.map_cons, List.map_nil, List.length_cons, List.length_nil, List.replicate, List.cons_append, List.nil_append, List.append_nil, Nat.sub_self, Nat.reduceSub, Nat.reduceAdd, Nat.reduceLeDiff, Nat.reduceEqDiff, Nat.zero_add, Nat.zero_le, Nat.sub_zero, List.set_cons_zero, List.set_cons_succ, List.getElem?_cons_zero, List.getElem?_cons_succ, Bool.not_true, Bool.not_false, decide_true, decide_false, Int.reduceEq, Int.reduceLT, Int.reduceLE, Int.reduceSub, Int.reduceAdd, eq_self, Option.map_some, r1, r2, i0, y_listT, nf, isf, is_nn, is_tt]
  have ap1 := app_box q1 (.str "x") (by rw [List.length_map]; have := h.h2; omega)
  have ty1 := ty_box q1
  have q3 : (S1.set S.length (.lst (f.hd.map .str ++ [.str "x"])))[S.length + 1]? = some (.lst (f.ns.map .str)) := at_set q2 (by omega)
  have ap2 := app_box q3 (.str "x") (by unfold Fc.ns; rw [List.length_map, List.length_map]; have := h.d2; omega)
  have ty2 := ty_box q3
  have a0 : ∀ n m : Nat, atI [D.ref n, .ref m] 0 = some (.ref n) := fun _ _ => rfl
  have a1 : ∀ n m : Nat, atI [D.ref n, .ref m] 1 = some (.ref m) := fun _ _ => rfl
  have s3 : lrX 0 [some f.d, some (.lst (f.ns.map .str)), x2, some (.lst [.ref S.length, .ref (S.length + 1)]), x4, x5, x6, x7] S1 = some (.nx [some f.d, some (.lst (f.ns.map .str)), x2, some (.lst [.ref S.length, .ref (S.length + 1)]), x4, x5, x6, x7] (S1.set S.length (.lst (f.hd.map .str ++ [.str "x"])))) := by
    generalize f.d = fd at *
    generalize f.hd.map D.str ++ [.str "x"] = hx at *
    generalize f.ns.map D.str = nn at *
    generalize S.length = n at *
    simp only [lrX, x_bnd, x_bnS, x_c, x_var, x_varK, x_stl, x_stlV, x_stlL, x_stlE, x_stlD, x_bxd, x_bxV, x_bxK, x_okv, x_okm, x_d2, x_d2K, x_d2L, x_tst, x_tstK, x_ch, x_chK, x_chL, x_chMt, x_chMf, x_chN, x_and, x_andK, x_andT, x_andF, x_or, x_orK, x_orT, x_orF, x_not, x_notK, x_notL, x_tru, x_truK, x_truL, x_band, x_bandT, x_bandF, x_bor, x_borT, x_borF, x_bnot, x_bnotK, x_dif, x_difT, x_difF, x_anil, x_acons, x_aK, x_aL, x_tup, x_tupK, x_lst, x_lstK, x_cl, x_clK, x_fn, x_fnK, x_isi, x_isiK, x_isiL, x_neg, x_negK, x_revL, x_kget, x_kgetK, x_sl, x_slK, x_slL, x_pnone, x_psome, x_psK, x_mt, x_mtK, x_mtL, x_itA, x_itAK, x_itL, x_itSeq, x_seqK, x_itStr, x_istrK, x_comp, x_compK, x_compL, x_wipe1, x_wipe2, x_seq, x_sqN, x_sqR, x_sqB, x_sqC, x_next, x_ret, x_retK, x_retN, x_asg, x_asgB, x_asgK, x_drop, x_dropK, x_if, x_ifT, x_ifF, x_for, x_forK, x_tgt, x_tgtK, x_tgtL, x_tname, x_par, x_parK, x_dput, x_dputK, x_dputK1, x_dputK2, x_dputL, x_def, x_defR, x_defN, y_add, y_sub, y_mul, y_mulX, y_mod, y_fdiv, y_lt, y_le, y_gt, y_ge, y_eqI, y_eqS, y_neI, y_neS, y_eqYI, y_eqYS, y_neYI, y_neYS, y_ixT, y_ixL, y_trB, y_k0, y_k1, y_k2, y_k3, y_k4, y_k5, y_k6, y_lenL, y_lenS, startE, List.map_cons, List.map_nil, List.length_cons, List.length_nil, List.replicate, List.cons_append, List.nil_append, List.append_nil, Nat.sub_self, Nat.reduceSub, Nat.reduceAdd, Nat.reduceLeDiff, Nat.reduceEqDiff, Nat.zero_add, Nat.zero_le, Nat.sub_zero, List.set_cons_zero, List.set_cons_succ, List.getElem?_cons_zero, List.getElem?_cons_succ, Bool.not_true, Bool.not_false, decide_true, decide_false, Int.reduceEq, Int.reduceLT, Int.reduceLE, Int.reduceSub, Int.reduceAdd, eq_self, Option.map_some, y_ixF, a0, ty1, ap1]
  have g1 : Gr S (S1.set S.length (.lst (f.hd.map .str ++ [.str "x"]))) := g0.set (Nat.le_refl _) _
  generalize S1.set S.length (.lst (f.hd.map .str ++ [.str "x"])) = S2 at *
  have s4 : lrX 1 [some f.d, some (.lst (f.ns.map .str)), x2, some (.lst [.ref S.length, .ref (S.length + 1)]), x4, x5, x6, x7] S2 = some (.nx [some f.d, some (.lst (f.ns.map .str)), x2, some (.lst [.ref S.length, .ref (S.length + 1)]), x4, x5, x6, x7] (S2.set (S.length + 1) (.lst (f.ns.map .str ++ [.str "x"])))) := by
    generalize f.d = fd at *
    generalize f.ns.map D.str ++ [.str "x"] = nx at *
    generalize f.ns.map D.str = nn at *
    generalize S.length + 1 = m at *
    generalize S.length = n at *
    simp only [lrX, x_bnd, x_bnS, x_c, x_var, x_varK, x_stl, x_stlV, x_stlL, x_stlE, x_stlD, x_bxd, x_bxV, x_bxK, x_okv, x_okm, x_d2, x_d2K, x_d2L, x_tst, x_tstK, x_ch, x_chK, x_chL, x_chMt, x_chMf, x_chN, x_and, x_andK, x_andT, x_andF, x_or, x_orK, x_orT, x_orF, x_not, x_notK, x_notL, x_tru, x_truK, x_truL, x_band, x_bandT, x_bandF, x_bor, x_borT, x_borF, x_bnot, x_bnotK, x_dif, x_difT, x_difF, x_anil, x_acons, x_aK, x_aL, x_tup, x_tupK, x_lst, x_lstK, x_cl, x_clK, x_fn, x_fnK, x_isi, x_isiK, x_isiL, x_neg, x_negK, x_revL, x_kget, x_kgetK, x_sl, x_slK, x_slL, x_pnone, x_psome, x_psK, x_mt, x_mtK, x_mtL, x_itA, x_itAK, x_itL, x_itSeq, x_seqK, x_itStr, x_istrK, x_comp, x_compK, x_compL, x_wipe1, x_wipe2, x_seq, x_sqN, x_sqR, x_sqB, x_sqC, x_next, x_ret, x_retK, x_retN, x_asg, x_asgB, x_asgK, x_drop, x_dropK, x_if, x_ifT, x_ifF, x_for, x_forK, x_tgt, x_tgtK, x_tgtL, x_tname, x_par, x_parK, x_dput, x_dputK, x_dputK1, x_dputK2, x_dputL, x_def, x_defR, x_defN, y_add, y_sub, y_mul, y_mulX, y_mod, y_fdiv, y_lt, y_le, y_gt, y_ge, y_eqI, y_eqS, y_neI, y_neS, y_eqYI, y_eqYS, y_neYI, y_neYS, y_ixT, y_ixL, y_trB, y_k0, y_k1, y_k2, y_k3, y_k4, y_k5, y_k6, y_lenL, y_lenS, startE, List.map_cons, List.map_nil, List.length_cons, List.length_nil, List.replicate, List.cons_append, List.nil_append, List.append_nil, Nat.sub_self, Nat.reduceSub, Nat.reduceAdd, Nat.reduceLeDiff, Nat.reduceEqDiff, Nat.zero_add, Nat.zero_le, Nat.sub_zero, List.set_cons_zero, List.set_cons_succ, List.getElem?_cons_zero, List.getElem?_cons_succ, Bool.not_true, Bool.not_false, decide_true, decide_false, Int.reduceEq, Int.reduceLT, Int.reduceLE, Int.reduceSub, Int.reduceAdd, eq_self, Option.map_some, y_ixF, a1, ty2, ap2]
  have g2 : Gr S (S2.set (S.length + 1) (.lst (f.ns.map .str ++ [.str "x"]))) := g1.set (by omega) _
  generalize S2.set (S.length + 1) (.lst (f.ns.map .str ++ [.str "x"])) = S3 at *
  obtain ⟨S4, y5, y6, y7, lp, g4⟩ := lr_loop h (some (.lst (f.ns.map .str))) x2 (some (.lst [.ref S.length, .ref (S.length + 1)])) x4 f.dd S3 x5 x6 x7 fun _ hx => hx
  have it : itSeq (d2 ixD (dVar 0) (dC (.int 1))) [some f.d, some (.lst (f.ns.map .str)), x2, some (.lst [.ref S.length, .ref (S.length + 1)]), x4, x5, x6, x7] S3 = some (.ok (f.dd.map Dd.d) S3) := by
    have i1 := fc_ix1 S3 f
    clear lp
    generalize f.dd.map Dd.d = ds at *
    generalize f.d = fd at *
    simp only [x_bnd, x_bnS, x_c, x_var, x_varK, x_stl, x_stlV, x_stlL, x_stlE, x_stlD, x_bxd, x_bxV, x_bxK, x_okv, x_okm, x_d2, x_d2K, x_d2L, x_tst, x_tstK, x_ch, x_chK, x_chL, x_chMt, x_chMf, x_chN, x_and, x_andK, x_andT, x_andF, x_or, x_orK, x_orT, x_orF, x_not, x_notK, x_notL, x_tru, x_truK, x_truL, x_band, x_bandT, x_bandF, x_bor, x_borT, x_borF, x_bnot, x_bnotK, x_dif, x_difT, x_difF, x_anil, x_acons, x_aK, x_aL, x_tup, x_tupK, x_lst, x_lstK, x_cl, x_clK, x_fn, x_fnK, x_isi, x_isiK, x_isiL, x_neg, x_negK, x_revL, x_kget, x_kgetK, x_sl, x_slK, x_slL, x_pnone, x_psome, x_psK, x_mt, x_mtK, x_mtL, x_itA, x_itAK, x_itL, x_itSeq, x_seqK, x_itStr, x_istrK, x_comp, x_compK, x_compL, x_wipe1, x_wipe2, x_seq, x_sqN, x_sqR, x_sqB, x_sqC, x_next, x_ret, x_retK, x_retN, x_asg, x_asgB, x_asgK, x_drop, x_dropK, x_if, x_ifT, x_ifF, x_for, x_forK, x_tgt, x_tgtK, x_tgtL, x_tname, x_par, x_parK, x_dput, x_dputK, x_dputK1, x_dputK2, x_dputL, x_def, x_defR, x_defN, y_add, y_sub, y_mul, y_mulX, y_mod, y_fdiv, y_lt, y_le, y_gt, y_ge, y_eqI, y_eqS, y_neI, y_neS, y_eqYI, y_eqYS, y_neYI, y_neYS, y_ixT, y_ixL, y_trB, y_k0, y_k1, y_k2, y_k3, y_k4, y_k5, y_k6, y_lenT, y_lenL, y_lenS, startE, List.map_cons, List.map_nil, List.length_cons, List.length_nil, List.replicate, List.cons_append, List.nil_append, List.append_nil, Nat.sub_self, Nat.reduceSub, Nat.reduceAdd, Nat.reduceLeDiff, Nat.reduceEqDiff, Nat.zero_add, Nat.zero_le, Nat.sub_zero, List.set_cons_zero, List.set_cons_succ, List.getElem?_cons_zero, List.getElem?_cons_succ, Bool.not_true, Bool.not_false, decide_true, decide_false, i1, fix_T]
  refine ⟨S4, some (.lst [.ref S.length, .ref (S.length + 1)]), y5, y6, y7, ?_, g2.trans g4⟩
  unfold lrS
  rw [x_seq, s1, x_sqN, x_seq, s2, x_sqN, x_seq, s3, x_sqN, x_seq, s4, x_sqN]
  unfold lrF
  rw [x_for, it, x_bnS, x_forK, lp]
theorem lr_again {f : Fc} (h : okF f) (x4 : Option D) : ∀ (xs : List D) (S : Sto) (x2 x3 x5 x6 x7 : Option D), ∃ S' x2' x3' x5' x6' x7', loopS (tName 2) lrS xs [some f.d, some (.lst (f.ns.map .str)), x2, x3, x4, x5, x6, x7] S = some (.nx [some f.d, some (.lst (f.ns.map .str)), x2', x3', x4, x5', x6', x7'] S') ∧ Gr S S'
  | [], S, x2, x3, x5, x6, x7 => ⟨S, x2, x3, x5, x6, x7, rfl, Gr.refl S⟩
  | x :: xs, S, x2, x3, x5, x6, x7 => by
    obtain ⟨S1, y3, y5, y6, y7, e1, g1⟩ := lr_s S h (some x) x3 x4 x5 x6 x7
    obtain ⟨S2, z2, z3, z5, z6, z7, e2, g2⟩ := lr_again h x4 xs S1 (some x) y3 y5 y6 y7
    exact ⟨S2, z2, z3, z5, z6, z7, ls_cons rfl e1 e2, g1.trans g2⟩
theorem nm_comp (S : Sto) {f : Fc} (h : okF f) (ρ : En) (i : Nat) (hi : i < ρ.length) : loopC (tName i) bYes (d2 ixD (dVar i) (dC (.int 0))) ρ (f.dd.map Dd.d) 0 S = some (f.ns.map .str, S) := by
  have lp := loop_gen ρ Dd.d (fun x => D.str x.nm) (d2 ixD (dVar i) (dC (.int 0))) i f.dd 0 S (by have := h.d2; show 0 + f.dd.length ≤ 2 ^ 24; omega) (fun x _ => by
    have v : stl (dVar i) (ρ.set i (some x.d)) S = some (.ok x.d S) := by
      rw [x_stl, x_var, List.getElem?_set_self hi]
      rfl
    have c : stl (dC (.int 0)) (ρ.set i (some x.d)) S = some (.ok (.int 0) S) := rfl
    rw [x_d2, v, x_bnd, x_d2K, c, x_bnd, x_d2L, dd_ix0, x_okv])
  rw [nm_map] at lp
  exact lp
theorem e_right (S : Sto) {f : Fc} (h : okF f) : ∃ S', den_law_right [f.d] S = some (.ok (.val (.bl true)) S') ∧ Gr S S' := by
  have nc := nm_comp S h [some f.d, none, none, none, none, none, none, none] 4 (by simp)
  have i1 := fc_ix1 S f
  have s1 : lrN [some f.d, none, none, none, none, none, none, none] S = some (.nx [some f.d, some (.lst (f.ns.map .str)), none, none, none, none, none, none] S) := by
    generalize f.dd.map Dd.d = ds at *
    generalize f.d = fd at *
    generalize f.ns.map D.str = nn at *
    simp only [lrN, x_bnd, x_bnS, x_c, x_var, x_varK, x_stl, x_stlV, x_stlL, x_stlE, x_stlD, x_bxd, x_bxV, x_bxK, x_okv, x_okm, x_d2, x_d2K, x_d2L, x_tst, x_tstK, x_ch, x_chK, x_chL, x_chMt, x_chMf, x_chN, x_and, x_andK, x_andT, x_andF, x_or, x_orK, x_orT, x_orF, x_not, x_notK, x_notL, x_tru, x_truK, x_truL, x_band, x_bandT, x_bandF, x_bor, x_borT, x_borF, x_bnot, x_bnotK, x_dif, x_difT, x_difF, x_anil, x_acons, x_aK, x_aL, x_tup, x_tupK, x_lst, x_lstK, x_cl, x_clK, x_fn, x_fnK, x_isi, x_isiK, x_isiL, x_neg, x_negK, x_revL, x_kget, x_kgetK, x_sl, x_slK, x_slL, x_pnone, x_psome, x_psK, x_mt, x_mtK, x_mtL, x_itA, x_itAK, x_itL, x_itSeq, x_seqK, x_itStr, x_istrK, x_comp, x_compK, x_compL, x_wipe1, x_wipe2, x_seq, x_sqN, x_sqR, x_sqB, x_sqC, x_next, x_ret, x_retK, x_retN, x_asg, x_asgB, x_asgK, x_drop, x_dropK, x_if, x_ifT, x_ifF, x_for, x_forK, x_tgt, x_tgtK, x_tgtL, x_tname, x_par, x_parK, x_dput, x_dputK, x_dputK1, x_dputK2, x_dputL, x_def, x_defR, x_defN, y_add, y_sub, y_mul, y_mulX, y_mod, y_fdiv, y_lt, y_le, y_gt, y_ge, y_eqI, y_eqS, y_neI, y_neS, y_eqYI, y_eqYS, y_neYI, y_neYS, y_ixT, y_ixL, y_trB, y_k0, y_k1, y_k2, y_k3, y_k4, y_k5, y_k6, y_lenT, y_lenL, y_lenS, startE, List.map_cons, List.map_nil, List.length_cons, List.length_nil, List.replicate, List.cons_append, List.nil_append, List.append_nil, Nat.sub_self, Nat.reduceSub, Nat.reduceAdd, Nat.reduceLeDiff, Nat.reduceEqDiff, Nat.zero_add, Nat.zero_le, Nat.sub_zero, List.set_cons_zero, List.set_cons_succ, List.getElem?_cons_zero, List.getElem?_cons_succ, Bool.not_true, Bool.not_false, decide_true, decide_false, i1, fix_T, x_wipe1, nc]
  have rg := rng (j := 2) (by decide) (by decide)
  obtain ⟨S2, y2, y3, y5, y6, y7, lp, g2⟩ := lr_again h none (rangeL 0 (2 : Int).toNat) S none none none none none
  have ar : aCons (dC (.int 2)) aNil [some f.d, some (.lst (f.ns.map .str)), none, none, none, none, none, none] S = some (.ok [.int 2] S) := rfl
  have s2 : sFor (itA range1D (aCons (dC (.int 2)) aNil)) (tName 2) lrS [some f.d, some (.lst (f.ns.map .str)), none, none, none, none, none, none] S = some (.nx [some f.d, some (.lst (f.ns.map .str)), y2, y3, none, y5, y6, y7] S2) := by
    rw [x_for, x_itA, ar, x_bnd, x_itAK, rg, x_itL, x_bnS, x_forK, lp]
  refine ⟨S2, ?_, g2⟩
  rw [den_lr, x_def]
  show defK (sSeq _ _ [some f.d, none, none, none, none, none, none, none] S) = _
  rw [x_seq, s1, x_sqN, x_seq, s2, x_sqN]
  rfl
end W03
namespace W03
open Sf L2 PySem PySem.Spec PyProof.Rows
/-! what is no deed's name -/
def Odd (f : Fc) (d : D) : Prop := Fit 100 3 d ∧ ∀ s, d = .str s → s ∉ f.ns
theorem pigeon : ∀ (l m : List Str), l.Nodup → (∀ x ∈ l, x ∈ m) → l.length ≤ m.length
  | [], _, _, _ => Nat.zero_le _
  | x :: l, m, hn, h => by
    obtain ⟨n1, n2⟩ := List.nodup_cons.mp hn
    have hx := h x List.mem_cons_self
    have ih := pigeon l (m.erase x) n2 fun y hy => (List.mem_erase_of_ne (fun z => n1 (by rw [← z]; exact hy))).mpr (h y (List.mem_cons_of_mem _ hy))
    rw [List.length_erase_of_mem hx] at ih
    have := List.length_pos_of_mem hx
    rw [List.length_cons]
    omega
def cand : List Str := ["z", "zz", "zzz", "zzzz", "zzzzz", "zzzzzz", "zzzzzzz", "zzzzzzzz", "y"]
theorem cand_nd : cand.Nodup := by decide +kernel
theorem cand_fit : ∀ s ∈ cand, Fit 8 0 (.str s) := by
  intro s hs
  have k : cand.all (fun s => fitB (.str s) && (decide (wt (.str s) ≤ 8) && decide (dp (.str s) ≤ 0))) = true := by decide +kernel
  have q := List.all_eq_true.mp k s hs
  simp only [Bool.and_eq_true] at q
  exact ⟨q.1, of_decide_eq_true q.2.1, of_decide_eq_true q.2.2⟩
theorem ns_len {f : Fc} (h : okF f) : f.ns.length ≤ 8 ∧ 1 ≤ f.ns.length := by
  unfold Fc.ns
  rw [List.length_map]
  exact ⟨h.d2, h.d1⟩
theorem ns_ok {f : Fc} (h : okF f) : ∀ s ∈ f.ns, okN s := by
  intro s hs
  obtain ⟨x, hx, rfl⟩ := List.mem_map.mp hs
  exact (h.dn x hx).nm
def noB (ns : List Str) : D → Bool
  | .str s => !decide (s ∈ ns)
  | _ => true
theorem noB_flt (ns : List Str) : ∀ l : List Str, (l.map D.str).filter (noB ns) = (l.filter fun s => !decide (s ∈ ns)).map .str
  | [] => rfl
  | s :: l => by
    have ih := noB_flt ns l
    by_cases h : s ∈ ns
    · have e : noB ns (.str s) = false := by show (!decide (s ∈ ns)) = false; rw [decide_eq_true h]; rfl
      rw [List.map_cons, List.filter_cons_of_neg (by rw [e]; decide), ih, List.filter_cons_of_neg (by rw [decide_eq_true h]; decide)]
    · have e : noB ns (.str s) = true := by show (!decide (s ∈ ns)) = true; rw [decide_eq_false h]; rfl
      rw [List.map_cons, List.filter_cons_of_pos e, ih, List.filter_cons_of_pos (by rw [decide_eq_false h]; rfl), List.map_cons]
theorem cand_ex {f : Fc} (h : okF f) : ∃ s r, (cand.filter fun s => !decide (s ∈ f.ns)) = s :: r ∧ s ∈ cand ∧ s ∉ f.ns := by
  cases e : cand.filter fun s => !decide (s ∈ f.ns) with
  | nil =>
    have hl := pigeon cand f.ns cand_nd fun x hx => by
      have := List.filter_eq_nil_iff.mp e x hx
      simpa using this
    have := (ns_len h).1
    have hc : cand.length = 9 := rfl
    omega
  | cons s r =>
    have hm : s ∈ cand.filter fun s => !decide (s ∈ f.ns) := by rw [e]; exact List.mem_cons_self
    obtain ⟨h1, h2⟩ := List.mem_filter.mp hm
    exact ⟨s, r, rfl, h1, by simpa using h2⟩
theorem n_lets {s : Str} (h : okN s) : ∀ c ∈ s.cps.toList, c ∈ lets := by
  unfold okN nameB at h
  rw [Bool.and_eq_true] at h
  intro c hc
  have hm : D.str ⟨#[c]⟩ ∈ signsL s := List.mem_map.mpr ⟨c, hc, rfl⟩
  exact of_decide_eq_true (List.all_eq_true.mp h.2 _ hm)
theorem n_low {s : Str} (h : okN s) : ∀ c ∈ s.cps.toList, 97 ≤ c ∧ c ≤ 122 := by
  intro c hc
  have k : lets.all (fun c => decide (97 ≤ c) && decide (c ≤ 122)) = true := by decide +kernel
  have q := List.all_eq_true.mp k c (n_lets h c hc)
  rw [Bool.and_eq_true] at q
  exact ⟨of_decide_eq_true q.1, of_decide_eq_true q.2⟩
theorem up_tl {s : Str} (h : okN s) : (Txt.upper s).cps.toList = s.cps.toList.map PyProof.Rows.up1 := by
  rw [PyProof.Rows.upper_ascii (fun c hc => by have := n_low h c hc; omega)]
  exact Array.toList_map
theorem fit_str {n : Nat} {s : Str} (h : ∀ c ∈ s.cps.toList, c < 128) (hl : s.cps.toList.length ≤ n) : Fit n 0 (.str s) := by
  refine ⟨?_, hl, Nat.le_refl _⟩
  simp only [fitB, List.all_eq_true]
  intro c hc
  exact decide_eq_true (Nat.lt_trans (h c hc) (by decide))
theorem n_list {s : Str} (h : okN s) : s.cps.toList.length ≤ 8 ∧ 1 ≤ s.cps.toList.length := by
  have := n_pos h
  have e : s.length = s.cps.toList.length := rfl
  omega
theorem odd_up {f : Fc} (h : okF f) {s : Str} (hs : s ∈ f.ns) : Odd f (.str (Txt.upper s)) := by
  have hn := ns_ok h s hs
  have e := up_tl hn
  have hl := n_list hn
  refine ⟨(fit_str (n := 8) (fun c hc => ?_) (by rw [e, List.length_map]; exact hl.1)).mono (by decide) (by decide), fun t ht hm => ?_⟩
  · rw [e] at hc
    obtain ⟨d, hd, rfl⟩ := List.mem_map.mp hc
    have := n_low hn d hd
    unfold PyProof.Rows.up1
    split <;> omega
  · cases ht
    have hu := n_low (ns_ok h _ hm)
    rw [e] at hu
    obtain ⟨c, hc⟩ := List.exists_mem_of_length_pos (l := s.cps.toList) (by omega)
    have q := hu _ (List.mem_map.mpr ⟨c, hc, rfl⟩)
    have := n_low hn c hc
    unfold PyProof.Rows.up1 at q
    split at q <;> omega
theorem odd_sp {f : Fc} (h : okF f) {s : Str} (hs : s ∈ f.ns) : Odd f (.str (s ++ " ")) := by
  have hn := ns_ok h s hs
  have e : (s ++ " ").cps.toList = s.cps.toList ++ [32] := TL.tl_append s " "
  have hl := n_list hn
  refine ⟨(fit_str (n := 9) (fun c hc => ?_) (by rw [e, List.length_append]; show _ + 1 ≤ 9; omega)).mono (by decide) (by decide), fun t ht hm => ?_⟩
  · rw [e] at hc
    rcases List.mem_append.mp hc with hc | hc
    · have := n_low hn c hc; omega
    · rw [List.mem_singleton.mp hc]; decide
  · cases ht
    have q := n_low (ns_ok h _ hm) 32 (by rw [e]; simp)
    omega
theorem odd_no {f : Fc} {d : D} (hf : Fit 100 3 d) (hs : ∀ s, d ≠ .str s) : Odd f d := ⟨hf, fun s e => absurd e (hs s)⟩
theorem odd_emp {f : Fc} (h : okF f) : Odd f (.str "") := ⟨(fit_str (n := 0) (by decide +kernel) (by decide +kernel)).mono (by decide) (by decide), fun t ht hm => by
  cases ht
  have := (n_list (ns_ok h _ hm)).2
  exact absurd this (by decide +kernel)⟩
def oddL (a b c : Str) : List D := [.str a, .str b, .str "", .non, .int 7, .bl true, .tup [.str "a"], .lst [.str "a"], .emp, .str c]
theorem fitA : Fit 1 0 (.str "a") := fit_str (by decide +kernel) (by decide +kernel)
theorem odd_all {f : Fc} (h : okF f) {a b c : Str} (ha : a ∈ cand) (ha2 : a ∉ f.ns) (hb : b ∈ f.ns) (hc : c ∈ f.ns) : ∀ d ∈ oddL a (Txt.upper b) (c ++ " "), Odd f d := by
  intro d hd
  simp only [oddL, List.mem_cons, List.not_mem_nil, or_false] at hd
  rcases hd with rfl | rfl | rfl | rfl | rfl | rfl | rfl | rfl | rfl | rfl
  · exact ⟨(cand_fit _ ha).mono (by decide) (by decide), fun s e hm => by cases e; exact ha2 hm⟩
  · exact odd_up h hb
  · exact odd_emp h
  · exact odd_no ⟨rfl, by decide +kernel, by decide +kernel⟩ fun _ z => by cases z
  · exact odd_no ⟨by decide +kernel, by decide +kernel, by decide +kernel⟩ fun _ z => by cases z
  · exact odd_no ⟨rfl, by decide +kernel, by decide +kernel⟩ fun _ z => by cases z
  · exact odd_no ((FitL.cons fitA (FitL.nil (w := 0))).tup.mono (by decide) (by decide)) fun _ z => by cases z
  · exact odd_no ((FitL.cons fitA (FitL.nil (w := 0))).lst.mono (by decide) (by decide)) fun _ z => by cases z
  · exact odd_no ⟨rfl, by decide +kernel, by decide +kernel⟩ fun _ z => by cases z
  · exact odd_sp h hc
end W03
namespace W03
open Sf L2 PySem PySem.Spec PyProof.Rows
theorem pl_eq (S : Sto) : neX S (.lst [.str "place"]) (.lst [.str "place"]) = some (.val (.bl false)) := by kernel_rfl
noncomputable def rcD (way : Int) : Dn Bool := tst (d2 neX (dFn 3 den_law_refused (aCons (dC (.int way)) (aCons (dVar 9) (aCons (dVar 12) aNil)))) (dLst (aCons (dC (.str "place")) aNil)))
theorem rc_ok (S : Sto) {f : Fc} (h : okF f) {d : D} (hd : Odd f d) (way : Int) {ρ : En} (h9 : ρ[9]? = some (some f.d)) (h12 : ρ[12]? = some (some d)) : ∃ S', rcD way ρ S = some (.ok false S') ∧ Gr S S' := by
  obtain ⟨S1, e1, g1⟩ := e_refused S h hd.1 (by decide) hd.2 way
  refine ⟨S1, ?_, g1⟩
  have v9 : stl (dVar 9) ρ S = some (.ok f.d S) := by rw [x_stl, x_var, h9]; rfl
  have v12 : stl (dVar 12) ρ S = some (.ok d S) := by rw [x_stl, x_var, h12]; rfl
  have vc : stl (dC (.int way)) ρ S = some (.ok (.int way) S) := rfl
  have ar : aCons (dC (.int way)) (aCons (dVar 9) (aCons (dVar 12) aNil)) ρ S = some (.ok [.int way, f.d, d] S) := by
    rw [x_acons, vc, x_bnd, x_aK, x_acons, v9, x_bnd, x_aK, x_acons, v12, x_bnd, x_aK, x_anil, x_bnd, x_aL, x_bnd, x_aL, x_bnd, x_aL]
  have pl : stl (dLst (aCons (dC (.str "place")) aNil)) ρ S1 = some (.ok (.lst [.str "place"]) S1) := rfl
  unfold rcD
  rw [x_tst, x_d2, x_stl, x_fn, ar, x_bnd, x_fnK (n := 3) [_, _, _] rfl, e1, x_bnd, x_stlL, x_bnd, x_d2K, pl, x_bnd, x_d2L, pl_eq, x_okv, x_bnd, x_tstK]
theorem rc_loop {f : Fc} (h : okF f) (way : Int) {ρ : En} (h9 : ρ[9]? = some (some f.d)) (hl : 12 < ρ.length) : ∀ (l : List D) (S : Sto), (∀ d ∈ l, Odd f d) → ∃ S', loopC (tName 12) (rcD way) (dVar 12) ρ l 0 S = some ([], S') ∧ Gr S S'
  | [], S, _ => ⟨S, rfl, Gr.refl S⟩
  | d :: l, S, hd => by
    obtain ⟨S1, e1, g1⟩ := rc_ok S h (hd d List.mem_cons_self) way (ρ := ρ.set 12 (some d)) (by rw [List.getElem?_set_ne (by decide), h9]) (List.getElem?_set_self hl)
    obtain ⟨S2, e2, g2⟩ := rc_loop h way h9 hl l S1 fun x hx => hd x (List.mem_cons_of_mem _ hx)
    refine ⟨S2, ?_, g1.trans g2⟩
    simp only [loopC, tName, e1, e2]
def b1S : Sn := sAsg 3 (dFn 2 den_law_draw (aCons (dVar 2) (aCons (dVar 1) aNil)))
def b2S : Sn := sAsg 4 (dFn 2 den_law_digit (aCons (dVar 3) (aCons (dC (.int 10)) aNil)))
noncomputable def b3S : Sn := sTgt (tTup (tsCons (tName 9) (tsCons (tName 10) tsNil))) (dTup (aCons (dFn 2 den_law_face (aCons (dVar 3) (aCons (dC (.int 8)) aNil))) (aCons (dFn 2 den_law_face (aCons (dVar 3) (aCons (dC (.int 3)) aNil))) aNil)))
def b4S : Sn := sIf (bOr (bNot (dTru (dFn 1 den_law_right (aCons (dVar 9) aNil)))) (bNot (dTru (dFn 1 den_law_right (aCons (dVar 10) aNil))))) (sRet (dC (.bl false))) sNext
def b5S : Sn := sAsg 5 (dComp (itSeq (d2 ixD (dVar 9) (dC (.int 1)))) (tName 11) bYes (d2 ixD (dVar 11) (dC (.int 0))) [11])
def candE : Dn Out := d2 addD (dComp (itA range2D (aCons (dC (.int 1)) (aCons (dC (.int 9)) aNil))) (tName 14) bYes (d2 mulX (dC (.str "z")) (dVar 14)) [14]) (dLst (aCons (dC (.str "y")) aNil))
def b6E : Dn Out := dComp (itSeq candE) (tName 12) (tst (d2 notInD (dVar 12) (dVar 5))) (dVar 12) [12]
def b6S : Sn := sAsg 6 (d2 ixD b6E (dC (.int 0)))
def b7E : Dn Out := dLst (aCons (dVar 6) (aCons (dMt "str" upperD (d2 ixD (dVar 5) (dC (.int 0))) aNil) (aCons (dC (.str "")) (aCons (dC .non) (aCons (dC (.int 7)) (aCons (dC (.bl true)) (aCons (dTup (aCons (dC (.str "a")) aNil)) (aCons (dLst (aCons (dC (.str "a")) aNil)) (aCons (fun _ S => some (.ok (.own (.dct [])) S)) (aCons (d2 addD (d2 ixD (dVar 5) (dNeg (dC (.int 1)))) (dC (.str " "))) aNil))))))))))
def b7S : Sn := sAsg 7 (d2 ixD b7E (dVar 4))
def b8S : Sn := sAsg 8 (d2 addD (dLst (aCons (dVar 7) aNil)) (dComp (itSeq (d2 ixD (dVar 9) (dC (.int 0)))) (tName 13) (tst (d2 notInD (dVar 13) (dVar 5))) (dVar 13) [13]))
noncomputable def bRE (way : Int) : Dn Out := dComp (itSeq (dVar 8)) (tName 12) (rcD way) (dVar 12) [12]
noncomputable def b9S (way : Int) : Sn := sIf (tst (d2 neX (bRE way) (dLst aNil))) (sRet (dC (.bl false))) sNext
noncomputable def bodS : Sn := sSeq b1S (sSeq b2S (sSeq b3S (sSeq b4S (sSeq b5S (sSeq b6S (sSeq b7S (sSeq b8S (sSeq (b9S 0) (b9S 1)))))))))
noncomputable def lawF : Sn := sFor (itA enumD (aCons (d2 addD (dSl (dVar 0) pNone (pSome (dC (.int 10)))) (dLst (aCons (dCl sumD (aCons (dVar 0) aNil)) aNil))) aNil)) (tTup (tsCons (tName 1) (tsCons (tName 2) tsNil))) bodS
theorem den_l : den_law = defD 15 (sSeq lawF (sRet (dC (.bl true)))) := rfl
theorem cand_ok (x0 x1 x2 x3 x4 x5 x6 x7 x8 x9 x10 : Option D) (S : Sto) : candE [x0, x1, x2, x3, x4, x5, x6, x7, x8, x9, x10, none, none, none, none] S = some (.ok (.own (.lst (cand.map .str))) S) := by kernel_rfl
theorem x_stlSt (a b c : Int) (S : Sto) : stlK (.own (stO a b c)) S = some (.ok (.ref S.length) (S ++ [stO a b c])) := rfl
theorem y_up (S : Sto) {s : Str} (h : okN s) : upperD S (.str s) [] = some (.val (.str (Txt.upper s)), S) := if_pos (by have := (n_pos h).2; omega)
theorem y_addSp (S : Sto) {s : Str} (h : okN s) : addD S (.str s) (.str " ") = some (.val (.str (s ++ " "))) := if_pos (by
  have := (n_pos h).2
  have e : (" " : Str).length = 1 := by decide +kernel
  rw [e]
  show s.length + 1 ≤ 2 ^ 24
  omega)
theorem b6_ok {f : Fc} (h : okF f) (x0 x1 x2 x3 x4 x6 x7 x8 x9 x10 : Option D) (S : Sto) : ∃ a, a ∈ cand ∧ a ∉ f.ns ∧ b6S [x0, x1, x2, x3, x4, some (.lst (f.ns.map .str)), x6, x7, x8, x9, x10, none, none, none, none] S =
    some (.nx [x0, x1, x2, x3, x4, some (.lst (f.ns.map .str)), some (.str a), x7, x8, x9, x10, none, none, none, none] S) := by
  obtain ⟨a, r, e, ha, hn⟩ := cand_ex h
  refine ⟨a, ha, hn, ?_⟩
  have ce := cand_ok x0 x1 x2 x3 x4 (some (.lst (f.ns.map .str))) x6 x7 x8 x9 x10 S
  have lf := loop_flt [x0, x1, x2, x3, x4, some (.lst (f.ns.map .str)), x6, x7, x8, x9, x10, none, none, none, none] (noB f.ns) (tst (d2 notInD (dVar 12) (dVar 5))) 12 (cand.map .str) 0 S (by simp) (Nat.le_of_ble_eq_true rfl) (fun x hx => by
    obtain ⟨s, _, rfl⟩ := List.mem_map.mp hx
    have e := notin_L S s f.ns
    have eb : noB f.ns (.str s) = !decide (s ∈ f.ns) := rfl
    rw [← eb] at e
    generalize noB f.ns (.str s) = bb at *
    generalize f.ns.map D.str = nn at *
    simp only [x_bnd, x_bnS, x_c, x_var, x_varK, x_stl, x_stlV, x_stlL, x_stlE, x_stlD, x_bxd, x_bxV, x_bxK, x_okv, x_okm, x_d2, x_d2K, x_d2L, x_tst, x_tstK, x_ch, x_chK, x_chL, x_chMt, x_chMf, x_chN, x_and, x_andK, x_andT, x_andF, x_or, x_orK, x_orT, x_orF, x_not, x_notK, x_notL, x_tru, x_truK, x_truL, x_band, x_bandT, x_bandF, x_bor, x_borT, x_borF, x_bnot, x_bnotK, x_dif, x_difT, x_difF, x_anil, x_acons, x_aK, x_aL, x_tup, x_tupK, x_lst, x_lstK, x_cl, x_clK, x_fn, x_fnK, x_isi, x_isiK, x_isiL, x_neg, x_negK, x_revL, x_kget, x_kgetK, x_sl, x_slK, x_slL, x_pnone, x_psome, x_psK, x_mt, x_mtK, x_mtL, x_itA, x_itAK, x_itL, x_itSeq, x_seqK, x_itStr, x_istrK, x_comp, x_compK, x_compL, x_wipe1, x_wipe2, x_seq, x_sqN, x_sqR, x_sqB, x_sqC, x_next, x_ret, x_retK, x_retN, x_asg, x_asgB, x_asgK, x_drop, x_dropK, x_if, x_ifT, x_ifF, x_for, x_forK, x_tgt, x_tgtK, x_tgtL, x_tname, x_par, x_parK, x_dput, x_dputK, x_dputK1, x_dputK2, x_dputL, x_def, x_defR, x_defN, y_add, y_sub, y_mul, y_mulX, y_mod, y_fdiv, y_lt, y_le, y_gt, y_ge, y_eqI, y_eqS, y_neI, y_neS, y_eqYI, y_eqYS, y_neYI, y_neYS, y_ixT, y_ixL, y_trB, y_k0, y_k1, y_k2, y_k3, y_k4, y_k5, y_k6, y_lenT, y_lenL, y_lenS, startE, List.map_cons, List.map_nil, List.length_cons, List.length_nil, List.replicate, List.cons_append, List.nil_append, List.append_nil, Nat.sub_self, Nat.reduceSub, Nat.reduceAdd, Nat.reduceLeDiff, Nat.reduceEqDiff, Nat.zero_add, Nat.zero_le, Nat.sub_zero, List.set_cons_zero, List.set_cons_succ, List.getElem?_cons_zero, List.getElem?_cons_succ, Bool.not_true, Bool.not_false, decide_true, decide_false, e])
  rw [noB_flt, e, List.map_cons] at lf
  have a0 := at0 (D.str a) (r.map .str)
  have it : itSeq candE [x0, x1, x2, x3, x4, some (.lst (f.ns.map .str)), x6, x7, x8, x9, x10, none, none, none, none] S = some (.ok (cand.map .str) S) := by
    rw [x_itSeq, x_stl, ce, x_bnd, x_stlL, x_bnd, x_seqK, fix_L, x_itL]
  generalize f.ns.map D.str = nn at *
  generalize cand.map D.str = cc at *
  have be : b6E [x0, x1, x2, x3, x4, some (.lst nn), x6, x7, x8, x9, x10, none, none, none, none] S = some (.ok (.own (.lst (D.str a :: r.map .str))) S) := by
    unfold b6E
    rw [x_comp, it, x_bnd, x_compK, x_wipe1]
    show compL (loopC _ _ _ [x0, x1, x2, x3, x4, some (.lst nn), x6, x7, x8, x9, x10, none, none, none, none] cc 0 S) = _
    rw [lf, x_compL]
  unfold b6S
  rw [x_asg, x_stl, x_d2, x_stl, be, x_bnd, x_stlL, x_bnd, x_d2K]
  simp only [x_bnd, x_bnS, x_c, x_var, x_varK, x_stl, x_stlV, x_stlL, x_stlE, x_stlD, x_bxd, x_bxV, x_bxK, x_okv, x_okm, x_d2, x_d2K, x_d2L, x_tst, x_tstK, x_ch, x_chK, x_chL, x_chMt, x_chMf, x_chN, x_and, x_andK, x_andT, x_andF, x_or, x_orK, x_orT, x_orF, x_not, x_notK, x_notL, x_tru, x_truK, x_truL, x_band, x_bandT, x_bandF, x_bor, x_borT, x_borF, x_bnot, x_bnotK, x_dif, x_difT, x_difF, x_anil, x_acons, x_aK, x_aL, x_tup, x_tupK, x_lst, x_lstK, x_cl, x_clK, x_fn, x_fnK, x_isi, x_isiK, x_isiL, x_neg, x_negK, x_revL, x_kget, x_kgetK, x_sl, x_slK, x_slL, x_pnone, x_psome, x_psK, x_mt, x_mtK, x_mtL, x_itA, x_itAK, x_itL, x_itSeq, x_seqK, x_itStr, x_istrK, x_comp, x_compK, x_compL, x_wipe1, x_wipe2, x_seq, x_sqN, x_sqR, x_sqB, x_sqC, x_next, x_ret, x_retK, x_retN, x_asg, x_asgB, x_asgK, x_drop, x_dropK, x_if, x_ifT, x_ifF, x_for, x_forK, x_tgt, x_tgtK, x_tgtL, x_tname, x_par, x_parK, x_dput, x_dputK, x_dputK1, x_dputK2, x_dputL, x_def, x_defR, x_defN, y_add, y_sub, y_mul, y_mulX, y_mod, y_fdiv, y_lt, y_le, y_gt, y_ge, y_eqI, y_eqS, y_neI, y_neS, y_eqYI, y_eqYS, y_neYI, y_neYS, y_ixT, y_ixL, y_trB, y_k0, y_k1, y_k2, y_k3, y_k4, y_k5, y_k6, y_lenL, y_lenS, startE, List.map_cons, List.map_nil, List.length_cons, List.length_nil, List.replicate, List.cons_append, List.nil_append, List.append_nil, Nat.sub_self, Nat.reduceSub, Nat.reduceAdd, Nat.reduceLeDiff, Nat.reduceEqDiff, Nat.zero_add, Nat.zero_le, Nat.sub_zero, List.set_cons_zero, List.set_cons_succ, List.getElem?_cons_zero, List.getElem?_cons_succ, Bool.not_true, Bool.not_false, decide_true, decide_false, Int.reduceEq, Int.reduceLT, Int.reduceLE, Int.reduceSub, Int.reduceAdd, eq_self, Option.map_some, y_ixF, a0]
theorem b7_ok {f : Fc} (h : okF f) {a : Str} (ha : a ∈ cand) (ha2 : a ∉ f.ns) {r : Int} (hr : 0 ≤ r ∧ r < 10) (x0 x1 x2 x3 x7 x8 x9 x10 x11 x12 x13 x14 : Option D) (S : Sto) : ∃ d, Odd f d ∧ b7S [x0, x1, x2, x3, some (.int r), some (.lst (f.ns.map .str)), some (.str a), x7, x8, x9, x10, x11, x12, x13, x14] S =
    some (.nx [x0, x1, x2, x3, some (.int r), some (.lst (f.ns.map .str)), some (.str a), some d, x8, x9, x10, x11, x12, x13, x14] S) := by
  obtain ⟨b, l, eb⟩ : ∃ b l, f.ns = b :: l := by
    cases e : f.ns with
    | nil => have := (ns_len h).2; rw [e] at this; exact absurd this (by decide)
    | cons b l => exact ⟨b, l, rfl⟩
  obtain ⟨l2, c, ec⟩ : ∃ l2 c, f.ns = l2 ++ [c] := by
    rcases List.eq_nil_or_concat f.ns with e | ⟨l2, c, e⟩
    · rw [e] at eb; cases eb
    · exact ⟨l2, c, by rw [e, List.concat_eq_append]⟩
  have hb : b ∈ f.ns := by rw [eb]; exact List.mem_cons_self
  have hc : c ∈ f.ns := by rw [ec]; simp
  obtain ⟨d, hd, ed⟩ := atI_mem (l := oddL a (Txt.upper b) (c ++ " ")) hr.1 hr.2
  refine ⟨d, odd_all h ha ha2 hb hc d hd, ?_⟩
  have a0 : atI (f.ns.map D.str) 0 = some (.str b) := by rw [eb]; exact at0 _ _
  have al : atI (f.ns.map D.str) (-1) = some (.str c) := by
    rw [ec, List.map_append]
    exact at_last _ _
  have up := y_up S (ns_ok h b hb)
  have sp := y_addSp S (ns_ok h c hc)
  have ty := ty_str S b
  unfold oddL at ed
  generalize f.ns.map D.str = nn at *
  generalize Txt.upper b = ub at *
  generalize c ++ " " = cs at *
  have be : b7E [x0, x1, x2, x3, some (.int r), some (.lst nn), some (.str a), x7, x8, x9, x10, x11, x12, x13, x14] S = some (.ok (.own (.lst [.str a, .str ub, .str "", .non, .int 7, .bl true, .tup [.str "a"], .lst [.str "a"], .emp, .str cs])) S) := by
    simp only [b7E, x_bnd, x_bnS, x_c, x_var, x_varK, x_stl, x_stlV, x_stlL, x_stlE, x_stlD, x_bxd, x_bxV, x_bxK, x_okv, x_okm, x_d2, x_d2K, x_d2L, x_tst, x_tstK, x_ch, x_chK, x_chL, x_chMt, x_chMf, x_chN, x_and, x_andK, x_andT, x_andF, x_or, x_orK, x_orT, x_orF, x_not, x_notK, x_notL, x_tru, x_truK, x_truL, x_band, x_bandT, x_bandF, x_bor, x_borT, x_borF, x_bnot, x_bnotK, x_dif, x_difT, x_difF, x_anil, x_acons, x_aK, x_aL, x_tup, x_tupK, x_lst, x_lstK, x_cl, x_clK, x_fn, x_fnK, x_isi, x_isiK, x_isiL, x_neg, x_negK, x_revL, x_kget, x_kgetK, x_sl, x_slK, x_slL, x_pnone, x_psome, x_psK, x_mt, x_mtK, x_mtL, x_itA, x_itAK, x_itL, x_itSeq, x_seqK, x_itStr, x_istrK, x_comp, x_compK, x_compL, x_wipe1, x_wipe2, x_seq, x_sqN, x_sqR, x_sqB, x_sqC, x_next, x_ret, x_retK, x_retN, x_asg, x_asgB, x_asgK, x_drop, x_dropK, x_if, x_ifT, x_ifF, x_for, x_forK, x_tgt, x_tgtK, x_tgtL, x_tname, x_par, x_parK, x_dput, x_dputK, x_dputK1, x_dputK2, x_dputL, x_def, x_defR, x_defN, y_add, y_sub, y_mul, y_mulX, y_mod, y_fdiv, y_lt, y_le, y_gt, y_ge, y_eqI, y_eqS, y_neI, y_neS, y_eqYI, y_eqYS, y_neYI, y_neYS, y_ixT, y_ixL, y_trB, y_k0, y_k1, y_k2, y_k3, y_k4, y_k5, y_k6, y_lenL, y_lenS, startE, List.map_cons, List.map_nil, List.length_cons, List.length_nil, List.replicate, List.cons_append, List.nil_append, List.append_nil, Nat.sub_self, Nat.reduceSub, Nat.reduceAdd, Nat.reduceLeDiff, Nat.reduceEqDiff, Nat.zero_add, Nat.zero_le, Nat.sub_zero, List.set_cons_zero, List.set_cons_succ, List.getElem?_cons_zero, List.getElem?_cons_succ, Bool.not_true, Bool.not_false, decide_true, decide_false, Int.reduceEq, Int.reduceLT, Int.reduceLE, Int.reduceSub, Int.reduceAdd, eq_self, Option.map_some, y_ixF, a0, al, ty, up, sp]
  unfold b7S
  rw [x_asg, x_stl, x_d2, x_stl, be, x_bnd, x_stlL, x_bnd, x_d2K]
  simp only [x_bnd, x_bnS, x_c, x_var, x_varK, x_stl, x_stlV, x_stlL, x_stlE, x_stlD, x_bxd, x_bxV, x_bxK, x_okv, x_okm, x_d2, x_d2K, x_d2L, x_tst, x_tstK, x_ch, x_chK, x_chL, x_chMt, x_chMf, x_chN, x_and, x_andK, x_andT, x_andF, x_or, x_orK, x_orT, x_orF, x_not, x_notK, x_notL, x_tru, x_truK, x_truL, x_band, x_bandT, x_bandF, x_bor, x_borT, x_borF, x_bnot, x_bnotK, x_dif, x_difT, x_difF, x_anil, x_acons, x_aK, x_aL, x_tup, x_tupK, x_lst, x_lstK, x_cl, x_clK, x_fn, x_fnK, x_isi, x_isiK, x_isiL, x_neg, x_negK, x_revL, x_kget, x_kgetK, x_sl, x_slK, x_slL, x_pnone, x_psome, x_psK, x_mt, x_mtK, x_mtL, x_itA, x_itAK, x_itL, x_itSeq, x_seqK, x_itStr, x_istrK, x_comp, x_compK, x_compL, x_wipe1, x_wipe2, x_seq, x_sqN, x_sqR, x_sqB, x_sqC, x_next, x_ret, x_retK, x_retN, x_asg, x_asgB, x_asgK, x_drop, x_dropK, x_if, x_ifT, x_ifF, x_for, x_forK, x_tgt, x_tgtK, x_tgtL, x_tname, x_par, x_parK, x_dput, x_dputK, x_dputK1, x_dputK2, x_dputL, x_def, x_defR, x_defN, y_add, y_sub, y_mul, y_mulX, y_mod, y_fdiv, y_lt, y_le, y_gt, y_ge, y_eqI, y_eqS, y_neI, y_neS, y_eqYI, y_eqYS, y_neYI, y_neYS, y_ixT, y_ixL, y_trB, y_k0, y_k1, y_k2, y_k3, y_k4, y_k5, y_k6, y_lenL, y_lenS, startE, List.map_cons, List.map_nil, List.length_cons, List.length_nil, List.replicate, List.cons_append, List.nil_append, List.append_nil, Nat.sub_self, Nat.reduceSub, Nat.reduceAdd, Nat.reduceLeDiff, Nat.reduceEqDiff, Nat.zero_add, Nat.zero_le, Nat.sub_zero, List.set_cons_zero, List.set_cons_succ, List.getElem?_cons_zero, List.getElem?_cons_succ, Bool.not_true, Bool.not_false, decide_true, decide_false, Int.reduceEq, Int.reduceLT, Int.reduceLE, Int.reduceSub, Int.reduceAdd, eq_self, Option.map_some, y_ixF, ed]
end W03
namespace W03
open Sf L2 PySem PySem.Spec PyProof.Rows
theorem b8_ok {f : Fc} (h : okF f) {d : D} (hd : Odd f d) (x0 x1 x2 x3 x4 x6 x8 x10 : Option D) (S : Sto) : ∃ l : List D, (∀ x ∈ l, Odd f x) ∧ b8S [x0, x1, x2, x3, x4, some (.lst (f.ns.map .str)), x6, some d, x8, some f.d, x10, none, none, none, none] S =
    some (.nx [x0, x1, x2, x3, x4, some (.lst (f.ns.map .str)), x6, some d, some (.lst l), some f.d, x10, none, none, none, none] S) := by
  refine ⟨d :: (f.hd.filter fun s => !decide (s ∈ f.ns)).map .str, fun x hx => ?_, ?_⟩
  · rcases List.mem_cons.mp hx with rfl | hx
    · exact hd
    · obtain ⟨s, hs, rfl⟩ := List.mem_map.mp hx
      obtain ⟨h1, h2⟩ := List.mem_filter.mp hs
      exact ⟨(n_fit (h.hn s h1)).mono (by decide) (by decide), fun t e hm => by cases e; simp [hm] at h2⟩
  · have lf := loop_flt [x0, x1, x2, x3, x4, some (.lst (f.ns.map .str)), x6, some d, x8, some f.d, x10, none, none, none, none] (noB f.ns) (tst (d2 notInD (dVar 13) (dVar 5))) 13 (f.hd.map .str) 0 S (by simp) (by rw [List.length_map]; exact Nat.le_trans (Nat.le_of_eq (Nat.zero_add _)) (Nat.le_trans h.h2 (by decide))) (fun x hx => by
      obtain ⟨s, _, rfl⟩ := List.mem_map.mp hx
      have e := notin_L S s f.ns
      have eb : noB f.ns (.str s) = !decide (s ∈ f.ns) := rfl
      rw [← eb] at e
      generalize noB f.ns (.str s) = bb at *
      generalize f.ns.map D.str = nn at *
      generalize f.d = fd at *
      simp only [x_bnd, x_bnS, x_c, x_var, x_varK, x_stl, x_stlV, x_stlL, x_stlE, x_stlD, x_bxd, x_bxV, x_bxK, x_okv, x_okm, x_d2, x_d2K, x_d2L, x_tst, x_tstK, x_ch, x_chK, x_chL, x_chMt, x_chMf, x_chN, x_and, x_andK, x_andT, x_andF, x_or, x_orK, x_orT, x_orF, x_not, x_notK, x_notL, x_tru, x_truK, x_truL, x_band, x_bandT, x_bandF, x_bor, x_borT, x_borF, x_bnot, x_bnotK, x_dif, x_difT, x_difF, x_anil, x_acons, x_aK, x_aL, x_tup, x_tupK, x_lst, x_lstK, x_cl, x_clK, x_fn, x_fnK, x_isi, x_isiK, x_isiL, x_neg, x_negK, x_revL, x_kget, x_kgetK, x_sl, x_slK, x_slL, x_pnone, x_psome, x_psK, x_mt, x_mtK, x_mtL, x_itA, x_itAK, x_itL, x_itSeq, x_seqK, x_itStr, x_istrK, x_comp, x_compK, x_compL, x_wipe1, x_wipe2, x_seq, x_sqN, x_sqR, x_sqB, x_sqC, x_next, x_ret, x_retK, x_retN, x_asg, x_asgB, x_asgK, x_drop, x_dropK, x_if, x_ifT, x_ifF, x_for, x_forK, x_tgt, x_tgtK, x_tgtL, x_tname, x_par, x_parK, x_dput, x_dputK, x_dputK1, x_dputK2, x_dputL, x_def, x_defR, x_defN, y_add, y_sub, y_mul, y_mulX, y_mod, y_fdiv, y_lt, y_le, y_gt, y_ge, y_eqI, y_eqS, y_neI, y_neS, y_eqYI, y_eqYS, y_neYI, y_neYS, y_ixT, y_ixL, y_trB, y_k0, y_k1, y_k2, y_k3, y_k4, y_k5, y_k6, y_lenT, y_lenL, y_lenS, startE, List.map_cons, List.map_nil, List.length_cons, List.length_nil, List.replicate, List.cons_append, List.nil_append, List.append_nil, Nat.sub_self, Nat.reduceSub, Nat.reduceAdd, Nat.reduceLeDiff, Nat.reduceEqDiff, Nat.zero_add, Nat.zero_le, Nat.sub_zero, List.set_cons_zero, List.set_cons_succ, List.getElem?_cons_zero, List.getElem?_cons_succ, Bool.not_true, Bool.not_false, decide_true, decide_false, e])
    rw [noB_flt] at lf
    have i0 := fc_ix0 S f
    have ad : addD S (.lst [d]) (.lst ((f.hd.filter fun s => !decide (s ∈ f.ns)).map .str)) = some (.own (.lst (d :: (f.hd.filter fun s => !decide (s ∈ f.ns)).map .str))) := adLD S [d] _ (by
      rw [List.length_map]
      have := List.length_filter_le (fun s => !decide (s ∈ f.ns)) f.hd
      have := h.h2
      show 1 + _ ≤ _
      omega)
    generalize (f.hd.filter fun s => !decide (s ∈ f.ns)).map D.str = fl at *
    generalize f.ns.map D.str = nn at *
    generalize f.hd.map D.str = hs at *
    generalize f.d = fd at *
    simp only [b8S, x_bnd, x_bnS, x_c, x_var, x_varK, x_stl, x_stlV, x_stlL, x_stlE, x_stlD, x_bxd, x_bxV, x_bxK, x_okv, x_okm, x_d2, x_d2K, x_d2L, x_tst, x_tstK, x_ch, x_chK, x_chL, x_chMt, x_chMf, x_chN, x_and, x_andK, x_andT, x_andF, x_or, x_orK, x_orT, x_orF, x_not, x_notK, x_notL, x_tru, x_truK, x_truL, x_band, x_bandT, x_bandF, x_bor, x_borT, x_borF, x_bnot, x_bnotK, x_dif, x_difT, x_difF, x_anil, x_acons, x_aK, x_aL, x_tup, x_tupK, x_lst, x_lstK, x_cl, x_clK, x_fn, x_fnK, x_isi, x_isiK, x_isiL, x_neg, x_negK, x_revL, x_kget, x_kgetK, x_sl, x_slK, x_slL, x_pnone, x_psome, x_psK, x_mt, x_mtK, x_mtL, x_itA, x_itAK, x_itL, x_itSeq, x_seqK, x_itStr, x_istrK, x_comp, x_compK, x_compL, x_wipe1, x_wipe2, x_seq, x_sqN, x_sqR, x_sqB, x_sqC, x_next, x_ret, x_retK, x_retN, x_asg, x_asgB, x_asgK, x_drop, x_dropK, x_if, x_ifT, x_ifF, x_for, x_forK, x_tgt, x_tgtK, x_tgtL, x_tname, x_par, x_parK, x_dput, x_dputK, x_dputK1, x_dputK2, x_dputL, x_def, x_defR, x_defN, y_add, y_sub, y_mul, y_mulX, y_mod, y_fdiv, y_lt, y_le, y_gt, y_ge, y_eqI, y_eqS, y_neI, y_neS, y_eqYI, y_eqYS, y_neYI, y_neYS, y_ixT, y_ixL, y_trB, y_k0, y_k1, y_k2, y_k3, y_k4, y_k5, y_k6, y_lenT, y_lenL, y_lenS, startE, List.map_cons, List.map_nil, List.length_cons, List.length_nil, List.replicate, List.cons_append, List.nil_append, List.append_nil, Nat.sub_self, Nat.reduceSub, Nat.reduceAdd, Nat.reduceLeDiff, Nat.reduceEqDiff, Nat.zero_add, Nat.zero_le, Nat.sub_zero, List.set_cons_zero, List.set_cons_succ, List.getElem?_cons_zero, List.getElem?_cons_succ, Bool.not_true, Bool.not_false, decide_true, decide_false, i0, fix_T, x_wipe1, lf, ad]
theorem b9_ok {f : Fc} (h : okF f) (way : Int) {l : List D} (hl : ∀ x ∈ l, Odd f x) (x0 x1 x2 x3 x4 x5 x6 x7 x10 : Option D) (S : Sto) : ∃ S', b9S way [x0, x1, x2, x3, x4, x5, x6, x7, some (.lst l), some f.d, x10, none, none, none, none] S =
    some (.nx [x0, x1, x2, x3, x4, x5, x6, x7, some (.lst l), some f.d, x10, none, none, none, none] S') ∧ Gr S S' := by
  obtain ⟨S1, e1, g1⟩ := rc_loop h way (ρ := [x0, x1, x2, x3, x4, x5, x6, x7, some (.lst l), some f.d, x10, none, none, none, none]) rfl (by simp) l S hl
  refine ⟨S1, ?_, g1⟩
  have it : itSeq (dVar 8) [x0, x1, x2, x3, x4, x5, x6, x7, some (.lst l), some f.d, x10, none, none, none, none] S = some (.ok l S) := rfl
  have be : bRE way [x0, x1, x2, x3, x4, x5, x6, x7, some (.lst l), some f.d, x10, none, none, none, none] S = some (.ok (.own (.lst [])) S1) := by
    unfold bRE
    rw [x_comp, it, x_bnd, x_compK, x_wipe1]
    show compL (loopC _ _ _ [x0, x1, x2, x3, x4, x5, x6, x7, some (.lst l), some f.d, x10, none, none, none, none] l 0 S) = _
    rw [e1, x_compL]
  have nl : stl (dLst aNil) [x0, x1, x2, x3, x4, x5, x6, x7, some (.lst l), some f.d, x10, none, none, none, none] S1 = some (.ok (.lst []) S1) := rfl
  have ne : neX S1 (.lst []) (.lst []) = some (.val (.bl false)) := rfl
  unfold b9S
  rw [x_if, x_tst, x_d2, x_stl, be, x_bnd, x_stlL, x_bnd, x_d2K, nl, x_bnd, x_d2L, ne, x_okv, x_bnd, x_tstK, x_bnS, x_ifF, x_next]
theorem cell_ok (k c : Int) (hk : 0 ≤ k ∧ k < 100) (x0 x3 x4 x5 x6 x7 x8 x9 x10 : Option D) (S : Sto) : ∃ y3 y4 y5 y6 y7 y8 y9 y10 S', bodS [x0, some (.int k), some (.int c), x3, x4, x5, x6, x7, x8, x9, x10, none, none, none, none] S =
    some (.nx [x0, some (.int k), some (.int c), y3, y4, y5, y6, y7, y8, y9, y10, none, none, none, none] S') := by
  have dr := e_draw S c k (by omega)
  have h1 : At S.length 100 (S ++ [stO (firstI c) (mixI c k) k]) := ⟨_, _, _, push_at S _, hk.1, by omega⟩
  obtain ⟨r, S0, e0, r1, r2, g0⟩ := g_dig (m := 10) h1 (by omega) ⟨by decide, by decide⟩
  obtain ⟨f1, S1, e1, o1, g1⟩ := e_lface (most := 8) g0.2.1 (by omega) ⟨by decide, by decide⟩
  obtain ⟨f2, S2, e2, o2, g2⟩ := e_lface (most := 3) g1.2.1 (by omega) ⟨by decide, by decide⟩
  obtain ⟨S3, e3, g3⟩ := e_right S2 o1
  obtain ⟨S4, e4, g4⟩ := e_right S3 o2
  have s1 : b1S [x0, some (.int k), some (.int c), x3, x4, x5, x6, x7, x8, x9, x10, none, none, none, none] S = some (.nx [x0, some (.int k), some (.int c), some (.ref S.length), x4, x5, x6, x7, x8, x9, x10, none, none, none, none] (S ++ [stO (firstI c) (mixI c k) k])) := by
    have ar : aCons (dVar 2) (aCons (dVar 1) aNil) [x0, some (.int k), some (.int c), x3, x4, x5, x6, x7, x8, x9, x10, none, none, none, none] S = some (.ok [.int c, .int k] S) := rfl
    unfold b1S
    rw [x_asg, x_stl, x_fn, ar, x_bnd, x_fnK (n := 2) [_, _] rfl, dr, x_bnd, x_stlSt, x_bnS, x_asgK]
    rfl
  have s2 : b2S [x0, some (.int k), some (.int c), some (.ref S.length), x4, x5, x6, x7, x8, x9, x10, none, none, none, none] (S ++ [stO (firstI c) (mixI c k) k]) = some (.nx [x0, some (.int k), some (.int c), some (.ref S.length), some (.int r), x5, x6, x7, x8, x9, x10, none, none, none, none] S0) := by
    generalize S ++ [stO (firstI c) (mixI c k) k] = S00 at *
    generalize S.length = n at *
    simp only [b2S, x_bnd, x_bnS, x_c, x_var, x_varK, x_stl, x_stlV, x_stlL, x_stlE, x_stlD, x_bxd, x_bxV, x_bxK, x_okv, x_okm, x_d2, x_d2K, x_d2L, x_tst, x_tstK, x_ch, x_chK, x_chL, x_chMt, x_chMf, x_chN, x_and, x_andK, x_andT, x_andF, x_or, x_orK, x_orT, x_orF, x_not, x_notK, x_notL, x_tru, x_truK, x_truL, x_band, x_bandT, x_bandF, x_bor, x_borT, x_borF, x_bnot, x_bnotK, x_dif, x_difT, x_difF, x_anil, x_acons, x_aK, x_aL, x_tup, x_tupK, x_lst, x_lstK, x_cl, x_clK, x_fn, x_fnK, x_isi, x_isiK, x_isiL, x_neg, x_negK, x_revL, x_kget, x_kgetK, x_sl, x_slK, x_slL, x_pnone, x_psome, x_psK, x_mt, x_mtK, x_mtL, x_itA, x_itAK, x_itL, x_itSeq, x_seqK, x_itStr, x_istrK, x_comp, x_compK, x_compL, x_wipe1, x_wipe2, x_seq, x_sqN, x_sqR, x_sqB, x_sqC, x_next, x_ret, x_retK, x_retN, x_asg, x_asgB, x_asgK, x_drop, x_dropK, x_if, x_ifT, x_ifF, x_for, x_forK, x_tgt, x_tgtK, x_tgtL, x_tname, x_par, x_parK, x_dput, x_dputK, x_dputK1, x_dputK2, x_dputL, x_def, x_defR, x_defN, y_add, y_sub, y_mul, y_mulX, y_mod, y_fdiv, y_lt, y_le, y_gt, y_ge, y_eqI, y_eqS, y_neI, y_neS, y_eqYI, y_eqYS, y_neYI, y_neYS, y_ixT, y_ixL, y_trB, y_k0, y_k1, y_k2, y_k3, y_k4, y_k5, y_k6, y_lenT, y_lenL, y_lenS, startE, List.map_cons, List.map_nil, List.length_cons, List.length_nil, List.replicate, List.cons_append, List.nil_append, List.append_nil, Nat.sub_self, Nat.reduceSub, Nat.reduceAdd, Nat.reduceLeDiff, Nat.reduceEqDiff, Nat.zero_add, Nat.zero_le, Nat.sub_zero, List.set_cons_zero, List.set_cons_succ, List.getElem?_cons_zero, List.getElem?_cons_succ, Bool.not_true, Bool.not_false, decide_true, decide_false, e0]
  have s3 : b3S [x0, some (.int k), some (.int c), some (.ref S.length), some (.int r), x5, x6, x7, x8, x9, x10, none, none, none, none] S0 = some (.nx [x0, some (.int k), some (.int c), some (.ref S.length), some (.int r), x5, x6, x7, x8, some f1.d, some f2.d, none, none, none, none] S2) := by
    have tt : tTup (tsCons (tName 9) (tsCons (tName 10) tsNil)) [x0, some (.int k), some (.int c), some (.ref S.length), some (.int r), x5, x6, x7, x8, x9, x10, none, none, none, none] (.tup [f1.d, f2.d]) = some [x0, some (.int k), some (.int c), some (.ref S.length), some (.int r), x5, x6, x7, x8, some f1.d, some f2.d, none, none, none, none] := rfl
    generalize f1.d = d1 at *
    generalize f2.d = d2 at *
    generalize S.length = n at *
    simp only [b3S, x_bnd, x_bnS, x_c, x_var, x_varK, x_stl, x_stlV, x_stlL, x_stlE, x_stlD, x_bxd, x_bxV, x_bxK, x_okv, x_okm, x_d2, x_d2K, x_d2L, x_tst, x_tstK, x_ch, x_chK, x_chL, x_chMt, x_chMf, x_chN, x_and, x_andK, x_andT, x_andF, x_or, x_orK, x_orT, x_orF, x_not, x_notK, x_notL, x_tru, x_truK, x_truL, x_band, x_bandT, x_bandF, x_bor, x_borT, x_borF, x_bnot, x_bnotK, x_dif, x_difT, x_difF, x_anil, x_acons, x_aK, x_aL, x_tup, x_tupK, x_lst, x_lstK, x_cl, x_clK, x_fn, x_fnK, x_isi, x_isiK, x_isiL, x_neg, x_negK, x_revL, x_kget, x_kgetK, x_sl, x_slK, x_slL, x_pnone, x_psome, x_psK, x_mt, x_mtK, x_mtL, x_itA, x_itAK, x_itL, x_itSeq, x_seqK, x_itStr, x_istrK, x_comp, x_compK, x_compL, x_wipe1, x_wipe2, x_seq, x_sqN, x_sqR, x_sqB, x_sqC, x_next, x_ret, x_retK, x_retN, x_asg, x_asgB, x_asgK, x_drop, x_dropK, x_if, x_ifT, x_ifF, x_for, x_forK, x_tgt, x_tgtK, x_tgtL, x_tname, x_par, x_parK, x_dput, x_dputK, x_dputK1, x_dputK2, x_dputL, x_def, x_defR, x_defN, y_add, y_sub, y_mul, y_mulX, y_mod, y_fdiv, y_lt, y_le, y_gt, y_ge, y_eqI, y_eqS, y_neI, y_neS, y_eqYI, y_eqYS, y_neYI, y_neYS, y_ixT, y_ixL, y_trB, y_k0, y_k1, y_k2, y_k3, y_k4, y_k5, y_k6, y_lenT, y_lenL, y_lenS, startE, List.map_cons, List.map_nil, List.length_cons, List.length_nil, List.replicate, List.cons_append, List.nil_append, List.append_nil, Nat.sub_self, Nat.reduceSub, Nat.reduceAdd, Nat.reduceLeDiff, Nat.reduceEqDiff, Nat.zero_add, Nat.zero_le, Nat.sub_zero, List.set_cons_zero, List.set_cons_succ, List.getElem?_cons_zero, List.getElem?_cons_succ, Bool.not_true, Bool.not_false, decide_true, decide_false, e1, e2, tt]
  have s4 : b4S [x0, some (.int k), some (.int c), some (.ref S.length), some (.int r), x5, x6, x7, x8, some f1.d, some f2.d, none, none, none, none] S2 = some (.nx [x0, some (.int k), some (.int c), some (.ref S.length), some (.int r), x5, x6, x7, x8, some f1.d, some f2.d, none, none, none, none] S4) := by
    generalize f1.d = d1 at *
    generalize f2.d = d2 at *
    generalize S.length = n at *
    simp only [b4S, x_bnd, x_bnS, x_c, x_var, x_varK, x_stl, x_stlV, x_stlL, x_stlE, x_stlD, x_bxd, x_bxV, x_bxK, x_okv, x_okm, x_d2, x_d2K, x_d2L, x_tst, x_tstK, x_ch, x_chK, x_chL, x_chMt, x_chMf, x_chN, x_and, x_andK, x_andT, x_andF, x_or, x_orK, x_orT, x_orF, x_not, x_notK, x_notL, x_tru, x_truK, x_truL, x_band, x_bandT, x_bandF, x_bor, x_borT, x_borF, x_bnot, x_bnotK, x_dif, x_difT, x_difF, x_anil, x_acons, x_aK, x_aL, x_tup, x_tupK, x_lst, x_lstK, x_cl, x_clK, x_fn, x_fnK, x_isi, x_isiK, x_isiL, x_neg, x_negK, x_revL, x_kget, x_kgetK, x_sl, x_slK, x_slL, x_pnone, x_psome, x_psK, x_mt, x_mtK, x_mtL, x_itA, x_itAK, x_itL, x_itSeq, x_seqK, x_itStr, x_istrK, x_comp, x_compK, x_compL, x_wipe1, x_wipe2, x_seq, x_sqN, x_sqR, x_sqB, x_sqC, x_next, x_ret, x_retK, x_retN, x_asg, x_asgB, x_asgK, x_drop, x_dropK, x_if, x_ifT, x_ifF, x_for, x_forK, x_tgt, x_tgtK, x_tgtL, x_tname, x_par, x_parK, x_dput, x_dputK, x_dputK1, x_dputK2, x_dputL, x_def, x_defR, x_defN, y_add, y_sub, y_mul, y_mulX, y_mod, y_fdiv, y_lt, y_le, y_gt, y_ge, y_eqI, y_eqS, y_neI, y_neS, y_eqYI, y_eqYS, y_neYI, y_neYS, y_ixT, y_ixL, y_trB, y_k0, y_k1, y_k2, y_k3, y_k4, y_k5, y_k6, y_lenT, y_lenL, y_lenS, startE, List.map_cons, List.map_nil, List.length_cons, List.length_nil, List.replicate, List.cons_append, List.nil_append, List.append_nil, Nat.sub_self, Nat.reduceSub, Nat.reduceAdd, Nat.reduceLeDiff, Nat.reduceEqDiff, Nat.zero_add, Nat.zero_le, Nat.sub_zero, List.set_cons_zero, List.set_cons_succ, List.getElem?_cons_zero, List.getElem?_cons_succ, Bool.not_true, Bool.not_false, decide_true, decide_false, e3, e4]
  have s5 : b5S [x0, some (.int k), some (.int c), some (.ref S.length), some (.int r), x5, x6, x7, x8, some f1.d, some f2.d, none, none, none, none] S4 = some (.nx [x0, some (.int k), some (.int c), some (.ref S.length), some (.int r), some (.lst (f1.ns.map .str)), x6, x7, x8, some f1.d, some f2.d, none, none, none, none] S4) := by
    have nc := nm_comp S4 o1 [x0, some (.int k), some (.int c), some (.ref S.length), some (.int r), x5, x6, x7, x8, some f1.d, some f2.d, none, none, none, none] 11 (by simp)
    have i1 := fc_ix1 S4 f1
    generalize f1.dd.map Dd.d = ds at *
    generalize f1.ns.map D.str = nn at *
    generalize f1.d = d1 at *
    generalize f2.d = d2 at *
    generalize S.length = n at *
    simp only [b5S, x_bnd, x_bnS, x_c, x_var, x_varK, x_stl, x_stlV, x_stlL, x_stlE, x_stlD, x_bxd, x_bxV, x_bxK, x_okv, x_okm, x_d2, x_d2K, x_d2L, x_tst, x_tstK, x_ch, x_chK, x_chL, x_chMt, x_chMf, x_chN, x_and, x_andK, x_andT, x_andF, x_or, x_orK, x_orT, x_orF, x_not, x_notK, x_notL, x_tru, x_truK, x_truL, x_band, x_bandT, x_bandF, x_bor, x_borT, x_borF, x_bnot, x_bnotK, x_dif, x_difT, x_difF, x_anil, x_acons, x_aK, x_aL, x_tup, x_tupK, x_lst, x_lstK, x_cl, x_clK, x_fn, x_fnK, x_isi, x_isiK, x_isiL, x_neg, x_negK, x_revL, x_kget, x_kgetK, x_sl, x_slK, x_slL, x_pnone, x_psome, x_psK, x_mt, x_mtK, x_mtL, x_itA, x_itAK, x_itL, x_itSeq, x_seqK, x_itStr, x_istrK, x_comp, x_compK, x_compL, x_wipe1, x_wipe2, x_seq, x_sqN, x_sqR, x_sqB, x_sqC, x_next, x_ret, x_retK, x_retN, x_asg, x_asgB, x_asgK, x_drop, x_dropK, x_if, x_ifT, x_ifF, x_for, x_forK, x_tgt, x_tgtK, x_tgtL, x_tname, x_par, x_parK, x_dput, x_dputK, x_dputK1, x_dputK2, x_dputL, x_def, x_defR, x_defN, y_add, y_sub, y_mul, y_mulX, y_mod, y_fdiv, y_lt, y_le, y_gt, y_ge, y_eqI, y_eqS, y_neI, y_neS, y_eqYI, y_eqYS, y_neYI, y_neYS, y_ixT, y_ixL, y_trB, y_k0, y_k1, y_k2, y_k3, y_k4, y_k5, y_k6, y_lenT, y_lenL, y_lenS, startE, List.map_cons, List.map_nil, List.length_cons, List.length_nil, List.replicate, List.cons_append, List.nil_append, List.append_nil, Nat.sub_self, Nat.reduceSub, Nat.reduceAdd, Nat.reduceLeDiff, Nat.reduceEqDiff, Nat.zero_add, Nat.zero_le, Nat.sub_zero, List.set_cons_zero, List.set_cons_succ, List.getElem?_cons_zero, List.getElem?_cons_succ, Bool.not_true, Bool.not_false, decide_true, decide_false, i1, fix_T, x_wipe1, nc]
  obtain ⟨a, ha, ha2, s6⟩ := b6_ok o1 x0 (some (.int k)) (some (.int c)) (some (.ref S.length)) (some (.int r)) x6 x7 x8 (some f1.d) (some f2.d) S4
  obtain ⟨d, hd, s7⟩ := b7_ok o1 ha ha2 ⟨r1, r2⟩ x0 (some (.int k)) (some (.int c)) (some (.ref S.length)) x7 x8 (some f1.d) (some f2.d) none none none none S4
  obtain ⟨l, hl, s8⟩ := b8_ok o1 hd x0 (some (.int k)) (some (.int c)) (some (.ref S.length)) (some (.int r)) (some (.str a)) x8 (some f2.d) S4
  obtain ⟨S5, s9, _⟩ := b9_ok o1 0 hl x0 (some (.int k)) (some (.int c)) (some (.ref S.length)) (some (.int r)) (some (.lst (f1.ns.map .str))) (some (.str a)) (some d) (some f2.d) S4
  obtain ⟨S6, s10, _⟩ := b9_ok o1 1 hl x0 (some (.int k)) (some (.int c)) (some (.ref S.length)) (some (.int r)) (some (.lst (f1.ns.map .str))) (some (.str a)) (some d) (some f2.d) S5
  refine ⟨some (.ref S.length), some (.int r), some (.lst (f1.ns.map .str)), some (.str a), some d, some (.lst l), some f1.d, some f2.d, S6, ?_⟩
  unfold bodS
  rw [x_seq, s1, x_sqN, x_seq, s2, x_sqN, x_seq, s3, x_sqN, x_seq, s4, x_sqN, x_seq, s5, x_sqN, x_seq, s6, x_sqN, x_seq, s7, x_sqN, x_seq, s8, x_sqN, x_seq, s9, x_sqN, s10]
theorem cells (x0 : Option D) : ∀ (cs : List Int) (k : Nat) (S : Sto) (x1 x2 x3 x4 x5 x6 x7 x8 x9 x10 : Option D), k + cs.length ≤ 50 →
    ∃ y1 y2 y3 y4 y5 y6 y7 y8 y9 y10 S', loopS (tTup (tsCons (tName 1) (tsCons (tName 2) tsNil))) bodS (enumL k (cs.map .int)) [x0, x1, x2, x3, x4, x5, x6, x7, x8, x9, x10, none, none, none, none] S = some (.nx [x0, y1, y2, y3, y4, y5, y6, y7, y8, y9, y10, none, none, none, none] S')
  | [], k, S, x1, x2, x3, x4, x5, x6, x7, x8, x9, x10, _ => ⟨x1, x2, x3, x4, x5, x6, x7, x8, x9, x10, S, rfl⟩
  | c :: cs, k, S, x1, x2, x3, x4, x5, x6, x7, x8, x9, x10, hk => by
    rw [List.length_cons] at hk
    obtain ⟨y3, y4, y5, y6, y7, y8, y9, y10, S1, e1⟩ := cell_ok ((k : Nat) : Int) c (by omega) x0 x3 x4 x5 x6 x7 x8 x9 x10 S
    obtain ⟨z1, z2, z3, z4, z5, z6, z7, z8, z9, z10, S2, e2⟩ := cells x0 cs (k + 1) S1 (some (.int (k : Int))) (some (.int c)) y3 y4 y5 y6 y7 y8 y9 y10 (by omega)
    exact ⟨z1, z2, z3, z4, z5, z6, z7, z8, z9, z10, S2, ls_cons rfl e1 e2⟩
theorem cutTo {ds : List D} {i : Nat} (h : i ≤ ds.length) : Sf.cutD ds none (some (i : Int)) = ds.take i := by
  unfold Sf.cutD
  rw [HT.sIx_none, HT.sIx_nat, Nat.min_eq_left h, List.drop_zero, Nat.sub_zero]
theorem cut10 (ds : List D) : Sf.cutD ds none (some 10) = ds.take 10 := by
  by_cases h : 10 ≤ ds.length
  · exact cutTo (i := 10) h
  · unfold Sf.cutD
    rw [HT.sIx_none]
    show (ds.drop 0).take (min 10 ds.length - 0) = ds.take 10
    rw [Nat.min_eq_right (by omega), List.drop_zero, Nat.sub_zero, List.take_of_length_le (Nat.le_refl _), List.take_of_length_le (by omega)]
theorem sl_fls (S : Sto) (ds : List D) : slD S (.fls ds) none (some 10) = some (.own (.lst (Sf.cutD ds none (some 10)))) := rfl
theorem en_lst (ds : List D) : enumD [.lst ds] = some (enumL 0 ds) := rfl
theorem ints_map : ∀ ns : List Int, intsD (ns.map .int) = some ns
  | [] => rfl
  | n :: ns => by
    simp only [List.map_cons, intsD, ints_map ns]
    rfl
theorem y_sum (S : Sto) (ns : List Int) : sumD S [.fls (ns.map .int)] = some (.val (.int ns.sum)) := by
  have e : sumD S [.fls (ns.map .int)] = match intsD (ns.map .int) with
    | some ns => some (.val (.int ns.sum))
    | none => none := rfl
  rw [e, ints_map]
theorem lA (ns : List Int) (l : En) (y : Fl) (he : loopS (tTup (tsCons (tName 1) (tsCons (tName 2) tsNil))) bodS (enumL 0 ((ns.map D.int).take 10 ++ [.int ns.sum])) (some (.fls (ns.map .int)) :: l) [] = some y) :
    lawF (some (.fls (ns.map .int)) :: l) [] = some y := by
  have ysu := fun S => y_sum S ns
  have tk : (List.take 10 (ns.map D.int)).length ≤ 10 := by rw [List.length_take]; omega
  have yal : addD [] (.lst (List.take 10 (ns.map D.int))) (.lst [.int ns.sum]) = some (.own (.lst (List.take 10 (ns.map D.int) ++ [.int ns.sum]))) := adLD _ _ _ (by rw [List.length_singleton]; omega)
  generalize hds : ns.map D.int = ds at he ysu tk yal ⊢
  generalize hsm : ns.sum = sm at he ysu yal
  generalize hxs : List.take 10 ds ++ [D.int sm] = xs at he yal ⊢
  simp only [lawF, x_bnd, x_bnS, x_c, x_var, x_varK, x_stl, x_stlV, x_stlL, x_stlE, x_stlD, x_bxd, x_bxV, x_bxK, x_okv, x_okm, x_d2, x_d2K, x_d2L, x_tst, x_tstK, x_ch, x_chK, x_chL, x_chMt, x_chMf, x_chN, x_and, x_andK, x_andT, x_andF, x_or, x_orK, x_orT, x_orF, x_not, x_notK, x_notL, x_tru, x_truK, x_truL, x_band, x_bandT, x_bandF, x_bor, x_borT, x_borF, x_bnot, x_bnotK, x_dif, x_difT, x_difF, x_anil, x_acons, x_aK, x_aL, x_tup, x_tupK, x_lst, x_lstK, x_cl, x_clK, x_fn, x_fnK, x_isi, x_isiK, x_isiL, x_neg, x_negK, x_revL, x_kget, x_kgetK, x_sl, x_slK, x_slL, x_pnone, x_psome, x_psK, x_mt, x_mtK, x_mtL, x_itA, x_itAK, x_itL, x_itSeq, x_seqK, x_itStr, x_istrK, x_comp, x_compK, x_compL, x_wipe1, x_wipe2, x_seq, x_sqN, x_sqR, x_sqB, x_sqC, x_next, x_ret, x_retK, x_retN, x_asg, x_asgB, x_asgK, x_drop, x_dropK, x_if, x_ifT, x_ifF, x_for, x_forK, x_tgt, x_tgtK, x_tgtL, x_tname, x_par, x_parK, x_dput, x_dputK, x_dputK1, x_dputK2, x_dputL, x_def, x_defR, x_defN, y_add, y_sub, y_mul, y_mulX, y_mod, y_fdiv, y_lt, y_le, y_gt, y_ge, y_eqI, y_eqS, y_neI, y_neS, y_eqYI, y_eqYS, y_neYI, y_neYS, y_ixT, y_ixL, y_trB, y_k0, y_k1, y_k2, y_k3, y_k4, y_k5, y_k6, y_lenT, y_lenL, y_lenS, startE, List.map_cons, List.map_nil, List.length_cons, List.length_nil, List.replicate, List.cons_append, List.nil_append, List.append_nil, Nat.sub_self, Nat.reduceSub, Nat.reduceAdd, Nat.reduceLeDiff, Nat.reduceEqDiff, Nat.zero_add, Nat.zero_le, Nat.sub_zero, List.set_cons_zero, List.set_cons_succ, List.getElem?_cons_zero, List.getElem?_cons_succ, Bool.not_true, Bool.not_false, decide_true, decide_false, sl_fls, cut10, ysu, yal, en_lst, he]
theorem answers : ∀ ns : List Int, ns.length ≤ 63 → ∃ S, den_law [.fls (ns.map .int)] [] = some (.ok (.val (.bl true)) S) := by
  intro ns _
  have hl : (ns.take 10 ++ [ns.sum]).length ≤ 11 := by rw [List.length_append, List.length_take, List.length_singleton]; omega
  obtain ⟨y1, y2, y3, y4, y5, y6, y7, y8, y9, y10, S', e⟩ := cells (some (.fls (ns.map .int))) (ns.take 10 ++ [ns.sum]) 0 [] none none none none none none none none none none (by omega)
  rw [List.map_append, List.map_take, List.map_cons, List.map_nil] at e
  have h1 := lA ns _ _ e
  refine ⟨S', ?_⟩
  have st : startE 15 [D.fls (ns.map .int)] = [some (.fls (ns.map .int)), none, none, none, none, none, none, none, none, none, none, none, none, none, none] := rfl
  rw [den_l, x_def, st, x_seq, h1, x_sqN]
  rfl
end W03
namespace W03
open Sf L2 PySem PySem.Spec PyProof.Rows
theorem all_mk {P : Program} {w : World} {K : PySem.W.Frag} {h : Heap} {mg : Str → Option Value} (inK : K.In h) (glob : h.Ns mainGlobals mg)
  {t_LETTERS : Tok}
  {t_MOST_DEEDS : Tok}
  {t_MOST_HIDDEN : Tok}
  {t_MOST_LETTERS : Tok}
  {t_MOST_TAKEN : Tok}
  {f_is_whole : Addr} {o1_is_whole o2_is_whole o3_is_whole o4_is_whole o5_is_whole o6_is_whole : Value} {o7_is_whole o8_is_whole : Option Addr} {o9_is_whole : Array (Option Value)}
  {f_is_among : Addr} {o1_is_among o2_is_among o3_is_among o4_is_among o5_is_among o6_is_among : Value} {o7_is_among o8_is_among : Option Addr} {o9_is_among : Array (Option Value)}
  {f_is_name : Addr} {o1_is_name o2_is_name o3_is_name o4_is_name o5_is_name o6_is_name : Value} {o7_is_name o8_is_name : Option Addr} {o9_is_name : Array (Option Value)}
  {f_is_plain : Addr} {o1_is_plain o2_is_plain o3_is_plain o4_is_plain o5_is_plain o6_is_plain : Value} {o7_is_plain o8_is_plain : Option Addr} {o9_is_plain : Array (Option Value)}
  {f_is_kind : Addr} {o1_is_kind o2_is_kind o3_is_kind o4_is_kind o5_is_kind o6_is_kind : Value} {o7_is_kind o8_is_kind : Option Addr} {o9_is_kind : Array (Option Value)}
  {f_are_taken : Addr} {o1_are_taken o2_are_taken o3_are_taken o4_are_taken o5_are_taken o6_are_taken : Value} {o7_are_taken o8_are_taken : Option Addr} {o9_are_taken : Array (Option Value)}
  {f_is_deed : Addr} {o1_is_deed o2_is_deed o3_is_deed o4_is_deed o5_is_deed o6_is_deed : Value} {o7_is_deed o8_is_deed : Option Addr} {o9_is_deed : Array (Option Value)}
  {f_is_part : Addr} {o1_is_part o2_is_part o3_is_part o4_is_part o5_is_part o6_is_part : Value} {o7_is_part o8_is_part : Option Addr} {o9_is_part : Array (Option Value)}
  {f_bad_hidden : Addr} {o1_bad_hidden o2_bad_hidden o3_bad_hidden o4_bad_hidden o5_bad_hidden o6_bad_hidden : Value} {o7_bad_hidden o8_bad_hidden : Option Addr} {o9_bad_hidden : Array (Option Value)}
  {f_bad_deed : Addr} {o1_bad_deed o2_bad_deed o3_bad_deed o4_bad_deed o5_bad_deed o6_bad_deed : Value} {o7_bad_deed o8_bad_deed : Option Addr} {o9_bad_deed : Array (Option Value)}
  {f_need_face : Addr} {o1_need_face o2_need_face o3_need_face o4_need_face o5_need_face o6_need_face : Value} {o7_need_face o8_need_face : Option Addr} {o9_need_face : Array (Option Value)}
  {f_is_face : Addr} {o1_is_face o2_is_face o3_is_face o4_is_face o5_is_face o6_is_face : Value} {o7_is_face o8_is_face : Option Addr} {o9_is_face : Array (Option Value)}
  {f_deeds_by_name : Addr} {o1_deeds_by_name o2_deeds_by_name o3_deeds_by_name o4_deeds_by_name o5_deeds_by_name o6_deeds_by_name : Value} {o7_deeds_by_name o8_deeds_by_name : Option Addr} {o9_deeds_by_name : Array (Option Value)}
  {f_need_deed : Addr} {o1_need_deed o2_need_deed o3_need_deed o4_need_deed o5_need_deed o6_need_deed : Value} {o7_need_deed o8_need_deed : Option Addr} {o9_need_deed : Array (Option Value)}
  {f_hidden_of : Addr} {o1_hidden_of o2_hidden_of o3_hidden_of o4_hidden_of o5_hidden_of o6_hidden_of : Value} {o7_hidden_of o8_hidden_of : Option Addr} {o9_hidden_of : Array (Option Value)}
  {f_names_of : Addr} {o1_names_of o2_names_of o3_names_of o4_names_of o5_names_of o6_names_of : Value} {o7_names_of o8_names_of : Option Addr} {o9_names_of : Array (Option Value)}
  {f_takes_of : Addr} {o1_takes_of o2_takes_of o3_takes_of o4_takes_of o5_takes_of o6_takes_of : Value} {o7_takes_of o8_takes_of : Option Addr} {o9_takes_of : Array (Option Value)}
  {f_gives_of : Addr} {o1_gives_of o2_gives_of o3_gives_of o4_gives_of o5_gives_of o6_gives_of : Value} {o7_gives_of o8_gives_of : Option Addr} {o9_gives_of : Array (Option Value)}
  {f_law_mixed : Addr} {o1_law_mixed o2_law_mixed o3_law_mixed o4_law_mixed o5_law_mixed o6_law_mixed : Value} {o7_law_mixed o8_law_mixed : Option Addr} {o9_law_mixed : Array (Option Value)}
  {f_law_kinds : Addr} {o1_law_kinds o2_law_kinds o3_law_kinds o4_law_kinds o5_law_kinds o6_law_kinds : Value} {o7_law_kinds o8_law_kinds : Option Addr} {o9_law_kinds : Array (Option Value)}
  {f_law_draw : Addr} {o1_law_draw o2_law_draw o3_law_draw o4_law_draw o5_law_draw o6_law_draw : Value} {o7_law_draw o8_law_draw : Option Addr} {o9_law_draw : Array (Option Value)}
  {f_law_digit : Addr} {o1_law_digit o2_law_digit o3_law_digit o4_law_digit o5_law_digit o6_law_digit : Value} {o7_law_digit o8_law_digit : Option Addr} {o9_law_digit : Array (Option Value)}
  {f_law_names : Addr} {o1_law_names o2_law_names o3_law_names o4_law_names o5_law_names o6_law_names : Value} {o7_law_names o8_law_names : Option Addr} {o9_law_names : Array (Option Value)}
  {f_law_kind : Addr} {o1_law_kind o2_law_kind o3_law_kind o4_law_kind o5_law_kind o6_law_kind : Value} {o7_law_kind o8_law_kind : Option Addr} {o9_law_kind : Array (Option Value)}
  {f_law_face : Addr} {o1_law_face o2_law_face o3_law_face o4_law_face o5_law_face o6_law_face : Value} {o7_law_face o8_law_face : Option Addr} {o9_law_face : Array (Option Value)}
  {f_law_refused : Addr} {o1_law_refused o2_law_refused o3_law_refused o4_law_refused o5_law_refused o6_law_refused : Value} {o7_law_refused o8_law_refused : Option Addr} {o9_law_refused : Array (Option Value)}
  {f_law_right : Addr} {o1_law_right o2_law_right o3_law_right o4_law_right o5_law_right o6_law_right : Value} {o7_law_right o8_law_right : Option Addr} {o9_law_right : Array (Option Value)}
  {f_law : Addr} {o1_law o2_law o3_law o4_law o5_law o6_law : Value} {o7_law o8_law : Option Addr} {o9_law : Array (Option Value)}
  {X_BadFace : Addr}
  {X_BadInput : Addr}
  {X_BadLead : Addr}
  {X_BadMaking : Addr}
  {X_BadModule : Addr}
  {X_BadPaper : Addr}
  {X_BadProgram : Addr}
  {X_BadRow : Addr}
  {X_BadSteps : Addr}
  {X_BadUse : Addr}
  {X_BadUser : Addr}
  {X_FaceError : Addr}
  {X_OutOfPlace : Addr}
  {X_Refused : Addr}
  {X_ToldApart : Addr}
  {X_TooGreat : Addr}
  (b_ValueError : PySem.W.nsIn K mainGlobals "ValueError" = some none)
  (b_all : PySem.W.nsIn K mainGlobals "all" = some none)
  (b_bool : PySem.W.nsIn K mainGlobals "bool" = some none)
  (b_dict : PySem.W.nsIn K mainGlobals "dict" = some none)
  (b_enumerate : PySem.W.nsIn K mainGlobals "enumerate" = some none)
  (b_int : PySem.W.nsIn K mainGlobals "int" = some none)
  (b_isinstance : PySem.W.nsIn K mainGlobals "isinstance" = some none)
  (b_len : PySem.W.nsIn K mainGlobals "len" = some none)
  (b_list : PySem.W.nsIn K mainGlobals "list" = some none)
  (b_range : PySem.W.nsIn K mainGlobals "range" = some none)
  (b_repr : PySem.W.nsIn K mainGlobals "repr" = some none)
  (b_sorted : PySem.W.nsIn K mainGlobals "sorted" = some none)
  (b_str : PySem.W.nsIn K mainGlobals "str" = some none)
  (b_sum : PySem.W.nsIn K mainGlobals "sum" = some none)
  (b_tuple : PySem.W.nsIn K mainGlobals "tuple" = some none)
  (c_LETTERS : PySem.W.nsIn K mainGlobals "LETTERS" = some (some (.str "abcdefghijklmnopqrstuvwxyz" t_LETTERS)))
  (c_MOST_DEEDS : PySem.W.nsIn K mainGlobals "MOST_DEEDS" = some (some (.int 8 t_MOST_DEEDS)))
  (c_MOST_HIDDEN : PySem.W.nsIn K mainGlobals "MOST_HIDDEN" = some (some (.int 2 t_MOST_HIDDEN)))
  (c_MOST_LETTERS : PySem.W.nsIn K mainGlobals "MOST_LETTERS" = some (some (.int 8 t_MOST_LETTERS)))
  (c_MOST_TAKEN : PySem.W.nsIn K mainGlobals "MOST_TAKEN" = some (some (.int 3 t_MOST_TAKEN)))
  (e1_is_whole : PySem.W.nsIn K mainGlobals "is_whole" = some (some (.ref f_is_whole))) (e2_is_whole : K.lookup f_is_whole = some ⟨o1_is_whole, o7_is_whole, .func (PySem.W.fnOf "is_whole" "is_whole" (L2.defArgs (top 20)) (L2.defBody (top 20)) (L2.defScope (top 20)) .none o2_is_whole o3_is_whole o4_is_whole o8_is_whole o5_is_whole o6_is_whole), o9_is_whole⟩) (e3_is_whole : PySem.W.codeIn K o5_is_whole "is_whole" = true) (e4_is_whole : PySem.W.keepIn K (.ref f_is_whole) = true)
  (e1_is_among : PySem.W.nsIn K mainGlobals "is_among" = some (some (.ref f_is_among))) (e2_is_among : K.lookup f_is_among = some ⟨o1_is_among, o7_is_among, .func (PySem.W.fnOf "is_among" "is_among" (L2.defArgs (top 21)) (L2.defBody (top 21)) (L2.defScope (top 21)) .none o2_is_among o3_is_among o4_is_among o8_is_among o5_is_among o6_is_among), o9_is_among⟩) (e3_is_among : PySem.W.codeIn K o5_is_among "is_among" = true) (e4_is_among : PySem.W.keepIn K (.ref f_is_among) = true)
  (e1_is_name : PySem.W.nsIn K mainGlobals "is_name" = some (some (.ref f_is_name))) (e2_is_name : K.lookup f_is_name = some ⟨o1_is_name, o7_is_name, .func (PySem.W.fnOf "is_name" "is_name" (L2.defArgs (top 22)) (L2.defBody (top 22)) (L2.defScope (top 22)) .none o2_is_name o3_is_name o4_is_name o8_is_name o5_is_name o6_is_name), o9_is_name⟩) (e3_is_name : PySem.W.codeIn K o5_is_name "is_name" = true) (e4_is_name : PySem.W.keepIn K (.ref f_is_name) = true)
  (e1_is_plain : PySem.W.nsIn K mainGlobals "is_plain" = some (some (.ref f_is_plain))) (e2_is_plain : K.lookup f_is_plain = some ⟨o1_is_plain, o7_is_plain, .func (PySem.W.fnOf "is_plain" "is_plain" (L2.defArgs (top 27)) (L2.defBody (top 27)) (L2.defScope (top 27)) .none o2_is_plain o3_is_plain o4_is_plain o8_is_plain o5_is_plain o6_is_plain), o9_is_plain⟩) (e3_is_plain : PySem.W.codeIn K o5_is_plain "is_plain" = true) (e4_is_plain : PySem.W.keepIn K (.ref f_is_plain) = true)
  (e1_is_kind : PySem.W.nsIn K mainGlobals "is_kind" = some (some (.ref f_is_kind))) (e2_is_kind : K.lookup f_is_kind = some ⟨o1_is_kind, o7_is_kind, .func (PySem.W.fnOf "is_kind" "is_kind" (L2.defArgs (top 28)) (L2.defBody (top 28)) (L2.defScope (top 28)) .none o2_is_kind o3_is_kind o4_is_kind o8_is_kind o5_is_kind o6_is_kind), o9_is_kind⟩) (e3_is_kind : PySem.W.codeIn K o5_is_kind "is_kind" = true) (e4_is_kind : PySem.W.keepIn K (.ref f_is_kind) = true)
  (e1_are_taken : PySem.W.nsIn K mainGlobals "are_taken" = some (some (.ref f_are_taken))) (e2_are_taken : K.lookup f_are_taken = some ⟨o1_are_taken, o7_are_taken, .func (PySem.W.fnOf "are_taken" "are_taken" (L2.defArgs (top 29)) (L2.defBody (top 29)) (L2.defScope (top 29)) .none o2_are_taken o3_are_taken o4_are_taken o8_are_taken o5_are_taken o6_are_taken), o9_are_taken⟩) (e3_are_taken : PySem.W.codeIn K o5_are_taken "are_taken" = true) (e4_are_taken : PySem.W.keepIn K (.ref f_are_taken) = true)
  (e1_is_deed : PySem.W.nsIn K mainGlobals "is_deed" = some (some (.ref f_is_deed))) (e2_is_deed : K.lookup f_is_deed = some ⟨o1_is_deed, o7_is_deed, .func (PySem.W.fnOf "is_deed" "is_deed" (L2.defArgs (top 30)) (L2.defBody (top 30)) (L2.defScope (top 30)) .none o2_is_deed o3_is_deed o4_is_deed o8_is_deed o5_is_deed o6_is_deed), o9_is_deed⟩) (e3_is_deed : PySem.W.codeIn K o5_is_deed "is_deed" = true) (e4_is_deed : PySem.W.keepIn K (.ref f_is_deed) = true)
  (e1_is_part : PySem.W.nsIn K mainGlobals "is_part" = some (some (.ref f_is_part))) (e2_is_part : K.lookup f_is_part = some ⟨o1_is_part, o7_is_part, .func (PySem.W.fnOf "is_part" "is_part" (L2.defArgs (top 31)) (L2.defBody (top 31)) (L2.defScope (top 31)) .none o2_is_part o3_is_part o4_is_part o8_is_part o5_is_part o6_is_part), o9_is_part⟩) (e3_is_part : PySem.W.codeIn K o5_is_part "is_part" = true) (e4_is_part : PySem.W.keepIn K (.ref f_is_part) = true)
  (e1_bad_hidden : PySem.W.nsIn K mainGlobals "bad_hidden" = some (some (.ref f_bad_hidden))) (e2_bad_hidden : K.lookup f_bad_hidden = some ⟨o1_bad_hidden, o7_bad_hidden, .func (PySem.W.fnOf "bad_hidden" "bad_hidden" (L2.defArgs (top 32)) (L2.defBody (top 32)) (L2.defScope (top 32)) .none o2_bad_hidden o3_bad_hidden o4_bad_hidden o8_bad_hidden o5_bad_hidden o6_bad_hidden), o9_bad_hidden⟩) (e3_bad_hidden : PySem.W.codeIn K o5_bad_hidden "bad_hidden" = true) (e4_bad_hidden : PySem.W.keepIn K (.ref f_bad_hidden) = true)
  (e1_bad_deed : PySem.W.nsIn K mainGlobals "bad_deed" = some (some (.ref f_bad_deed))) (e2_bad_deed : K.lookup f_bad_deed = some ⟨o1_bad_deed, o7_bad_deed, .func (PySem.W.fnOf "bad_deed" "bad_deed" (L2.defArgs (top 33)) (L2.defBody (top 33)) (L2.defScope (top 33)) .none o2_bad_deed o3_bad_deed o4_bad_deed o8_bad_deed o5_bad_deed o6_bad_deed), o9_bad_deed⟩) (e3_bad_deed : PySem.W.codeIn K o5_bad_deed "bad_deed" = true) (e4_bad_deed : PySem.W.keepIn K (.ref f_bad_deed) = true)
  (e1_need_face : PySem.W.nsIn K mainGlobals "need_face" = some (some (.ref f_need_face))) (e2_need_face : K.lookup f_need_face = some ⟨o1_need_face, o7_need_face, .func (PySem.W.fnOf "need_face" "need_face" (L2.defArgs (top 34)) (L2.defBody (top 34)) (L2.defScope (top 34)) .none o2_need_face o3_need_face o4_need_face o8_need_face o5_need_face o6_need_face), o9_need_face⟩) (e3_need_face : PySem.W.codeIn K o5_need_face "need_face" = true) (e4_need_face : PySem.W.keepIn K (.ref f_need_face) = true)
  (e1_is_face : PySem.W.nsIn K mainGlobals "is_face" = some (some (.ref f_is_face))) (e2_is_face : K.lookup f_is_face = some ⟨o1_is_face, o7_is_face, .func (PySem.W.fnOf "is_face" "is_face" (L2.defArgs (top 35)) (L2.defBody (top 35)) (L2.defScope (top 35)) .none o2_is_face o3_is_face o4_is_face o8_is_face o5_is_face o6_is_face), o9_is_face⟩) (e3_is_face : PySem.W.codeIn K o5_is_face "is_face" = true) (e4_is_face : PySem.W.keepIn K (.ref f_is_face) = true)
  (e1_deeds_by_name : PySem.W.nsIn K mainGlobals "deeds_by_name" = some (some (.ref f_deeds_by_name))) (e2_deeds_by_name : K.lookup f_deeds_by_name = some ⟨o1_deeds_by_name, o7_deeds_by_name, .func (PySem.W.fnOf "deeds_by_name" "deeds_by_name" (L2.defArgs (top 36)) (L2.defBody (top 36)) (L2.defScope (top 36)) .none o2_deeds_by_name o3_deeds_by_name o4_deeds_by_name o8_deeds_by_name o5_deeds_by_name o6_deeds_by_name), o9_deeds_by_name⟩) (e3_deeds_by_name : PySem.W.codeIn K o5_deeds_by_name "deeds_by_name" = true) (e4_deeds_by_name : PySem.W.keepIn K (.ref f_deeds_by_name) = true)
  (e1_need_deed : PySem.W.nsIn K mainGlobals "need_deed" = some (some (.ref f_need_deed))) (e2_need_deed : K.lookup f_need_deed = some ⟨o1_need_deed, o7_need_deed, .func (PySem.W.fnOf "need_deed" "need_deed" (L2.defArgs (top 37)) (L2.defBody (top 37)) (L2.defScope (top 37)) .none o2_need_deed o3_need_deed o4_need_deed o8_need_deed o5_need_deed o6_need_deed), o9_need_deed⟩) (e3_need_deed : PySem.W.codeIn K o5_need_deed "need_deed" = true) (e4_need_deed : PySem.W.keepIn K (.ref f_need_deed) = true)
  (e1_hidden_of : PySem.W.nsIn K mainGlobals "hidden_of" = some (some (.ref f_hidden_of))) (e2_hidden_of : K.lookup f_hidden_of = some ⟨o1_hidden_of, o7_hidden_of, .func (PySem.W.fnOf "hidden_of" "hidden_of" (L2.defArgs (top 38)) (L2.defBody (top 38)) (L2.defScope (top 38)) .none o2_hidden_of o3_hidden_of o4_hidden_of o8_hidden_of o5_hidden_of o6_hidden_of), o9_hidden_of⟩) (e3_hidden_of : PySem.W.codeIn K o5_hidden_of "hidden_of" = true) (e4_hidden_of : PySem.W.keepIn K (.ref f_hidden_of) = true)
  (e1_names_of : PySem.W.nsIn K mainGlobals "names_of" = some (some (.ref f_names_of))) (e2_names_of : K.lookup f_names_of = some ⟨o1_names_of, o7_names_of, .func (PySem.W.fnOf "names_of" "names_of" (L2.defArgs (top 39)) (L2.defBody (top 39)) (L2.defScope (top 39)) .none o2_names_of o3_names_of o4_names_of o8_names_of o5_names_of o6_names_of), o9_names_of⟩) (e3_names_of : PySem.W.codeIn K o5_names_of "names_of" = true) (e4_names_of : PySem.W.keepIn K (.ref f_names_of) = true)
  (e1_takes_of : PySem.W.nsIn K mainGlobals "takes_of" = some (some (.ref f_takes_of))) (e2_takes_of : K.lookup f_takes_of = some ⟨o1_takes_of, o7_takes_of, .func (PySem.W.fnOf "takes_of" "takes_of" (L2.defArgs (top 40)) (L2.defBody (top 40)) (L2.defScope (top 40)) .none o2_takes_of o3_takes_of o4_takes_of o8_takes_of o5_takes_of o6_takes_of), o9_takes_of⟩) (e3_takes_of : PySem.W.codeIn K o5_takes_of "takes_of" = true) (e4_takes_of : PySem.W.keepIn K (.ref f_takes_of) = true)
  (e1_gives_of : PySem.W.nsIn K mainGlobals "gives_of" = some (some (.ref f_gives_of))) (e2_gives_of : K.lookup f_gives_of = some ⟨o1_gives_of, o7_gives_of, .func (PySem.W.fnOf "gives_of" "gives_of" (L2.defArgs (top 41)) (L2.defBody (top 41)) (L2.defScope (top 41)) .none o2_gives_of o3_gives_of o4_gives_of o8_gives_of o5_gives_of o6_gives_of), o9_gives_of⟩) (e3_gives_of : PySem.W.codeIn K o5_gives_of "gives_of" = true) (e4_gives_of : PySem.W.keepIn K (.ref f_gives_of) = true)
  (e1_law_mixed : PySem.W.nsIn K mainGlobals "_law_mixed" = some (some (.ref f_law_mixed))) (e2_law_mixed : K.lookup f_law_mixed = some ⟨o1_law_mixed, o7_law_mixed, .func (PySem.W.fnOf "_law_mixed" "_law_mixed" (L2.defArgs (top 43)) (L2.defBody (top 43)) (L2.defScope (top 43)) .none o2_law_mixed o3_law_mixed o4_law_mixed o8_law_mixed o5_law_mixed o6_law_mixed), o9_law_mixed⟩) (e3_law_mixed : PySem.W.codeIn K o5_law_mixed "_law_mixed" = true) (e4_law_mixed : PySem.W.keepIn K (.ref f_law_mixed) = true)
  (e1_law_kinds : PySem.W.nsIn K mainGlobals "_law_kinds" = some (some (.ref f_law_kinds))) (e2_law_kinds : K.lookup f_law_kinds = some ⟨o1_law_kinds, o7_law_kinds, .func (PySem.W.fnOf "_law_kinds" "_law_kinds" (L2.defArgs (top 44)) (L2.defBody (top 44)) (L2.defScope (top 44)) .none o2_law_kinds o3_law_kinds o4_law_kinds o8_law_kinds o5_law_kinds o6_law_kinds), o9_law_kinds⟩) (e3_law_kinds : PySem.W.codeIn K o5_law_kinds "_law_kinds" = true) (e4_law_kinds : PySem.W.keepIn K (.ref f_law_kinds) = true)
  (e1_law_draw : PySem.W.nsIn K mainGlobals "_law_draw" = some (some (.ref f_law_draw))) (e2_law_draw : K.lookup f_law_draw = some ⟨o1_law_draw, o7_law_draw, .func (PySem.W.fnOf "_law_draw" "_law_draw" (L2.defArgs (top 45)) (L2.defBody (top 45)) (L2.defScope (top 45)) .none o2_law_draw o3_law_draw o4_law_draw o8_law_draw o5_law_draw o6_law_draw), o9_law_draw⟩) (e3_law_draw : PySem.W.codeIn K o5_law_draw "_law_draw" = true) (e4_law_draw : PySem.W.keepIn K (.ref f_law_draw) = true)
  (e1_law_digit : PySem.W.nsIn K mainGlobals "_law_digit" = some (some (.ref f_law_digit))) (e2_law_digit : K.lookup f_law_digit = some ⟨o1_law_digit, o7_law_digit, .func (PySem.W.fnOf "_law_digit" "_law_digit" (L2.defArgs (top 46)) (L2.defBody (top 46)) (L2.defScope (top 46)) .none o2_law_digit o3_law_digit o4_law_digit o8_law_digit o5_law_digit o6_law_digit), o9_law_digit⟩) (e3_law_digit : PySem.W.codeIn K o5_law_digit "_law_digit" = true) (e4_law_digit : PySem.W.keepIn K (.ref f_law_digit) = true)
  (e1_law_names : PySem.W.nsIn K mainGlobals "_law_names" = some (some (.ref f_law_names))) (e2_law_names : K.lookup f_law_names = some ⟨o1_law_names, o7_law_names, .func (PySem.W.fnOf "_law_names" "_law_names" (L2.defArgs (top 47)) (L2.defBody (top 47)) (L2.defScope (top 47)) .none o2_law_names o3_law_names o4_law_names o8_law_names o5_law_names o6_law_names), o9_law_names⟩) (e3_law_names : PySem.W.codeIn K o5_law_names "_law_names" = true) (e4_law_names : PySem.W.keepIn K (.ref f_law_names) = true)
  (e1_law_kind : PySem.W.nsIn K mainGlobals "_law_kind" = some (some (.ref f_law_kind))) (e2_law_kind : K.lookup f_law_kind = some ⟨o1_law_kind, o7_law_kind, .func (PySem.W.fnOf "_law_kind" "_law_kind" (L2.defArgs (top 48)) (L2.defBody (top 48)) (L2.defScope (top 48)) .none o2_law_kind o3_law_kind o4_law_kind o8_law_kind o5_law_kind o6_law_kind), o9_law_kind⟩) (e3_law_kind : PySem.W.codeIn K o5_law_kind "_law_kind" = true) (e4_law_kind : PySem.W.keepIn K (.ref f_law_kind) = true)
  (e1_law_face : PySem.W.nsIn K mainGlobals "_law_face" = some (some (.ref f_law_face))) (e2_law_face : K.lookup f_law_face = some ⟨o1_law_face, o7_law_face, .func (PySem.W.fnOf "_law_face" "_law_face" (L2.defArgs (top 49)) (L2.defBody (top 49)) (L2.defScope (top 49)) .none o2_law_face o3_law_face o4_law_face o8_law_face o5_law_face o6_law_face), o9_law_face⟩) (e3_law_face : PySem.W.codeIn K o5_law_face "_law_face" = true) (e4_law_face : PySem.W.keepIn K (.ref f_law_face) = true)
  (e1_law_refused : PySem.W.nsIn K mainGlobals "_law_refused" = some (some (.ref f_law_refused))) (e2_law_refused : K.lookup f_law_refused = some ⟨o1_law_refused, o7_law_refused, .func (PySem.W.fnOf "_law_refused" "_law_refused" (L2.defArgs (top 50)) (L2.defBody (top 50)) (L2.defScope (top 50)) .none o2_law_refused o3_law_refused o4_law_refused o8_law_refused o5_law_refused o6_law_refused), o9_law_refused⟩) (e3_law_refused : PySem.W.codeIn K o5_law_refused "_law_refused" = true) (e4_law_refused : PySem.W.keepIn K (.ref f_law_refused) = true)
  (e1_law_right : PySem.W.nsIn K mainGlobals "_law_right" = some (some (.ref f_law_right))) (e2_law_right : K.lookup f_law_right = some ⟨o1_law_right, o7_law_right, .func (PySem.W.fnOf "_law_right" "_law_right" (L2.defArgs (top 51)) (L2.defBody (top 51)) (L2.defScope (top 51)) .none o2_law_right o3_law_right o4_law_right o8_law_right o5_law_right o6_law_right), o9_law_right⟩) (e3_law_right : PySem.W.codeIn K o5_law_right "_law_right" = true) (e4_law_right : PySem.W.keepIn K (.ref f_law_right) = true)
  (e1_law : PySem.W.nsIn K mainGlobals "law" = some (some (.ref f_law))) (e2_law : K.lookup f_law = some ⟨o1_law, o7_law, .func (PySem.W.fnOf "law" "law" (L2.defArgs (top 52)) (L2.defBody (top 52)) (L2.defScope (top 52)) .none o2_law o3_law o4_law o8_law o5_law o6_law), o9_law⟩) (e3_law : PySem.W.codeIn K o5_law "law" = true) (e4_law : PySem.W.keepIn K (.ref f_law) = true)
  (k1_BadFace : PySem.W.nsIn K mainGlobals "BadFace" = some (some (.ref X_BadFace)))
  (k1_BadInput : PySem.W.nsIn K mainGlobals "BadInput" = some (some (.ref X_BadInput)))
  (k1_BadLead : PySem.W.nsIn K mainGlobals "BadLead" = some (some (.ref X_BadLead)))
  (k1_BadMaking : PySem.W.nsIn K mainGlobals "BadMaking" = some (some (.ref X_BadMaking)))
  (k1_BadModule : PySem.W.nsIn K mainGlobals "BadModule" = some (some (.ref X_BadModule)))
  (k1_BadPaper : PySem.W.nsIn K mainGlobals "BadPaper" = some (some (.ref X_BadPaper)))
  (k1_BadProgram : PySem.W.nsIn K mainGlobals "BadProgram" = some (some (.ref X_BadProgram)))
  (k1_BadRow : PySem.W.nsIn K mainGlobals "BadRow" = some (some (.ref X_BadRow)))
  (k1_BadSteps : PySem.W.nsIn K mainGlobals "BadSteps" = some (some (.ref X_BadSteps)))
  (k1_BadUse : PySem.W.nsIn K mainGlobals "BadUse" = some (some (.ref X_BadUse)))
  (k1_BadUser : PySem.W.nsIn K mainGlobals "BadUser" = some (some (.ref X_BadUser)))
  (k1_FaceError : PySem.W.nsIn K mainGlobals "FaceError" = some (some (.ref X_FaceError)))
  (k1_OutOfPlace : PySem.W.nsIn K mainGlobals "OutOfPlace" = some (some (.ref X_OutOfPlace)))
  (k1_Refused : PySem.W.nsIn K mainGlobals "Refused" = some (some (.ref X_Refused)))
  (k1_ToldApart : PySem.W.nsIn K mainGlobals "ToldApart" = some (some (.ref X_ToldApart)))
  (k1_TooGreat : PySem.W.nsIn K mainGlobals "TooGreat" = some (some (.ref X_TooGreat)))
  (x0_OutOfPlace : PySem.W.subIn K (.ref X_OutOfPlace) (.ref X_OutOfPlace) = some true) (x1_OutOfPlace : PySem.W.excIn K X_OutOfPlace [.type "ValueError", .type "Exception", .type "BaseException", .type "object"] "ValueError.__new__" = true) (x2_OutOfPlace : PySem.W.keepIn K (.ref X_OutOfPlace) = true) (x3_OutOfPlace : PySem.W.subIn K (.ref X_OutOfPlace) (.type "BaseException") = some true) (x4_OutOfPlace : PySem.W.typeIn K (.ref X_OutOfPlace) = some (.type "type")) (x5_OutOfPlace : PySem.W.findIn K (.ref X_OutOfPlace) "__getattribute__" = some (some (.builtin "BaseException.__getattribute__"))) (x6_OutOfPlace : PySem.W.findIn K (.ref X_OutOfPlace) "__getattr__" = some none) (x7_OutOfPlace : PySem.W.hasDictIn K X_OutOfPlace = true) (x8_OutOfPlace : PySem.W.findIn K (.ref X_OutOfPlace) "__class__" = some (some (.builtin "object.__class__"))) (x9_OutOfPlace : PySem.W.mroIn K X_OutOfPlace (.type "object") = some true)
  (xa : PySem.W.specialIn K (.builtin "object.__class__") "__get__" = some (some (.builtin "getset_descriptor.__get__"))) (xb : PySem.W.takesIn K (.builtin "object.__class__") = some true)
  (y1_FaceError : PySem.W.subIn K (.ref X_FaceError) (.type "BaseException") = some true) (y2_FaceError : PySem.W.hasDictIn K X_FaceError = true) (y3_FaceError : PySem.W.typeIn K (.ref X_FaceError) = some (.type "type"))
  (y4_OutOfPlace_FaceError : PySem.W.subIn K (.ref X_OutOfPlace) (.ref X_FaceError) = some true)
  (y2_BadFace : PySem.W.hasDictIn K X_BadFace = true) (y3_BadFace : PySem.W.typeIn K (.ref X_BadFace) = some (.type "type"))
  (z_OutOfPlace_BadFace : PySem.W.subIn K (.ref X_OutOfPlace) (.ref X_BadFace) = some false)
  (y2_BadInput : PySem.W.hasDictIn K X_BadInput = true) (y3_BadInput : PySem.W.typeIn K (.ref X_BadInput) = some (.type "type"))
  (z_OutOfPlace_BadInput : PySem.W.subIn K (.ref X_OutOfPlace) (.ref X_BadInput) = some false)
  (y2_BadLead : PySem.W.hasDictIn K X_BadLead = true) (y3_BadLead : PySem.W.typeIn K (.ref X_BadLead) = some (.type "type"))
  (z_OutOfPlace_BadLead : PySem.W.subIn K (.ref X_OutOfPlace) (.ref X_BadLead) = some false)
  (y2_BadMaking : PySem.W.hasDictIn K X_BadMaking = true) (y3_BadMaking : PySem.W.typeIn K (.ref X_BadMaking) = some (.type "type"))
  (z_OutOfPlace_BadMaking : PySem.W.subIn K (.ref X_OutOfPlace) (.ref X_BadMaking) = some false)
  (y2_BadModule : PySem.W.hasDictIn K X_BadModule = true) (y3_BadModule : PySem.W.typeIn K (.ref X_BadModule) = some (.type "type"))
  (z_OutOfPlace_BadModule : PySem.W.subIn K (.ref X_OutOfPlace) (.ref X_BadModule) = some false)
  (y2_BadPaper : PySem.W.hasDictIn K X_BadPaper = true) (y3_BadPaper : PySem.W.typeIn K (.ref X_BadPaper) = some (.type "type"))
  (z_OutOfPlace_BadPaper : PySem.W.subIn K (.ref X_OutOfPlace) (.ref X_BadPaper) = some false)
  (y2_BadProgram : PySem.W.hasDictIn K X_BadProgram = true) (y3_BadProgram : PySem.W.typeIn K (.ref X_BadProgram) = some (.type "type"))
  (z_OutOfPlace_BadProgram : PySem.W.subIn K (.ref X_OutOfPlace) (.ref X_BadProgram) = some false)
  (y2_BadRow : PySem.W.hasDictIn K X_BadRow = true) (y3_BadRow : PySem.W.typeIn K (.ref X_BadRow) = some (.type "type"))
  (z_OutOfPlace_BadRow : PySem.W.subIn K (.ref X_OutOfPlace) (.ref X_BadRow) = some false)
  (y2_BadSteps : PySem.W.hasDictIn K X_BadSteps = true) (y3_BadSteps : PySem.W.typeIn K (.ref X_BadSteps) = some (.type "type"))
  (z_OutOfPlace_BadSteps : PySem.W.subIn K (.ref X_OutOfPlace) (.ref X_BadSteps) = some false)
  (y2_BadUse : PySem.W.hasDictIn K X_BadUse = true) (y3_BadUse : PySem.W.typeIn K (.ref X_BadUse) = some (.type "type"))
  (z_OutOfPlace_BadUse : PySem.W.subIn K (.ref X_OutOfPlace) (.ref X_BadUse) = some false)
  (y2_BadUser : PySem.W.hasDictIn K X_BadUser = true) (y3_BadUser : PySem.W.typeIn K (.ref X_BadUser) = some (.type "type"))
  (z_OutOfPlace_BadUser : PySem.W.subIn K (.ref X_OutOfPlace) (.ref X_BadUser) = some false)
  (z_OutOfPlace_FaceError : PySem.W.subIn K (.ref X_OutOfPlace) (.ref X_FaceError) = some true)
  (y2_OutOfPlace : PySem.W.hasDictIn K X_OutOfPlace = true) (y3_OutOfPlace : PySem.W.typeIn K (.ref X_OutOfPlace) = some (.type "type"))
  (z_OutOfPlace_OutOfPlace : PySem.W.subIn K (.ref X_OutOfPlace) (.ref X_OutOfPlace) = some true)
  (y2_Refused : PySem.W.hasDictIn K X_Refused = true) (y3_Refused : PySem.W.typeIn K (.ref X_Refused) = some (.type "type"))
  (z_OutOfPlace_Refused : PySem.W.subIn K (.ref X_OutOfPlace) (.ref X_Refused) = some false)
  (y2_ToldApart : PySem.W.hasDictIn K X_ToldApart = true) (y3_ToldApart : PySem.W.typeIn K (.ref X_ToldApart) = some (.type "type"))
  (z_OutOfPlace_ToldApart : PySem.W.subIn K (.ref X_OutOfPlace) (.ref X_ToldApart) = some false)
  (y2_TooGreat : PySem.W.hasDictIn K X_TooGreat = true) (y3_TooGreat : PySem.W.typeIn K (.ref X_TooGreat) = some (.type "type"))
  (z_OutOfPlace_TooGreat : PySem.W.subIn K (.ref X_OutOfPlace) (.ref X_TooGreat) = some false)
  (z_OutOfPlace_ValueError : PySem.W.subIn K (.ref X_OutOfPlace) (.type "ValueError") = some true) :
  ∀ base : Heap, K.In base → base.Ns mainGlobals mg → SysB base → Cl P w K mg base 11 "law" 1 den_law := fun base _ _ sys =>
  g_law ⟨sys, PySem.W.mg_none_of inK glob b_ValueError,
  PySem.W.mg_none_of inK glob b_all,
  PySem.W.mg_none_of inK glob b_bool,
  PySem.W.mg_none_of inK glob b_dict,
  PySem.W.mg_none_of inK glob b_enumerate,
  PySem.W.mg_none_of inK glob b_int,
  PySem.W.mg_none_of inK glob b_isinstance,
  PySem.W.mg_none_of inK glob b_len,
  PySem.W.mg_none_of inK glob b_list,
  PySem.W.mg_none_of inK glob b_range,
  PySem.W.mg_none_of inK glob b_repr,
  PySem.W.mg_none_of inK glob b_sorted,
  PySem.W.mg_none_of inK glob b_str,
  PySem.W.mg_none_of inK glob b_sum,
  PySem.W.mg_none_of inK glob b_tuple,
  gs_mk inK glob c_LETTERS,
  gi_mk inK glob c_MOST_DEEDS,
  gi_mk inK glob c_MOST_HIDDEN,
  gi_mk inK glob c_MOST_LETTERS,
  gi_mk inK glob c_MOST_TAKEN,
  dk_mk inK glob (fun _ _ _ _ _ _ us hl => match us, hl with | [_], _ => rfl) e1_is_whole e2_is_whole e3_is_whole e4_is_whole,
  dk_mk inK glob (fun _ _ _ _ _ _ us hl => match us, hl with | [_, _, _], _ => rfl) e1_is_among e2_is_among e3_is_among e4_is_among,
  dk_mk inK glob (fun _ _ _ _ _ _ us hl => match us, hl with | [_], _ => rfl) e1_is_name e2_is_name e3_is_name e4_is_name,
  dk_mk inK glob (fun _ _ _ _ _ _ us hl => match us, hl with | [_], _ => rfl) e1_is_plain e2_is_plain e3_is_plain e4_is_plain,
  dk_mk inK glob (fun _ _ _ _ _ _ us hl => match us, hl with | [_, _], _ => rfl) e1_is_kind e2_is_kind e3_is_kind e4_is_kind,
  dk_mk inK glob (fun _ _ _ _ _ _ us hl => match us, hl with | [_, _], _ => rfl) e1_are_taken e2_are_taken e3_are_taken e4_are_taken,
  dk_mk inK glob (fun _ _ _ _ _ _ us hl => match us, hl with | [_, _], _ => rfl) e1_is_deed e2_is_deed e3_is_deed e4_is_deed,
  dk_mk inK glob (fun _ _ _ _ _ _ us hl => match us, hl with | [_, _], _ => rfl) e1_is_part e2_is_part e3_is_part e4_is_part,
  dk_mk inK glob (fun _ _ _ _ _ _ us hl => match us, hl with | [_], _ => rfl) e1_bad_hidden e2_bad_hidden e3_bad_hidden e4_bad_hidden,
  dk_mk inK glob (fun _ _ _ _ _ _ us hl => match us, hl with | [_, _], _ => rfl) e1_bad_deed e2_bad_deed e3_bad_deed e4_bad_deed,
  dk_mk inK glob (fun _ _ _ _ _ _ us hl => match us, hl with | [_], _ => rfl) e1_need_face e2_need_face e3_need_face e4_need_face,
  dk_mk inK glob (fun _ _ _ _ _ _ us hl => match us, hl with | [_], _ => rfl) e1_is_face e2_is_face e3_is_face e4_is_face,
  dk_mk inK glob (fun _ _ _ _ _ _ us hl => match us, hl with | [_], _ => rfl) e1_deeds_by_name e2_deeds_by_name e3_deeds_by_name e4_deeds_by_name,
  dk_mk inK glob (fun _ _ _ _ _ _ us hl => match us, hl with | [_, _], _ => rfl) e1_need_deed e2_need_deed e3_need_deed e4_need_deed,
  dk_mk inK glob (fun _ _ _ _ _ _ us hl => match us, hl with | [_], _ => rfl) e1_hidden_of e2_hidden_of e3_hidden_of e4_hidden_of,
  dk_mk inK glob (fun _ _ _ _ _ _ us hl => match us, hl with | [_], _ => rfl) e1_names_of e2_names_of e3_names_of e4_names_of,
  dk_mk inK glob (fun _ _ _ _ _ _ us hl => match us, hl with | [_, _], _ => rfl) e1_takes_of e2_takes_of e3_takes_of e4_takes_of,
  dk_mk inK glob (fun _ _ _ _ _ _ us hl => match us, hl with | [_, _], _ => rfl) e1_gives_of e2_gives_of e3_gives_of e4_gives_of,
  dk_mk inK glob (fun _ _ _ _ _ _ us hl => match us, hl with | [_, _], _ => rfl) e1_law_mixed e2_law_mixed e3_law_mixed e4_law_mixed,
  dk_mk inK glob (fun _ _ _ _ _ _ us hl => match us, hl with | [_], _ => rfl) e1_law_kinds e2_law_kinds e3_law_kinds e4_law_kinds,
  dk_mk inK glob (fun _ _ _ _ _ _ us hl => match us, hl with | [_, _], _ => rfl) e1_law_draw e2_law_draw e3_law_draw e4_law_draw,
  dk_mk inK glob (fun _ _ _ _ _ _ us hl => match us, hl with | [_, _], _ => rfl) e1_law_digit e2_law_digit e3_law_digit e4_law_digit,
  dk_mk inK glob (fun _ _ _ _ _ _ us hl => match us, hl with | [_, _], _ => rfl) e1_law_names e2_law_names e3_law_names e4_law_names,
  dk_mk inK glob (fun _ _ _ _ _ _ us hl => match us, hl with | [_, _], _ => rfl) e1_law_kind e2_law_kind e3_law_kind e4_law_kind,
  dk_mk inK glob (fun _ _ _ _ _ _ us hl => match us, hl with | [_, _], _ => rfl) e1_law_face e2_law_face e3_law_face e4_law_face,
  dk_mk inK glob (fun _ _ _ _ _ _ us hl => match us, hl with | [_, _, _], _ => rfl) e1_law_refused e2_law_refused e3_law_refused e4_law_refused,
  dk_mk inK glob (fun _ _ _ _ _ _ us hl => match us, hl with | [_], _ => rfl) e1_law_right e2_law_right e3_law_right e4_law_right,
  dk_mk inK glob (fun _ _ _ _ _ _ us hl => match us, hl with | [_], _ => rfl) e1_law e2_law e3_law e4_law,
  PySem.W.mg_of inK glob k1_BadFace,
  PySem.W.mg_of inK glob k1_BadInput,
  PySem.W.mg_of inK glob k1_BadLead,
  PySem.W.mg_of inK glob k1_BadMaking,
  PySem.W.mg_of inK glob k1_BadModule,
  PySem.W.mg_of inK glob k1_BadPaper,
  PySem.W.mg_of inK glob k1_BadProgram,
  PySem.W.mg_of inK glob k1_BadRow,
  PySem.W.mg_of inK glob k1_BadSteps,
  PySem.W.mg_of inK glob k1_BadUse,
  PySem.W.mg_of inK glob k1_BadUser,
  PySem.W.mg_of inK glob k1_FaceError,
  PySem.W.mg_of inK glob k1_OutOfPlace,
  PySem.W.mg_of inK glob k1_Refused,
  PySem.W.mg_of inK glob k1_ToldApart,
  PySem.W.mg_of inK glob k1_TooGreat,
  ⟨PySem.W.mg_of inK glob k1_OutOfPlace, x1_OutOfPlace, x2_OutOfPlace, x3_OutOfPlace, x4_OutOfPlace⟩,
  trF_cons (PySem.W.mg_of inK glob k1_OutOfPlace) (PySem.W.exm_ref y1_FaceError y2_FaceError y3_FaceError y4_OutOfPlace_FaceError) (trF_nil),
  isF_cons (PySem.W.mg_of inK glob k1_OutOfPlace) ⟨x5_OutOfPlace, x6_OutOfPlace, x3_OutOfPlace, x7_OutOfPlace, x8_OutOfPlace, xa, xb, x9_OutOfPlace⟩ (kit_ref y2_BadFace y3_BadFace z_OutOfPlace_BadFace x0_OutOfPlace) (isF_nil),
  isF_cons (PySem.W.mg_of inK glob k1_OutOfPlace) ⟨x5_OutOfPlace, x6_OutOfPlace, x3_OutOfPlace, x7_OutOfPlace, x8_OutOfPlace, xa, xb, x9_OutOfPlace⟩ (kit_ref y2_BadInput y3_BadInput z_OutOfPlace_BadInput x0_OutOfPlace) (isF_nil),
  isF_cons (PySem.W.mg_of inK glob k1_OutOfPlace) ⟨x5_OutOfPlace, x6_OutOfPlace, x3_OutOfPlace, x7_OutOfPlace, x8_OutOfPlace, xa, xb, x9_OutOfPlace⟩ (kit_ref y2_BadLead y3_BadLead z_OutOfPlace_BadLead x0_OutOfPlace) (isF_nil),
  isF_cons (PySem.W.mg_of inK glob k1_OutOfPlace) ⟨x5_OutOfPlace, x6_OutOfPlace, x3_OutOfPlace, x7_OutOfPlace, x8_OutOfPlace, xa, xb, x9_OutOfPlace⟩ (kit_ref y2_BadMaking y3_BadMaking z_OutOfPlace_BadMaking x0_OutOfPlace) (isF_nil),
  isF_cons (PySem.W.mg_of inK glob k1_OutOfPlace) ⟨x5_OutOfPlace, x6_OutOfPlace, x3_OutOfPlace, x7_OutOfPlace, x8_OutOfPlace, xa, xb, x9_OutOfPlace⟩ (kit_ref y2_BadModule y3_BadModule z_OutOfPlace_BadModule x0_OutOfPlace) (isF_nil),
  isF_cons (PySem.W.mg_of inK glob k1_OutOfPlace) ⟨x5_OutOfPlace, x6_OutOfPlace, x3_OutOfPlace, x7_OutOfPlace, x8_OutOfPlace, xa, xb, x9_OutOfPlace⟩ (kit_ref y2_BadPaper y3_BadPaper z_OutOfPlace_BadPaper x0_OutOfPlace) (isF_nil),
  isF_cons (PySem.W.mg_of inK glob k1_OutOfPlace) ⟨x5_OutOfPlace, x6_OutOfPlace, x3_OutOfPlace, x7_OutOfPlace, x8_OutOfPlace, xa, xb, x9_OutOfPlace⟩ (kit_ref y2_BadProgram y3_BadProgram z_OutOfPlace_BadProgram x0_OutOfPlace) (isF_nil),
  isF_cons (PySem.W.mg_of inK glob k1_OutOfPlace) ⟨x5_OutOfPlace, x6_OutOfPlace, x3_OutOfPlace, x7_OutOfPlace, x8_OutOfPlace, xa, xb, x9_OutOfPlace⟩ (kit_ref y2_BadRow y3_BadRow z_OutOfPlace_BadRow x0_OutOfPlace) (isF_nil),
  isF_cons (PySem.W.mg_of inK glob k1_OutOfPlace) ⟨x5_OutOfPlace, x6_OutOfPlace, x3_OutOfPlace, x7_OutOfPlace, x8_OutOfPlace, xa, xb, x9_OutOfPlace⟩ (kit_ref y2_BadSteps y3_BadSteps z_OutOfPlace_BadSteps x0_OutOfPlace) (isF_nil),
  isF_cons (PySem.W.mg_of inK glob k1_OutOfPlace) ⟨x5_OutOfPlace, x6_OutOfPlace, x3_OutOfPlace, x7_OutOfPlace, x8_OutOfPlace, xa, xb, x9_OutOfPlace⟩ (kit_ref y2_BadUse y3_BadUse z_OutOfPlace_BadUse x0_OutOfPlace) (isF_nil),
  isF_cons (PySem.W.mg_of inK glob k1_OutOfPlace) ⟨x5_OutOfPlace, x6_OutOfPlace, x3_OutOfPlace, x7_OutOfPlace, x8_OutOfPlace, xa, xb, x9_OutOfPlace⟩ (kit_ref y2_BadUser y3_BadUser z_OutOfPlace_BadUser x0_OutOfPlace) (isF_nil),
  isF_cons (PySem.W.mg_of inK glob k1_OutOfPlace) ⟨x5_OutOfPlace, x6_OutOfPlace, x3_OutOfPlace, x7_OutOfPlace, x8_OutOfPlace, xa, xb, x9_OutOfPlace⟩ (kit_ref y2_FaceError y3_FaceError z_OutOfPlace_FaceError x0_OutOfPlace) (isF_nil),
  isF_cons (PySem.W.mg_of inK glob k1_OutOfPlace) ⟨x5_OutOfPlace, x6_OutOfPlace, x3_OutOfPlace, x7_OutOfPlace, x8_OutOfPlace, xa, xb, x9_OutOfPlace⟩ (kit_ref y2_OutOfPlace y3_OutOfPlace z_OutOfPlace_OutOfPlace x0_OutOfPlace) (isF_nil),
  isF_cons (PySem.W.mg_of inK glob k1_OutOfPlace) ⟨x5_OutOfPlace, x6_OutOfPlace, x3_OutOfPlace, x7_OutOfPlace, x8_OutOfPlace, xa, xb, x9_OutOfPlace⟩ (kit_ref y2_Refused y3_Refused z_OutOfPlace_Refused x0_OutOfPlace) (isF_nil),
  isF_cons (PySem.W.mg_of inK glob k1_OutOfPlace) ⟨x5_OutOfPlace, x6_OutOfPlace, x3_OutOfPlace, x7_OutOfPlace, x8_OutOfPlace, xa, xb, x9_OutOfPlace⟩ (kit_ref y2_ToldApart y3_ToldApart z_OutOfPlace_ToldApart x0_OutOfPlace) (isF_nil),
  isF_cons (PySem.W.mg_of inK glob k1_OutOfPlace) ⟨x5_OutOfPlace, x6_OutOfPlace, x3_OutOfPlace, x7_OutOfPlace, x8_OutOfPlace, xa, xb, x9_OutOfPlace⟩ (kit_ref y2_TooGreat y3_TooGreat z_OutOfPlace_TooGreat x0_OutOfPlace) (isF_nil),
  isF_cons (PySem.W.mg_of inK glob k1_OutOfPlace) ⟨x5_OutOfPlace, x6_OutOfPlace, x3_OutOfPlace, x7_OutOfPlace, x8_OutOfPlace, xa, xb, x9_OutOfPlace⟩ (kit_VE z_OutOfPlace_ValueError) (isF_nil)⟩

end W03
open PySem PySem.W PyProof.Rows in
set_option maxRecDepth 100000 in
set_option maxHeartbeats 0 in
theorem PySem.Challenge.cw_sameface_k03_what_faces_tell_holds : PySem.Challenge.rw_sameface_k03_what_faces_tell.Holds := by
  w_on; o_law; k_head; (case hw => w_witness2)
  k_fill
  refine Sf.walk_g (l := PySem.Challenge.rw_sameface_k03_what_faces_tell) (n := 63) (k := 11) (m := W03.den_law) rfl (by decide) (by rfl) rfl ⟨rfl, by decide, by decide⟩ (fun w h Y => PySem.W.kIn_of Y) ?F W03.answers
  case F =>
    intro w mg h KX G
    refine' W03.all_mk KX G ?b_ValueError ?b_all ?b_bool ?b_dict ?b_enumerate ?b_int ?b_isinstance ?b_len ?b_list ?b_range ?b_repr ?b_sorted ?b_str ?b_sum ?b_tuple ?c_LETTERS ?c_63_DEEDS ?c_63_HIDDEN ?c_63_LETTERS ?c_63_TAKEN ?e1_is_whole ?e2_is_whole ?e3_is_whole ?e4_is_whole ?e1_is_among ?e2_is_among ?e3_is_among ?e4_is_among ?e1_is_name ?e2_is_name ?e3_is_name ?e4_is_name ?e1_is_plain ?e2_is_plain ?e3_is_plain ?e4_is_plain ?e1_is_kind ?e2_is_kind ?e3_is_kind ?e4_is_kind ?e1_are_taken ?e2_are_taken ?e3_are_taken ?e4_are_taken ?e1_is_deed ?e2_is_deed ?e3_is_deed ?e4_is_deed ?e1_is_part ?e2_is_part ?e3_is_part ?e4_is_part ?e1_bad_hidden ?e2_bad_hidden ?e3_bad_hidden ?e4_bad_hidden ?e1_bad_deed ?e2_bad_deed ?e3_bad_deed ?e4_bad_deed ?e1_need_face ?e2_need_face ?e3_need_face ?e4_need_face ?e1_is_face ?e2_is_face ?e3_is_face ?e4_is_face ?e1_deeds_by_name ?e2_deeds_by_name ?e3_deeds_by_name ?e4_deeds_by_name ?e1_need_deed ?e2_need_deed ?e3_need_deed ?e4_need_deed ?e1_hidden_of ?e2_hidden_of ?e3_hidden_of ?e4_hidden_of ?e1_names_of ?e2_names_of ?e3_names_of ?e4_names_of ?e1_takes_of ?e2_takes_of ?e3_takes_of ?e4_takes_of ?e1_gives_of ?e2_gives_of ?e3_gives_of ?e4_gives_of ?e1_law_mixed ?e2_law_mixed ?e3_law_mixed ?e4_law_mixed ?e1_law_kinds ?e2_law_kinds ?e3_law_kinds ?e4_law_kinds ?e1_law_draw ?e2_law_draw ?e3_law_draw ?e4_law_draw ?e1_law_digit ?e2_law_digit ?e3_law_digit ?e4_law_digit ?e1_law_names ?e2_law_names ?e3_law_names ?e4_law_names ?e1_law_kind ?e2_law_kind ?e3_law_kind ?e4_law_kind ?e1_law_face ?e2_law_face ?e3_law_face ?e4_law_face ?e1_law_refused ?e2_law_refused ?e3_law_refused ?e4_law_refused ?e1_law_right ?e2_law_right ?e3_law_right ?e4_law_right ?e1_law ?e2_law ?e3_law ?e4_law ?k1_BadFace ?k1_BadInput ?k1_BadLead ?k1_BadMaking ?k1_BadModule ?k1_BadPaper ?k1_BadProgram ?k1_BadRow ?k1_BadSteps ?k1_BadUse ?k1_BadUser ?k1_FaceError ?k1_OutOfPlace ?k1_Refused ?k1_ToldApart ?k1_TooGreat ?x0_OutOfPlace ?x1_OutOfPlace ?x2_OutOfPlace ?x3_OutOfPlace ?x4_OutOfPlace ?x5_OutOfPlace ?x6_OutOfPlace ?x7_OutOfPlace ?x8_OutOfPlace ?x9_OutOfPlace ?xa ?xb ?y1_FaceError ?y2_FaceError ?y3_FaceError ?y4_OutOfPlace_FaceError ?y2_BadFace ?y3_BadFace ?z_OutOfPlace_BadFace ?y2_BadInput ?y3_BadInput ?z_OutOfPlace_BadInput ?y2_BadLead ?y3_BadLead ?z_OutOfPlace_BadLead ?y2_BadMaking ?y3_BadMaking ?z_OutOfPlace_BadMaking ?y2_BadModule ?y3_BadModule ?z_OutOfPlace_BadModule ?y2_BadPaper ?y3_BadPaper ?z_OutOfPlace_BadPaper ?y2_BadProgram ?y3_BadProgram ?z_OutOfPlace_BadProgram ?y2_BadRow ?y3_BadRow ?z_OutOfPlace_BadRow ?y2_BadSteps ?y3_BadSteps ?z_OutOfPlace_BadSteps ?y2_BadUse ?y3_BadUse ?z_OutOfPlace_BadUse ?y2_BadUser ?y3_BadUser ?z_OutOfPlace_BadUser ?z_OutOfPlace_FaceError ?y2_OutOfPlace ?y3_OutOfPlace ?z_OutOfPlace_OutOfPlace ?y2_Refused ?y3_Refused ?z_OutOfPlace_Refused ?y2_ToldApart ?y3_ToldApart ?z_OutOfPlace_ToldApart ?y2_TooGreat ?y3_TooGreat ?z_OutOfPlace_TooGreat ?z_OutOfPlace_ValueError
    (case b_ValueError => k_is)
    (case b_all => k_is)
    (case b_bool => k_is)
    (case b_dict => k_is)
    (case b_enumerate => k_is)
    (case b_int => k_is)
    (case b_isinstance => k_is)
    (case b_len => k_is)
    (case b_list => k_is)
    (case b_range => k_is)
    (case b_repr => k_is)
    (case b_sorted => k_is)
    (case b_str => k_is)
    (case b_sum => k_is)
    (case b_tuple => k_is)
    (case c_LETTERS => k_is)
    (case c_63_DEEDS => k_is)
    (case c_63_HIDDEN => k_is)
    (case c_63_LETTERS => k_is)
    (case c_63_TAKEN => k_is)
    (case e1_is_whole => k_is)
    (case e2_is_whole => k_is)
    (case e3_is_whole => k_is)
    (case e4_is_whole => k_is)
    (case e1_is_among => k_is)
    (case e2_is_among => k_is)
    (case e3_is_among => k_is)
    (case e4_is_among => k_is)
    (case e1_is_name => k_is)
    (case e2_is_name => k_is)
    (case e3_is_name => k_is)
    (case e4_is_name => k_is)
    (case e1_is_plain => k_is)
    (case e2_is_plain => k_is)
    (case e3_is_plain => k_is)
    (case e4_is_plain => k_is)
    (case e1_is_kind => k_is)
    (case e2_is_kind => k_is)
    (case e3_is_kind => k_is)
    (case e4_is_kind => k_is)
    (case e1_are_taken => k_is)
    (case e2_are_taken => k_is)
    (case e3_are_taken => k_is)
    (case e4_are_taken => k_is)
    (case e1_is_deed => k_is)
    (case e2_is_deed => k_is)
    (case e3_is_deed => k_is)
    (case e4_is_deed => k_is)
    (case e1_is_part => k_is)
    (case e2_is_part => k_is)
    (case e3_is_part => k_is)
    (case e4_is_part => k_is)
    (case e1_bad_hidden => k_is)
    (case e2_bad_hidden => k_is)
    (case e3_bad_hidden => k_is)
    (case e4_bad_hidden => k_is)
    (case e1_bad_deed => k_is)
    (case e2_bad_deed => k_is)
    (case e3_bad_deed => k_is)
    (case e4_bad_deed => k_is)
    (case e1_need_face => k_is)
    (case e2_need_face => k_is)
    (case e3_need_face => k_is)
    (case e4_need_face => k_is)
    (case e1_is_face => k_is)
    (case e2_is_face => k_is)
    (case e3_is_face => k_is)
    (case e4_is_face => k_is)
    (case e1_deeds_by_name => k_is)
    (case e2_deeds_by_name => k_is)
    (case e3_deeds_by_name => k_is)
    (case e4_deeds_by_name => k_is)
    (case e1_need_deed => k_is)
    (case e2_need_deed => k_is)
    (case e3_need_deed => k_is)
    (case e4_need_deed => k_is)
    (case e1_hidden_of => k_is)
    (case e2_hidden_of => k_is)
    (case e3_hidden_of => k_is)
    (case e4_hidden_of => k_is)
    (case e1_names_of => k_is)
    (case e2_names_of => k_is)
    (case e3_names_of => k_is)
    (case e4_names_of => k_is)
    (case e1_takes_of => k_is)
    (case e2_takes_of => k_is)
    (case e3_takes_of => k_is)
    (case e4_takes_of => k_is)
    (case e1_gives_of => k_is)
    (case e2_gives_of => k_is)
    (case e3_gives_of => k_is)
    (case e4_gives_of => k_is)
    (case e1_law_mixed => k_is)
    (case e2_law_mixed => k_is)
    (case e3_law_mixed => k_is)
    (case e4_law_mixed => k_is)
    (case e1_law_kinds => k_is)
    (case e2_law_kinds => k_is)
    (case e3_law_kinds => k_is)
    (case e4_law_kinds => k_is)
    (case e1_law_draw => k_is)
    (case e2_law_draw => k_is)
    (case e3_law_draw => k_is)
    (case e4_law_draw => k_is)
    (case e1_law_digit => k_is)
    (case e2_law_digit => k_is)
    (case e3_law_digit => k_is)
    (case e4_law_digit => k_is)
    (case e1_law_names => k_is)
    (case e2_law_names => k_is)
    (case e3_law_names => k_is)
    (case e4_law_names => k_is)
    (case e1_law_kind => k_is)
    (case e2_law_kind => k_is)
    (case e3_law_kind => k_is)
    (case e4_law_kind => k_is)
    (case e1_law_face => k_is)
    (case e2_law_face => k_is)
    (case e3_law_face => k_is)
    (case e4_law_face => k_is)
    (case e1_law_refused => k_is)
    (case e2_law_refused => k_is)
    (case e3_law_refused => k_is)
    (case e4_law_refused => k_is)
    (case e1_law_right => k_is)
    (case e2_law_right => k_is)
    (case e3_law_right => k_is)
    (case e4_law_right => k_is)
    (case e1_law => k_is)
    (case e2_law => k_is)
    (case e3_law => k_is)
    (case e4_law => k_is)
    (case k1_BadFace => k_is)
    (case k1_BadInput => k_is)
    (case k1_BadLead => k_is)
    (case k1_BadMaking => k_is)
    (case k1_BadModule => k_is)
    (case k1_BadPaper => k_is)
    (case k1_BadProgram => k_is)
    (case k1_BadRow => k_is)
    (case k1_BadSteps => k_is)
    (case k1_BadUse => k_is)
    (case k1_BadUser => k_is)
    (case k1_FaceError => k_is)
    (case k1_OutOfPlace => k_is)
    (case k1_Refused => k_is)
    (case k1_ToldApart => k_is)
    (case k1_TooGreat => k_is)
    (case x0_OutOfPlace => k_is)
    (case x1_OutOfPlace => k_exc)
    (case x2_OutOfPlace => k_is)
    (case x3_OutOfPlace => k_is)
    (case x4_OutOfPlace => k_is)
    (case x5_OutOfPlace => k_is)
    (case x6_OutOfPlace => k_is)
    (case x7_OutOfPlace => k_is)
    (case x8_OutOfPlace => k_is)
    (case x9_OutOfPlace => k_is)
    (case xa => k_is)
    (case xb => k_is)
    (case y1_FaceError => k_is)
    (case y2_FaceError => k_is)
    (case y3_FaceError => k_is)
    (case y4_OutOfPlace_FaceError => k_is)
    (case y2_BadFace => k_is)
    (case y3_BadFace => k_is)
    (case z_OutOfPlace_BadFace => k_is)
    (case y2_BadInput => k_is)
    (case y3_BadInput => k_is)
    (case z_OutOfPlace_BadInput => k_is)
    (case y2_BadLead => k_is)
    (case y3_BadLead => k_is)
    (case z_OutOfPlace_BadLead => k_is)
    (case y2_BadMaking => k_is)
    (case y3_BadMaking => k_is)
    (case z_OutOfPlace_BadMaking => k_is)
    (case y2_BadModule => k_is)
    (case y3_BadModule => k_is)
    (case z_OutOfPlace_BadModule => k_is)
    (case y2_BadPaper => k_is)
    (case y3_BadPaper => k_is)
    (case z_OutOfPlace_BadPaper => k_is)
    (case y2_BadProgram => k_is)
    (case y3_BadProgram => k_is)
    (case z_OutOfPlace_BadProgram => k_is)
    (case y2_BadRow => k_is)
    (case y3_BadRow => k_is)
    (case z_OutOfPlace_BadRow => k_is)
    (case y2_BadSteps => k_is)
    (case y3_BadSteps => k_is)
    (case z_OutOfPlace_BadSteps => k_is)
    (case y2_BadUse => k_is)
    (case y3_BadUse => k_is)
    (case z_OutOfPlace_BadUse => k_is)
    (case y2_BadUser => k_is)
    (case y3_BadUser => k_is)
    (case z_OutOfPlace_BadUser => k_is)
    (case z_OutOfPlace_FaceError => k_is)
    (case y2_OutOfPlace => k_is)
    (case y3_OutOfPlace => k_is)
    (case z_OutOfPlace_OutOfPlace => k_is)
    (case y2_Refused => k_is)
    (case y3_Refused => k_is)
    (case z_OutOfPlace_Refused => k_is)
    (case y2_ToldApart => k_is)
    (case y3_ToldApart => k_is)
    (case z_OutOfPlace_ToldApart => k_is)
    (case y2_TooGreat => k_is)
    (case y3_TooGreat => k_is)
    (case z_OutOfPlace_TooGreat => k_is)
    (case z_OutOfPlace_ValueError => k_is)
