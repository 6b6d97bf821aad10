import PyProof.Rows.All
import Wide.All
import OpenK.AllK
import Wide.FinOn
import HandS.ForMost
import HandS.Flow
import HandS.IsInst
import HandS.Zip
import HandS.Deep
import HandS.TupAny
import HandS.Wide
import HandS.Style
import HandS.RaiseMore
import PyProof.ReprRoads
import HandS.ForExc
import HandS.CallSlots
import HandS.Replace
import PyProof.FactsAll.bool_1
import PyProof.ReprLen
import PySem.Challenge.RW_sameface_k10_what_bodies_tell
set_option Elab.async false
set_option linter.all false
set_option maxRecDepth 100001
set_option maxHeartbeats 4000001
/-! Sf0: data, store, relations, the generic reading. -/
namespace Sf
open L2 PySem PySem.Spec PyProof.Rows

inductive D where
  | non | bl (b : Bool) | int (i : Int) | str (s : Str) | tup (ds : List D) | lst (ds : List D) | fls (ds : List D) | emp | ref (n : Nat)
  deriving Inhabited

inductive Ob where
  | lst (ds : List D) | dct (kvs : List (Key × D)) | dctT (kvs : List (List Key × D)) | ins (c : Str) (fs : List (Str × D))
  deriving Inhabited

abbrev Sto := List Ob
abbrev En := List (Option D)

inductive Out where
  | val (d : D) | own (o : Ob)
  deriving Inhabited

/-- an exception: its class, its fields -/
structure Xn where
  cls : Str
  fs : List (Str × D)

inductive Rz (α : Type) where
  | ok (a : α) (S : Sto)
  | er (x : Xn) (S : Sto)

abbrev Dn (α : Type) := En → Sto → Option (Rz α)

def bnd {α β : Type} (r : Option (Rz α)) (k : α → Sto → Option (Rz β)) : Option (Rz β) :=
  match r with
  | none => none
  | some (.ok a S) => k a S
  | some (.er x S) => some (.er x S)

mutual
inductive Rep (K : PySem.W.Frag) (F : Hp) (m : List Addr) : V → D → Prop
  | non : Rep K F m .non .non
  | bl (b : Bool) : Rep K F m (.bl b) (.bl b)
  | int (i : Int) : Rep K F m (.int i) (.int i)
  | str (x : Str) : Rep K F m (.str x) (.str x)
  | tup {a : Addr} {xs : List V} {ds : List D} : SqT K F a xs → RepL K F m xs ds → Rep K F m (.ref a) (.tup ds)
  | lst {a : Addr} {xs : List V} {ds : List D} : F a = some (.lst xs) → RepL K F m xs ds → Rep K F m (.ref a) (.lst ds)
  | fls {a : Addr} {xs : List V} {ds : List D} : SqL K F a xs → RepL K F m xs ds → Rep K F m (.ref a) (.fls ds)
  | emp {a : Addr} : F a = some (.dK []) → Rep K F m (.ref a) .emp
  | ref {a : Addr} {n : Nat} : m[n]? = some a → Rep K F m (.ref a) (.ref n)
inductive RepL (K : PySem.W.Frag) (F : Hp) (m : List Addr) : List V → List D → Prop
  | nil : RepL K F m [] []
  | cons {v : V} {vs : List V} {d : D} {ds : List D} : Rep K F m v d → RepL K F m vs ds → RepL K F m (v :: vs) (d :: ds)
end

def Pre (m m' : List Addr) : Prop := ∃ l, m' = m ++ l
theorem Pre.refl (m : List Addr) : Pre m m := ⟨[], (List.append_nil m).symm⟩
theorem Pre.trans {a b c : List Addr} (h : Pre a b) (k : Pre b c) : Pre a c := by
  obtain ⟨l, rfl⟩ := h
  obtain ⟨l', rfl⟩ := k
  exact ⟨l ++ l', List.append_assoc ..⟩
theorem Pre.get {m m' : List Addr} (p : Pre m m') {n : Nat} {a : Addr} (h : m[n]? = some a) : m'[n]? = some a := by
  obtain ⟨l, rfl⟩ := p
  have hn : n < m.length := (List.getElem?_eq_some_iff.mp h).1
  rw [List.getElem?_append_left hn]
  exact h

theorem same_rd {H H' : Hp} {a : Addr} {u : HO} (e : Same H H') (h : Rd H a u) : Rd H' a u := by
  rcases h with h | ⟨o, h⟩
  · exact .inl (e _ _ h)
  · exact .inr ⟨o, e _ _ h⟩
theorem same_t {K : PySem.W.Frag} {H H' : Hp} {a : Addr} {xs : List V} (e : Same H H') (h : SqT K H a xs) : SqT K H' a xs := by
  rcases h with h | h
  · exact .inl (same_rd e h)
  · exact .inr h
theorem same_l {K : PySem.W.Frag} {H H' : Hp} {a : Addr} {xs : List V} (e : Same H H') (h : SqL K H a xs) : SqL K H' a xs := by
  rcases h with h | h
  · exact .inl (same_rd e h)
  · exact .inr h

section
variable {K : PySem.W.Frag} {F F' : Hp} {m m' : List Addr}
mutual
theorem Rep.mono (e : Same F F') (p : Pre m m') : ∀ (d : D) {v : V}, Rep K F m v d → Rep K F' m' v d
  | .non, _, h => by cases h; exact .non
  | .bl b, _, h => by cases h; exact .bl b
  | .int i, _, h => by cases h; exact .int i
  | .str s, _, h => by cases h; exact .str s
  | .tup ds, _, h => by
    cases h with
    | tup hs hl => exact .tup (same_t e hs) (RepL.mono e p ds hl)
  | .lst ds, _, h => by
    cases h with
    | lst hs hl => exact .lst (e _ _ hs) (RepL.mono e p ds hl)
  | .fls ds, _, h => by
    cases h with
    | fls hs hl => exact .fls (same_l e hs) (RepL.mono e p ds hl)
  | .emp, _, h => by
    cases h with
    | emp hn => exact .emp (e _ _ hn)
  | .ref n, _, h => by
    cases h with
    | ref hn => exact .ref (p.get hn)
theorem RepL.mono (e : Same F F') (p : Pre m m') : ∀ (ds : List D) {vs : List V}, RepL K F m vs ds → RepL K F' m' vs ds
  | [], _, h => by cases h; exact .nil
  | d :: ds, _, h => by
    cases h with
    | cons h1 h2 => exact .cons (Rep.mono e p d h1) (RepL.mono e p ds h2)
end
theorem RepL.length : ∀ {vs : List V} {ds : List D}, RepL K F m vs ds → vs.length = ds.length
  | _, _, .nil => rfl
  | _, _, .cons _ t => by rw [List.length_cons, List.length_cons, RepL.length t]
theorem RepL.append : ∀ {vs : List V} {ds : List D} {ws : List V} {es : List D}, RepL K F m vs ds → RepL K F m ws es → RepL K F m (vs ++ ws) (ds ++ es)
  | _, _, _, _, .nil, h => h
  | _, _, _, _, .cons a t, h => .cons a (RepL.append t h)
theorem RepL.get : ∀ {vs : List V} {ds : List D} {i : Nat} {d : D}, RepL K F m vs ds → ds[i]? = some d → ∃ v, vs[i]? = some v ∧ Rep K F m v d
  | _, _, _, _, .nil, h => by simp at h
  | _, _, 0, _, .cons a t, h => by
    simp at h
    subst h
    exact ⟨_, rfl, a⟩
  | _, _, i + 1, d, .cons a t, h => by
    obtain ⟨v, h1, h2⟩ := RepL.get (i := i) (d := d) t (by simpa using h)
    exact ⟨v, by simpa using h1, h2⟩
theorem RepL.get' : ∀ {vs : List V} {ds : List D} {i : Nat} {v : V}, RepL K F m vs ds → vs[i]? = some v → ∃ d, ds[i]? = some d ∧ Rep K F m v d
  | _, _, _, _, .nil, h => by simp at h
  | _, _, 0, _, .cons a t, h => by
    simp at h
    subst h
    exact ⟨_, rfl, a⟩
  | _, _, i + 1, d, .cons a t, h => by
    obtain ⟨v, h1, h2⟩ := RepL.get' (i := i) (v := d) t (by simpa using h)
    exact ⟨v, by simpa using h1, h2⟩
theorem RepL.drop : ∀ (n : Nat) {vs : List V} {ds : List D}, RepL K F m vs ds → RepL K F m (vs.drop n) (ds.drop n)
  | 0, _, _, h => h
  | _ + 1, _, _, .nil => .nil
  | n + 1, _, _, .cons _ t => RepL.drop n t
theorem RepL.take : ∀ (n : Nat) {vs : List V} {ds : List D}, RepL K F m vs ds → RepL K F m (vs.take n) (ds.take n)
  | 0, _, _, _ => .nil
  | _ + 1, _, _, .nil => .nil
  | n + 1, _, _, .cons a t => .cons a (RepL.take n t)
theorem RepL.reverse : ∀ {vs : List V} {ds : List D}, RepL K F m vs ds → RepL K F m vs.reverse ds.reverse
  | _, _, .nil => .nil
  | _, _, .cons a t => by
    rw [List.reverse_cons, List.reverse_cons]
    exact (RepL.reverse t).append (.cons a .nil)
theorem RepL.set : ∀ (n : Nat) {vs : List V} {ds : List D} {v : V} {d : D}, RepL K F m vs ds → Rep K F m v d → RepL K F m (vs.set n v) (ds.set n d)
  | _, _, _, _, _, .nil, _ => .nil
  | 0, _, _, _, _, .cons _ t, h => .cons h t
  | n + 1, _, _, _, _, .cons a t, h => .cons a (RepL.set n t h)
end

/-- what stands at a is the object o -/
def ObR (K : PySem.W.Frag) (mg : Str → Option Value) (H F : Hp) (m : List Addr) (a : Addr) : Ob → Prop
  | .lst ds => ∃ vs, H a = some (.lst vs) ∧ RepL K F m vs ds
  | .dct kvs => ∃ ks : List (Key × V), H a = some (.dK ks) ∧ Paired (fun p q => p.1 = q.1 ∧ Rep K F m p.2 q.2) ks kvs
  | .dctT kvs => ∃ ks : List (List Key × V), H a = some (.dT ks) ∧ Paired (fun p q => p.1 = q.1 ∧ Rep K F m p.2 q.2) ks kvs
  | .ins c fs => ∃ (C dx : Addr) (gs : List (Str × V)), mg c = some (.ref C) ∧ H a = some (.ins C dx gs) ∧ Paired (fun p q => p.1 = q.1 ∧ Rep K F m p.2 q.2) gs fs

theorem paired_mono {κ : Type} {K : PySem.W.Frag} {F F' : Hp} {m m' : List Addr} (e : Same F F') (p : Pre m m') {ks : List (κ × V)} {ls : List (κ × D)}
    (h : Paired (fun p q => p.1 = q.1 ∧ Rep K F m p.2 q.2) ks ls) : Paired (fun p q => p.1 = q.1 ∧ Rep K F' m' p.2 q.2) ks ls :=
  Paired.mapP h fun a b z => ⟨z.1, Rep.mono e p b.2 z.2⟩

theorem ObR.mono {K : PySem.W.Frag} {mg : Str → Option Value} {H H' F F' : Hp} {m m' : List Addr} {a : Addr} (e : Same F F') (p : Pre m m') (hh : ∀ o, H a = some o → H' a = some o) :
    ∀ (o : Ob), ObR K mg H F m a o → ObR K mg H' F' m' a o
  | .lst ds, ⟨vs, h1, h2⟩ => ⟨vs, hh _ h1, RepL.mono e p ds h2⟩
  | .dct kvs, ⟨ks, h1, h2⟩ => ⟨ks, hh _ h1, paired_mono e p h2⟩
  | .dctT kvs, ⟨ks, h1, h2⟩ => ⟨ks, hh _ h1, paired_mono e p h2⟩
  | .ins c fs, ⟨C, dx, gs, h0, h1, h2⟩ => ⟨C, dx, gs, h0, hh _ h1, paired_mono e p h2⟩
theorem ObR.some {K : PySem.W.Frag} {mg : Str → Option Value} {H F : Hp} {m : List Addr} {a : Addr} : ∀ {o : Ob}, ObR K mg H F m a o → ∃ u, H a = some u
  | .lst ds, ⟨vs, h1, h2⟩ => ⟨_, h1⟩
  | .dct kvs, ⟨ks, h1, h2⟩ => ⟨_, h1⟩
  | .dctT kvs, ⟨ks, h1, h2⟩ => ⟨_, h1⟩
  | .ins c fs, ⟨C, dx, gs, h0, h1, h2⟩ => ⟨_, h1⟩

/-- the store S stands at the addresses m in the heap H; F is what is frozen of H -/
structure SOk (K : PySem.W.Frag) (mg : Str → Option Value) (H F : Hp) (m : List Addr) (S : Sto) : Prop where
  sub : Same F H
  len : m.length = S.length
  nd : m.Nodup
  off : ∀ a ∈ m, F a = none
  obj : ∀ (n : Nat) (a : Addr) (o : Ob), m[n]? = some a → S[n]? = some o → ObR K mg H F m a o

/-- from one state to a later one -/
structure Stp (H F : Hp) (m : List Addr) (H' F' : Hp) (m' : List Addr) : Prop where
  fr : Same F F'
  pr : ∃ l, m' = m ++ l ∧ ∀ b ∈ l, H b = none
  nw : ∀ a o, F' a = some o → F a = some o ∨ H a = none
  kp : ∀ a o, H a = some o → a ∉ m → H' a = some o
  dm : ∀ a, H' a = none → H a = none

theorem Stp.refl (H F : Hp) (m : List Addr) : Stp H F m H F m :=
  ⟨Same.refl F, ⟨[], (List.append_nil m).symm, fun _ h => absurd h (by simp)⟩, fun _ _ h => .inl h, fun _ _ h _ => h, fun _ h => h⟩
theorem Stp.pre {H F H' F' : Hp} {m m' : List Addr} (s : Stp H F m H' F' m') : Pre m m' := let ⟨l, h, _⟩ := s.pr; ⟨l, h⟩
theorem Stp.trans {H F H1 F1 H2 F2 : Hp} {m m1 m2 : List Addr} (s : Stp H F m H1 F1 m1) (t : Stp H1 F1 m1 H2 F2 m2) : Stp H F m H2 F2 m2 := by
  obtain ⟨l, rfl, hl⟩ := s.pr
  obtain ⟨l2, rfl, hl2⟩ := t.pr
  refine ⟨s.fr.trans t.fr, ⟨l ++ l2, List.append_assoc .., fun b hb => ?_⟩, fun a o h => ?_, fun a o h hn => ?_, fun a h => s.dm a (t.dm a h)⟩
  · rcases List.mem_append.mp hb with hb | hb
    · exact hl b hb
    · exact s.dm b (hl2 b hb)
  · rcases t.nw a o h with h | h
    · exact s.nw a o h
    · exact .inr (s.dm a h)
  · refine t.kp a o (s.kp a o h hn) fun hm => ?_
    rcases List.mem_append.mp hm with hm | hm
    · exact hn hm
    · rw [hl a hm] at h
      cases h

/-- slots -/
structure SlR (K : PySem.W.Frag) (F : Hp) (m : List Addr) (σ : L2.St) (ρ : En) : Prop where
  len : σ.length = ρ.length
  get : ∀ (i : Nat) (d : D), ρ[i]? = some (some d) → ∃ v, σ[i]? = some (some v) ∧ Rep K F m v d
theorem SlR.mono {K : PySem.W.Frag} {F F' : Hp} {m m' : List Addr} {σ : L2.St} {ρ : En} (e : Same F F') (p : Pre m m') (h : SlR K F m σ ρ) : SlR K F' m' σ ρ :=
  ⟨h.len, fun i d q => let ⟨v, h1, h2⟩ := h.get i d q; ⟨v, h1, Rep.mono e p d h2⟩⟩
theorem SlR.put {K : PySem.W.Frag} {F : Hp} {m : List Addr} {σ : L2.St} {ρ : En} {v : V} {d : D} (i : Nat) (h : SlR K F m σ ρ) (r : Rep K F m v d) : SlR K F m (σ.set i (some v)) (ρ.set i (some d)) := by
  refine ⟨by rw [List.length_set, List.length_set, h.len], fun j e q => ?_⟩
  by_cases hj : i = j
  · subst hj
    have hi : i < ρ.length := by
      have := (List.getElem?_eq_some_iff.mp q).1
      rw [List.length_set] at this
      exact this
    rw [List.getElem?_set_self hi] at q
    have q' : d = e := by injection q with q; injection q
    subst q'
    exact ⟨v, List.getElem?_set_self (by rw [h.len]; exact hi), r⟩
  · rw [List.getElem?_set_ne hj] at q
    rw [List.getElem?_set_ne hj]
    exact h.get j e q

/-- a result: data, or a new object that nobody else holds -/
def OutR (K : PySem.W.Frag) (mg : Str → Option Value) (H0 H F : Hp) (m : List Addr) (v : V) : Out → Prop
  | .val d => Rep K F m v d
  | .own o => ∃ a, v = .ref a ∧ H0 a = none ∧ F a = none ∧ a ∉ m ∧ ObR K mg H F m a o

/-- an exception's record: its class, its fields in its own dict -/
def XnR (K : PySem.W.Frag) (mg : Str → Option Value) (H F : Hp) (m : List Addr) (c : Value) (d : Option Addr) (x : Xn) : Prop :=
  ∃ C : Addr, mg x.cls = some (.ref C) ∧ c = .ref C ∧ (x.fs = [] ∨ ∃ (dx : Addr) (gs : List (Str × V)), d = some dx ∧ H dx = some (.xd gs) ∧ dx ∉ m ∧ F dx = none ∧ Paired (fun p q => p.1 = q.1 ∧ Rep K F m p.2 q.2) gs x.fs)

abbrev Rel (α β : Type) := Hp → Hp → Hp → List Addr → β → α → Prop
abbrev RO (K : PySem.W.Frag) (mg : Str → Option Value) : Rel Out V := fun H0 H F m v o => OutR K mg H0 H F m v o
abbrev RD (K : PySem.W.Frag) : Rel D V := fun _ _ F m v d => Rep K F m v d
abbrev RL (K : PySem.W.Frag) : Rel (List D) (List V) := fun _ _ F m vs ds => RepL K F m vs ds
abbrev RB {α : Type} : Rel α α := fun _ _ _ _ b c => b = c
def RSh {α β : Type} (R : Rel α β) : Prop := ∀ H0 H1 H F m x a, (∀ b, H1 b = none → H0 b = none) → R H1 H F m x a → R H0 H F m x a
theorem sh_O {K : PySem.W.Frag} {mg : Str → Option Value} : RSh (RO K mg) := fun H0 H1 H F m x a hd h => by
  cases a with
  | val d => exact h
  | own o =>
    obtain ⟨a, h1, h2, h3⟩ := h
    exact ⟨a, h1, hd a h2, h3⟩
theorem sh_D {K : PySem.W.Frag} : RSh (RD K) := fun _ _ _ _ _ _ _ _ h => h
theorem sh_L {K : PySem.W.Frag} : RSh (RL K) := fun _ _ _ _ _ _ _ _ h => h
theorem sh_B {α : Type} : RSh (RB (α := α)) := fun _ _ _ _ _ _ _ _ h => h

abbrev WXn := Value → Option Addr → Hp → Prop
/-- what is wanted behind a result -/
def Aft {α β : Type} (K : PySem.W.Frag) (mg : Str → Option Value) (R : Rel α β) (W : WXn) (H F : Hp) (m : List Addr) (r : Option (Rz α)) (Q : β → Hp → Prop) : Prop :=
  match r with
  | none => False
  | some (.ok a S') => ∀ x H' F' m', Stp H F m H' F' m' → SOk K mg H' F' m' S' → R H H' F' m' x a → Q x H'
  | some (.er x S') => ∀ c d H' F' m', Stp H F m H' F' m' → SOk K mg H' F' m' S' → XnR K mg H' F' m' c d x → W c d H'

section
variable {K : PySem.W.Frag} {mg : Str → Option Value} {H H1 F F1 : Hp} {m m1 : List Addr} {α β γ δ : Type} {W : WXn}
theorem Aft.shift {R : Rel α β} (sh : RSh R) (st : Stp H F m H1 F1 m1) {r : Option (Rz α)} {Q : β → Hp → Prop} (h : Aft K mg R W H F m r Q) : Aft K mg R W H1 F1 m1 r Q := by
  match r, h with
  | none, h => exact h
  | some (.ok a S'), h => exact fun x H' F' m' s k q => h x H' F' m' (st.trans s) k (sh _ _ _ _ _ _ _ st.dm q)
  | some (.er x S'), h => exact fun c d H' F' m' s k q => h c d H' F' m' (st.trans s) k q
theorem Aft.imp {R : Rel α β} {r : Option (Rz α)} {Q Q' : β → Hp → Prop} (h : Aft K mg R W H F m r Q) (k : ∀ x H, Q x H → Q' x H) : Aft K mg R W H F m r Q' := by
  match r, h with
  | none, h => exact h
  | some (.ok a S'), h => exact fun x H' F' m' s q z => k _ _ (h x H' F' m' s q z)
  | some (.er x S'), h => exact h

abbrev WX' := Value → Option Addr → L2.St → Hp → Prop
/-- the generic reading of a denotation -/
def Tg {α β : Type} (K : PySem.W.Frag) (mg : Str → Option Value) (R : Rel α β) (W : WX') (f : Dn α) : L2.St → Hp → (β → Hp → Prop) → Prop := fun σ H Q =>
  ∃ ρ S F m, SlR K F m σ ρ ∧ SOk K mg H F m S ∧ Aft K mg R (fun c d H' => W c d σ H') H F m (f ρ S) Q

/-- THE BIND: C is carried -/
theorem tgc {R1 : Rel α β} {R2 : Rel γ δ} {W : WX'} {σ : L2.St} {f : Dn α} {g : En → α → Sto → Option (Rz γ)} {Q : δ → Hp → Prop} {Q' : β → Hp → Prop} (sh : RSh R2) (C : Hp → List Addr → Prop)
    (mono : ∀ F m F' m', Same F F' → Pre m m' → C F m → C F' m')
    (h : ∃ ρ S F m, C F m ∧ SlR K F m σ ρ ∧ SOk K mg H F m S ∧ Aft K mg R2 (fun c d H' => W c d σ H') H F m (bnd (f ρ S) (g ρ)) Q)
    (k : ∀ x H0 H1 ρ S1 F1 m1 a, C F1 m1 → SlR K F1 m1 σ ρ → SOk K mg H1 F1 m1 S1 → R1 H0 H1 F1 m1 x a → Aft K mg R2 (fun c d H' => W c d σ H') H1 F1 m1 (g ρ a S1) Q → Q' x H1) :
    Tg K mg R1 W f σ H Q' := by
  obtain ⟨ρ, S, F, m, hC, sl, ok, A⟩ := h
  refine ⟨ρ, S, F, m, sl, ok, ?_⟩
  match f ρ S, A with
  | none, A => exact A
  | some (.ok a S'), A =>
    intro x H1 F1 m1 st ok1 r1
    exact k x H H1 ρ S' F1 m1 a (mono _ _ _ _ st.fr st.pre hC) (sl.mono st.fr st.pre) ok1 r1 (Aft.shift sh st A)
  | some (.er x S'), A => exact A
theorem tg1 {R1 : Rel α β} {R2 : Rel γ δ} {W : WX'} {σ : L2.St} {f : Dn α} {g : En → α → Sto → Option (Rz γ)} {Q : δ → Hp → Prop} {Q' : β → Hp → Prop} (sh : RSh R2)
    (h : Tg K mg R2 W (fun ρ S => bnd (f ρ S) (g ρ)) σ H Q)
    (k : ∀ x H0 H1 ρ S1 F1 m1 a, SlR K F1 m1 σ ρ → SOk K mg H1 F1 m1 S1 → R1 H0 H1 F1 m1 x a → Aft K mg R2 (fun c d H' => W c d σ H') H1 F1 m1 (g ρ a S1) Q → Q' x H1) :
    Tg K mg R1 W f σ H Q' := by
  obtain ⟨ρ, S, F, m, sl, ok, A⟩ := h
  exact tgc (R2 := R2) (g := g) (Q := Q) sh (fun _ _ => True) (fun _ _ _ _ _ _ h => h) ⟨ρ, S, F, m, trivial, sl, ok, A⟩ fun x H0 H1 ρ S1 F1 m1 a _ => k x H0 H1 ρ S1 F1 m1 a
theorem tg_imp {R1 : Rel α β} {W : WX'} {σ : L2.St} {f : Dn α} {Q Q' : β → Hp → Prop} (h : Tg K mg R1 W f σ H Q) (k : ∀ x H, Q x H → Q' x H) : Tg K mg R1 W f σ H Q' := by
  obtain ⟨ρ, S, F, m, sl, ok, A⟩ := h
  exact ⟨ρ, S, F, m, sl, ok, A.imp k⟩
end

/-! ### settling: a new list is frozen, a new dict or instance goes into the store -/
def settle : Out → Sto → D × Sto
  | .val d, S => (d, S)
  | .own (.lst ds), S => (.lst ds, S)
  | .own (.dct []), S => (.emp, S)
  | .own o, S => (.ref S.length, S ++ [o])
def boxed : Out → Sto → Option (Nat × Sto)
  | .val _, _ => none
  | .own o, S => some (S.length, S ++ [o])
def stl (f : Dn Out) : Dn D := fun ρ S => bnd (f ρ S) fun o S1 => some (.ok (settle o S1).1 (settle o S1).2)
def bxd (f : Dn Out) : Dn D := fun ρ S => bnd (f ρ S) fun o S1 => match o with
  | .val d => some (.ok d S1)
  | .own ob => some (.ok (.ref S1.length) (S1 ++ [ob]))

section
variable {K : PySem.W.Frag} {mg : Str → Option Value} {H0 F0 H F : Hp} {m0 m : List Addr} {S : Sto}
theorem box_ok {o : Ob} {v : V} (st : Stp H0 F0 m0 H F m) (ok : SOk K mg H F m S) (r : OutR K mg H0 H F m v (.own o)) :
    ∃ m', Stp H0 F0 m0 H F m' ∧ SOk K mg H F m' (S ++ [o]) ∧ Rep K F m' v (.ref S.length) := by
  obtain ⟨a, rfl, h0, hF, hm, hob⟩ := r
  refine ⟨m ++ [a], ?_, ?_, ?_⟩
  · obtain ⟨l, e, hl⟩ := st.pr
    refine ⟨st.fr, ⟨l ++ [a], by rw [e, List.append_assoc], fun b hb => ?_⟩, st.nw, st.kp, st.dm⟩
    rcases List.mem_append.mp hb with hb | hb
    · exact hl b hb
    · rw [List.mem_singleton.mp hb]
      exact h0
  · refine ⟨ok.sub, by rw [List.length_append, List.length_append, ok.len]; rfl, ?_, fun b hb => ?_, fun n b u h1 h2 => ?_⟩
    · refine List.nodup_append.mpr ⟨ok.nd, by simp, fun b hb c hc => ?_⟩
      rw [List.mem_singleton.mp hc]
      intro e
      subst e
      exact hm hb
    · rcases List.mem_append.mp hb with hb | hb
      · exact ok.off b hb
      · rw [List.mem_singleton.mp hb]
        exact hF
    · by_cases hn : n < m.length
      · rw [List.getElem?_append_left hn] at h1
        rw [List.getElem?_append_left (by rw [← ok.len]; exact hn)] at h2
        exact ObR.mono (Same.refl F) ⟨[a], rfl⟩ (fun _ z => z) u (ok.obj n b u h1 h2)
      · have hn' : n = m.length := by
          have := (List.getElem?_eq_some_iff.mp h1).1
          rw [List.length_append, List.length_singleton] at this
          omega
        subst hn'
        rw [List.getElem?_append_right (Nat.le_refl _), Nat.sub_self] at h1
        rw [ok.len, List.getElem?_append_right (Nat.le_refl _), Nat.sub_self] at h2
        have e1 : a = b := Option.some.inj h1
        have e2 : o = u := Option.some.inj h2
        subst e1 e2
        exact ObR.mono (Same.refl F) ⟨[a], rfl⟩ (fun _ z => z) o hob
  · refine .ref ?_
    rw [← ok.len, List.getElem?_append_right (Nat.le_refl _), Nat.sub_self]
    rfl
theorem freeze_obj {a : Addr} {o : HO} (st : Stp H0 F0 m0 H F m) (ok : SOk K mg H F m S) (h0 : H0 a = none) (hF : F a = none) (hm : a ∉ m) (hH : H a = some o) :
    Same F (upd F a o) ∧ Stp H0 F0 m0 H (upd F a o) m ∧ SOk K mg H (upd F a o) m S := by
  have e : Same F (upd F a o) := fun b u q => by
    rw [upd_ne (fun z => by rw [z, hF] at q; cases q)]
    exact q
  refine ⟨e, ?_, ?_⟩
  · refine ⟨st.fr.trans e, st.pr, fun b u q => ?_, st.kp, st.dm⟩
    by_cases hb : b = a
    · subst hb
      exact .inr h0
    · rw [upd_ne hb] at q
      exact st.nw b u q
  · refine ⟨fun b u q => ?_, ok.len, ok.nd, fun b hb => ?_, fun n b u h1 h2 => ObR.mono e (Pre.refl m) (fun _ z => z) u (ok.obj n b u h1 h2)⟩
    · by_cases hb : b = a
      · subst hb
        rw [upd_same] at q
        cases q
        exact hH
      · rw [upd_ne hb] at q
        exact ok.sub b u q
    · rw [upd_ne (fun z => by subst z; exact hm hb)]
      exact ok.off b hb
theorem freeze_ok {ds : List D} {v : V} (st : Stp H0 F0 m0 H F m) (ok : SOk K mg H F m S) (r : OutR K mg H0 H F m v (.own (.lst ds))) :
    ∃ F', Stp H0 F0 m0 H F' m ∧ SOk K mg H F' m S ∧ Rep K F' m v (.lst ds) := by
  obtain ⟨a, rfl, h0, hF, hm, vs, hH, hr⟩ := r
  obtain ⟨e, s1, k1⟩ := freeze_obj st ok h0 hF hm hH
  exact ⟨_, s1, k1, .lst upd_same (RepL.mono e (Pre.refl m) ds hr)⟩
theorem freeze_emp {v : V} (st : Stp H0 F0 m0 H F m) (ok : SOk K mg H F m S) (r : OutR K mg H0 H F m v (.own (.dct []))) :
    ∃ F', Stp H0 F0 m0 H F' m ∧ SOk K mg H F' m S ∧ Rep K F' m v .emp := by
  obtain ⟨a, rfl, h0, hF, hm, ks, hH, hr⟩ := r
  cases hr
  obtain ⟨e, s1, k1⟩ := freeze_obj st ok h0 hF hm hH
  exact ⟨_, s1, k1, .emp upd_same⟩
theorem settle_ok {o : Out} {v : V} (st : Stp H0 F0 m0 H F m) (ok : SOk K mg H F m S) (r : OutR K mg H0 H F m v o) :
    ∃ F' m', Stp H0 F0 m0 H F' m' ∧ SOk K mg H F' m' (settle o S).2 ∧ Rep K F' m' v (settle o S).1 := by
  cases o with
  | val d => exact ⟨F, m, st, ok, r⟩
  | own o =>
    cases o with
    | lst ds =>
      obtain ⟨F', h⟩ := freeze_ok st ok r
      exact ⟨F', m, h⟩
    | dct kvs =>
      cases kvs with
      | nil =>
        obtain ⟨F', h⟩ := freeze_emp st ok r
        exact ⟨F', m, h⟩
      | cons p l =>
        obtain ⟨m', h⟩ := box_ok st ok r
        exact ⟨F, m', h⟩
    | dctT kvs =>
      obtain ⟨m', h⟩ := box_ok st ok r
      exact ⟨F, m', h⟩
    | ins c fs =>
      obtain ⟨m', h⟩ := box_ok st ok r
      exact ⟨F, m', h⟩
/-- a reading with its result settled -/
theorem tg_stl {W : WX'} {f : Dn Out} {σ : L2.St} {H : Hp} {Q : VK} (h : Tg K mg (RD K) W (stl f) σ H Q) : Tg K mg (RO K mg) W f σ H Q := by
  obtain ⟨ρ, S, F, m, sl, ok, A⟩ := h
  refine ⟨ρ, S, F, m, sl, ok, ?_⟩
  unfold stl at A
  match f ρ S, A with
  | none, A => exact A
  | some (.ok o S1), A =>
    intro v H1 F1 m1 st ok1 r1
    obtain ⟨F2, m2, st2, ok2, r2⟩ := settle_ok st ok1 r1
    exact A v H1 F2 m2 st2 ok2 r2
  | some (.er x S1), A => exact A
theorem tg_bxd {W : WX'} {f : Dn Out} {σ : L2.St} {H : Hp} {Q : VK} (h : Tg K mg (RD K) W (bxd f) σ H Q) : Tg K mg (RO K mg) W f σ H Q := by
  obtain ⟨ρ, S, F, m, sl, ok, A⟩ := h
  refine ⟨ρ, S, F, m, sl, ok, ?_⟩
  unfold bxd at A
  match f ρ S, A with
  | none, A => exact A
  | some (.ok (.val d) S1), A => exact fun v H1 F1 m1 st1 ok1 r1 => A v H1 F1 m1 st1 ok1 r1
  | some (.ok (.own o) S1), A =>
    intro v H1 F1 m1 st ok1 r1
    obtain ⟨m2, st2, ok2, r2⟩ := box_ok st ok1 r1
    exact A v H1 F1 m2 st2 ok2 r2
  | some (.er x S1), A => exact A
end

/-! ### weakening of readings -/
theorem pe_imp {X : Cx} {e : Expr} {t t' : TE} (h : PE X e t) (k : ∀ σ H Q, t' σ H Q → t σ H Q) : PE X e t' :=
  ⟨fun pins s σ H Q I q => h.run pins s σ H Q I (k σ H Q q)⟩
theorem pt_imp {X : Cx} {e : Expr} {t t' : TT} (h : PT X e t) (k : ∀ σ H Q, t' σ H Q → t σ H Q) : PT X e t' :=
  ⟨fun pins s σ H Q I q => h.run pins s σ H Q I (k σ H Q q)⟩
theorem pw_imp {X : Cx} {e : Expr} {t t' : TT} (h : PW X e t) (k : ∀ σ H Q, t' σ H Q → t σ H Q) : PW X e t' :=
  ⟨fun wh pins s σ H Q I q => h.run wh pins s σ H Q I (k σ H Q q)⟩
theorem pa_imp {X : Cx} {e : List Expr} {t t' : TA} (h : PA X e t) (k : ∀ σ H Q, t' σ H Q → t σ H Q) : PA X e t' :=
  ⟨fun pos pins s σ H Q I q => h.run pos pins s σ H Q I (k σ H Q q)⟩
theorem ps_imp {X : Cx} {e : Stmt} {t t' : TS} (h : PS X e t) (k : ∀ Dn σ H, t' Dn σ H → t Dn σ H) : PS X e t' :=
  ⟨fun pins s σ H Dn I q => h.run pins s σ H Dn I (k Dn σ H q)⟩
theorem pss_imp {X : Cx} {e : List Stmt} {t t' : TS} (h : PSs X e t) (k : ∀ Dn σ H, t' Dn σ H → t Dn σ H) : PSs X e t' :=
  ⟨fun pins s σ H Dn I q => h.run pins s σ H Dn I (k Dn σ H q)⟩

/-- an expression by its denotation; its value settled; a test; arguments -/
abbrev Pe (X : Cx) (W : WX') (e : Expr) (f : Dn Out) : Prop := PE X e (Tg X.K X.mg (RO X.K X.mg) W f)
abbrev Pd (X : Cx) (W : WX') (e : Expr) (f : Dn D) : Prop := PE X e (Tg X.K X.mg (RD X.K) W f)
abbrev Pt (X : Cx) (W : WX') (e : Expr) (f : Dn Bool) : Prop := PT X e (Tg X.K X.mg RB W f)
abbrev Pw (X : Cx) (W : WX') (e : Expr) (f : Dn Bool) : Prop := PW X e (Tg X.K X.mg RB W f)
abbrev Pa (X : Cx) (W : WX') (es : List Expr) (f : Dn (List D)) : Prop := PA X es (Tg X.K X.mg (RL X.K) W f)
theorem Pe.d {X : Cx} {W : WX'} {e : Expr} {f : Dn Out} (h : Pe X W e f) : Pd X W e (stl f) := pe_imp h fun _ _ _ q => tg_stl q
theorem Pe.b {X : Cx} {W : WX'} {e : Expr} {f : Dn Out} (h : Pe X W e f) : Pd X W e (bxd f) := pe_imp h fun _ _ _ q => tg_bxd q
end Sf
/-! Sf1: operations by data, expressions. -/
namespace Sf
open L2 PySem PySem.Spec PyProof.Rows

/-! ### looks at data -/
def view (S : Sto) : D → Option (List D)
  | .lst ds => some ds
  | .fls ds => some ds
  | .ref n => match S[n]? with
    | some (.lst ds) => some ds
    | _ => none
  | _ => none
/-- a list that may be joined -/
def viewC (S : Sto) : D → Option (List D)
  | .lst ds => some ds
  | .ref n => match S[n]? with
    | some (.lst ds) => some ds
    | _ => none
  | _ => none
def viewT : D → Option (List D)
  | .tup ds => some ds
  | _ => none
/-- a list or a tuple -/
def viewS (S : Sto) : D → Option (List D)
  | .tup ds => some ds
  | d => view S d

section
variable {K : PySem.W.Frag} {mg : Str → Option Value} {H F : Hp} {m : List Addr} {S : Sto}
theorem SOk.at (ok : SOk K mg H F m S) {a : Addr} {n : Nat} {o : Ob} (hn : m[n]? = some a) (ho : S[n]? = some o) : ObR K mg H F m a o := ok.obj n a o hn ho
theorem view_ok (ok : SOk K mg H F m S) {v : V} {d : D} {ds : List D} (r : Rep K F m v d) (h : view S d = some ds) : ∃ a xs, v = .ref a ∧ SqL K H a xs ∧ RepL K F m xs ds := by
  cases r with
  | lst h1 h2 =>
    cases h
    exact ⟨_, _, rfl, SqL.of (ok.sub _ _ h1), h2⟩
  | fls h1 h2 =>
    cases h
    exact ⟨_, _, rfl, same_l ok.sub h1, h2⟩
  | @ref a n h1 =>
    simp only [view] at h
    cases e : S[n]? with
    | none => rw [e] at h; cases h
    | some o =>
      rw [e] at h
      cases o with
      | lst es =>
        cases h
        obtain ⟨vs, h2, h3⟩ := ok.at h1 e
        exact ⟨_, _, rfl, SqL.of h2, h3⟩
      | _ => cases h
  | _ => cases h
theorem viewC_ok (ok : SOk K mg H F m S) {v : V} {d : D} {ds : List D} (r : Rep K F m v d) (h : viewC S d = some ds) : ∃ a xs, v = .ref a ∧ H a = some (.lst xs) ∧ RepL K F m xs ds := by
  cases r with
  | lst h1 h2 =>
    cases h
    exact ⟨_, _, rfl, ok.sub _ _ h1, h2⟩
  | @ref a n h1 =>
    simp only [viewC] at h
    cases e : S[n]? with
    | none => rw [e] at h; cases h
    | some o =>
      rw [e] at h
      cases o with
      | lst es =>
        cases h
        obtain ⟨vs, h2, h3⟩ := ok.at h1 e
        exact ⟨_, _, rfl, h2, h3⟩
      | _ => cases h
  | _ => cases h
theorem viewT_ok (ok : SOk K mg H F m S) {v : V} {d : D} {ds : List D} (r : Rep K F m v d) (h : viewT d = some ds) : ∃ a xs, v = .ref a ∧ SqT K H a xs ∧ RepL K F m xs ds := by
  cases r with
  | tup h1 h2 =>
    cases h
    exact ⟨_, _, rfl, same_t ok.sub h1, h2⟩
  | _ => cases h
theorem viewS_ok (ok : SOk K mg H F m S) {v : V} {d : D} {ds : List D} (r : Rep K F m v d) (h : viewS S d = some ds) : ∃ a xs, v = .ref a ∧ (SqL K H a xs ∨ SqT K H a xs) ∧ RepL K F m xs ds := by
  by_cases ht : ∃ es, d = .tup es
  · obtain ⟨es, rfl⟩ := ht
    obtain ⟨a, xs, e, h1, h2⟩ := viewT_ok ok r (show viewT (.tup es) = some ds from h)
    exact ⟨a, xs, e, .inr h1, h2⟩
  · have h' : view S d = some ds := by
      cases d <;> first | exact h | exact absurd ⟨_, rfl⟩ ht
    obtain ⟨a, xs, e, h1, h2⟩ := view_ok ok r h'
    exact ⟨a, xs, e, .inl h1, h2⟩

/-- a new object at p, not of the store -/
theorem SOk.new {p : Addr} {o : HO} (ok : SOk K mg H F m S) (hp : H p = none) : SOk K mg (upd H p o) F m S ∧ Stp H F m (upd H p o) F m := by
  have e : ∀ a u, H a = some u → upd H p o a = some u := fun a u h => by
    rw [upd_ne (fun z => by rw [z, hp] at h; cases h)]
    exact h
  refine ⟨⟨fun a u h => e a u (ok.sub a u h), ok.len, ok.nd, ok.off, fun n a u h1 h2 => ObR.mono (Same.refl F) (Pre.refl m) (e a) u (ok.obj n a u h1 h2)⟩,
    Same.refl F, (Stp.refl H F m).pr, fun _ _ h => .inl h, fun a u h _ => e a u h, fun a h => ?_⟩
  by_cases ha : a = p
  · rw [ha]; exact hp
  · rw [upd_ne ha] at h; exact h
theorem SOk.notin (ok : SOk K mg H F m S) {p : Addr} (hp : H p = none) : p ∉ m := fun h => by
  obtain ⟨n, hn⟩ := List.getElem?_of_mem h
  have hl : n < S.length := by
    have := (List.getElem?_eq_some_iff.mp hn).1
    rw [← ok.len]; exact this
  obtain ⟨u, hu⟩ := (ok.obj n p S[n] hn (List.getElem?_eq_getElem hl)).some
  rw [hp] at hu; cases hu
theorem SOk.fnone (ok : SOk K mg H F m S) {p : Addr} (hp : H p = none) : F p = none := by
  cases e : F p with
  | none => rfl
  | some u => rw [ok.sub p u e] at hp; cases hp
/-- what a new frozen object gives -/
theorem SOk.newF {p : Addr} {o : HO} (ok : SOk K mg H F m S) (hp : H p = none) : SOk K mg (upd H p o) (upd F p o) m S ∧ Stp H F m (upd H p o) (upd F p o) m ∧ Same F (upd F p o) := by
  obtain ⟨ok1, st1⟩ := ok.new (o := o) hp
  obtain ⟨e, s2, k2⟩ := freeze_obj st1 ok1 hp (ok.fnone hp) (ok.notin hp) upd_same
  exact ⟨k2, s2, e⟩
end

/-! ### operations by two values -/
abbrev O2 := Sto → D → D → Option Out
def rOf (K : PySem.W.Frag) (mg : Str → Option Value) (o : O2) : R2 := fun x y H Q => ∃ S F m a b u, SOk K mg H F m S ∧ Rep K F m x a ∧ Rep K F m y b ∧ o S a b = some u ∧
  ∀ v H' F' m', Stp H F m H' F' m' → SOk K mg H' F' m' S → OutR K mg H H' F' m' v u → Q v H'
def okv (o : Option Out) (S : Sto) : Option (Rz Out) :=
  match o with
  | some u => some (.ok u S)
  | none => none
def d2 (o : O2) (f g : Dn Out) : Dn Out := fun ρ S => bnd (stl f ρ S) fun a S1 => bnd (stl g ρ S1) fun b S2 => okv (o S2 a b) S2
theorem OpR.imp {X : Cx} {f : Value → Value → Sem Value} {r r' : R2} (h : OpR X f r) (k : ∀ x y H Q, r' x y H Q → r x y H Q) : OpR X f r' :=
  fun pins s σ H x y v u Q I rx ry q => h pins s σ H x y v u Q I rx ry (k x y H Q q)
theorem IxR.imp {X : Cx} {r r' : R2} (h : IxR X r) (k : ∀ x y H Q, r' x y H Q → r x y H Q) : IxR X r' :=
  fun value slice pins s σ H x y v u Q I rx ry q => h value slice pins s σ H x y v u Q I rx ry (k x y H Q q)

section
variable {K : PySem.W.Frag} {mg : Str → Option Value} {W : WX'} {σ : L2.St} {H : Hp}
theorem tg_2 {o : O2} {f g : Dn Out} {Q : VK} (h : Tg K mg (RO K mg) W (d2 o f g) σ H Q) :
    Tg K mg (RD K) W (stl f) σ H fun x H1 => Tg K mg (RD K) W (stl g) σ H1 fun y H2 => rOf K mg o x y H2 Q := by
  refine tg1 (R2 := RO K mg) (g := fun ρ a S1 => bnd (stl g ρ S1) fun b S2 => okv (o S2 a b) S2) sh_O h fun x _ H1 ρ S1 F1 m1 a sl ok1 rx A => ?_
  refine tgc (R2 := RO K mg) (g := fun _ b S2 => okv (o S2 a b) S2) sh_O (fun F m => Rep K F m x a) (fun F m F' m' e p r => Rep.mono e p a r) ⟨ρ, S1, F1, m1, rx, sl, ok1, A⟩ fun y _ H2 ρ S2 F2 m2 b rx sl ok2 ry A => ?_
  cases e : o S2 a b with
  | none => rw [e] at A; exact A.elim
  | some u =>
    rw [e] at A
    exact ⟨S2, F2, m2, a, b, u, ok2, rx, ry, e, fun v H' F' m' st k r => A v H' F' m' st k r⟩
end

/-- a bool-valued denotation as a test -/
def tst (f : Dn Out) : Dn Bool := fun ρ S => bnd (f ρ S) fun o S1 => match o with
  | .val (.bl c) => some (.ok c S1)
  | _ => none
theorem tg_tst {K : PySem.W.Frag} {mg : Str → Option Value} {W : WX'} {f : Dn Out} {σ : L2.St} {H : Hp} {Q : Bool → Hp → Prop} (h : Tg K mg RB W (tst f) σ H Q) :
    Tg K mg (RO K mg) W f σ H fun x H' => ∃ k, x = .bl k ∧ Q k H' := by
  refine tg1 (R2 := RB) (g := fun _ o S1 => match o with
    | .val (.bl c) => some (.ok c S1)
    | _ => none) sh_B h fun x _ H1 ρ S1 F1 m1 a sl ok1 rx A => ?_
  match a, rx, A with
  | .val (.bl c), rx, A =>
    cases rx
    exact ⟨c, rfl, A c H1 F1 m1 (Stp.refl ..) ok1 rfl⟩
  | .val .non, rx, A => exact A.elim
  | .val (.int _), rx, A => exact A.elim
  | .val (.str _), rx, A => exact A.elim
  | .val (.tup _), rx, A => exact A.elim
  | .val (.lst _), rx, A => exact A.elim
  | .val (.fls _), rx, A => exact A.elim
  | .val .emp, rx, A => exact A.elim
  | .val (.ref _), rx, A => exact A.elim
  | .own _, rx, A => exact A.elim

section
variable {X : Cx} {W : WX'} {a b c : Expr} {f g h : Dn Out} {pos : Pos}
theorem d_op {op : Operator} {o : O2} (ho : OpR X (binaryOp op) (rOf X.K X.mg o)) (ha : Pe X W a f) (hb : Pe X W b g) : Pe X W (.BinOp a op b pos) (d2 o f g) :=
  pe_imp (pe_op ho ha.d hb.d) fun _ _ _ q => tg_2 q
theorem d_cmp {op : CmpOp} {o : O2} (ho : OpR X (compareOp op) (rOf X.K X.mg o)) (ha : Pe X W a f) (hb : Pe X W b g) (hm : behindInMarks op b = false) : Pe X W (.Compare a [op] [b] pos) (d2 o f g) :=
  pe_imp (pe_cmpR ho ha.d hb.d hm) fun _ _ _ q => tg_2 q
theorem t_cmp {op : CmpOp} {o : O2} (ho : OpR X (compareOp op) (rOf X.K X.mg o)) (ha : Pe X W a f) (hb : Pe X W b g) (hm : behindInMarks op b = false) : Pt X W (.Compare a [op] [b] pos) (tst (d2 o f g)) :=
  pt_imp (pt_cmpR ho ha.d hb.d hm) fun _ _ _ q => tg_2 (tg_tst q)
/-- a op b op' c -/
def dChain (o o' : O2) (f g h : Dn Out) : Dn Out := fun ρ S => bnd (stl f ρ S) fun a S1 => bnd (stl g ρ S1) fun b S2 => match o S2 a b with
  | some (.val (.bl true)) => bnd (stl h ρ S2) fun c S3 => okv (o' S3 b c) S3
  | some (.val (.bl false)) => some (.ok (.val (.bl false)) S2)
  | _ => none
theorem tg_chain {K : PySem.W.Frag} {mg : Str → Option Value} {σ : L2.St} {H : Hp} {o o' : O2} {Q : VK} (q : Tg K mg (RO K mg) W (dChain o o' f g h) σ H Q) :
    tChain (rOf K mg o) (rOf K mg o') (Tg K mg (RD K) W (stl f)) (Tg K mg (RD K) W (stl g)) (Tg K mg (RD K) W (stl h)) σ H Q := by
  refine tg1 (R2 := RO K mg) (g := fun ρ a S1 => bnd (stl g ρ S1) fun b S2 => match o S2 a b with
    | some (.val (.bl true)) => bnd (stl h ρ S2) fun c S3 => okv (o' S3 b c) S3
    | some (.val (.bl false)) => some (.ok (.val (.bl false)) S2)
    | _ => none) sh_O q fun x _ H1 ρ S1 F1 m1 a sl ok1 rx A => ?_
  refine tgc (R2 := RO K mg) (g := fun ρ b S2 => match o S2 a b with
    | some (.val (.bl true)) => bnd (stl h ρ S2) fun c S3 => okv (o' S3 b c) S3
    | some (.val (.bl false)) => some (.ok (.val (.bl false)) S2)
    | _ => none) sh_O (fun F m => Rep K F m x a) (fun F m F' m' e p r => Rep.mono e p a r) ⟨ρ, S1, F1, m1, rx, sl, ok1, A⟩ fun y _ H2 ρ S2 F2 m2 b rx sl ok2 ry A => ?_
  match e : o S2 a b, A with
  | none, A => exact A.elim
  | some (.own _), A => exact A.elim
  | some (.val .non), A => exact A.elim
  | some (.val (.int _)), A => exact A.elim
  | some (.val (.str _)), A => exact A.elim
  | some (.val (.tup _)), A => exact A.elim
  | some (.val (.lst _)), A => exact A.elim
  | some (.val (.fls _)), A => exact A.elim
  | some (.val .emp), A => exact A.elim
  | some (.val (.ref _)), A => exact A.elim
  | some (.val (.bl false)), A =>
    refine ⟨S2, F2, m2, a, b, _, ok2, rx, ry, e, fun v H' F' m' st k r => ?_⟩
    cases r
    refine ⟨false, rfl, ?_⟩
    rw [if_neg (by simp)]
    exact A _ H' F' m' st k (.bl false)
  | some (.val (.bl true)), A =>
    refine ⟨S2, F2, m2, a, b, _, ok2, rx, ry, e, fun v H' F' m' st k r => ?_⟩
    cases r
    refine ⟨true, rfl, ?_⟩
    rw [if_pos rfl]
    refine tgc (R2 := RO K mg) (g := fun _ c S3 => okv (o' S3 b c) S3) sh_O (fun F m => Rep K F m y b) (fun F m F' m' e p r => Rep.mono e p b r)
      ⟨ρ, S2, F', m', Rep.mono st.fr st.pre b ry, sl.mono st.fr st.pre, k, Aft.shift sh_O st A⟩ fun z _ H3 ρ S3 F3 m3 c ry sl ok3 rz A => ?_
    cases e' : o' S3 b c with
    | none => rw [e'] at A; exact A.elim
    | some u =>
      rw [e'] at A
      exact ⟨S3, F3, m3, b, c, u, ok3, ry, rz, e', fun v H' F' m' st k r => A v H' F' m' st k r⟩
theorem d_chain {op op' : CmpOp} {o o' : O2} (ho : OpR X (compareOp op) (rOf X.K X.mg o)) (ho' : OpR X (compareOp op') (rOf X.K X.mg o')) (ha : Pe X W a f) (hb : Pe X W b g) (hc : Pe X W c h)
    (hm : lastMarks [op, op'] [b, c] = false := by with_unfolding_all rfl) : Pe X W (.Compare a [op, op'] [b, c] pos) (dChain o o' f g h) :=
  pe_imp (pe_chain ho ho' ha.d hb.d hc.d hm) fun _ _ _ q => tg_chain q
theorem t_chain {op op' : CmpOp} {o o' : O2} (ho : OpR X (compareOp op) (rOf X.K X.mg o)) (ho' : OpR X (compareOp op') (rOf X.K X.mg o')) (ha : Pe X W a f) (hb : Pe X W b g) (hc : Pe X W c h)
    (hm : lastMarks [op, op'] [b, c] = false := by with_unfolding_all rfl) : Pt X W (.Compare a [op, op'] [b, c] pos) (tst (dChain o o' f g h)) :=
  pt_imp (pt_chain ho ho' ha.d hb.d hc.d hm) fun _ _ _ q => tg_chain (tg_tst q)
end

/-! ### names and constants -/
def dVar (i : Nat) : Dn Out := fun ρ S => match ρ[i]? with
  | some (some d) => some (.ok (.val d) S)
  | _ => none
def dC (d : D) : Dn Out := fun _ S => some (.ok (.val d) S)
section
variable {X : Cx} {W : WX'}
theorem d_var (i : Nat) {x : Str} {pos : Pos} (hN : X.N[i]? = some x := by rfl) (hv : Vis X.env.scope x := by first | exact Or.inl rfl | exact Or.inr (Or.inl rfl) | exact Or.inr (Or.inr rfl)) (hd : (x == ("__debug__" : Str)) = false := by decide)
    (hcd : (x == ("__classdict__" : Str)) = false := by decide) : Pe X W (.Name x pos) (dVar i) := by
  refine pe_imp (pe_var hN hv hd hcd) fun σ H Q q => ?_
  obtain ⟨ρ, S, F, m, sl, ok, A⟩ := q
  unfold dVar at A
  match e : ρ[i]?, A with
  | none, A => exact A.elim
  | some none, A => exact A.elim
  | some (some d), A =>
    obtain ⟨v, h1, h2⟩ := sl.get i d e
    exact ⟨v, h1, A v H F m (Stp.refl ..) ok h2⟩
theorem tg_c {K : PySem.W.Frag} {mg : Str → Option Value} {σ : L2.St} {H : Hp} {Q : VK} {v : V} {d : D} (r : ∀ F m, Rep K F m v d) (q : Tg K mg (RO K mg) W (dC d) σ H Q) : tC v σ H Q := by
  obtain ⟨ρ, S, F, m, sl, ok, A⟩ := q
  exact A v H F m (Stp.refl ..) ok (r F m)
theorem d_int {i j pos} : Pe X W (.Constant (.int i) j pos) (dC (.int i)) := pe_imp pe_int fun _ _ _ q => tg_c (fun _ _ => .int i) q
theorem d_bl {b j pos} : Pe X W (.Constant (.bool b) j pos) (dC (.bl b)) := pe_imp pe_bl fun _ _ _ q => tg_c (fun _ _ => .bl b) q
theorem d_non {j pos} : Pe X W (.Constant .none j pos) (dC .non) := pe_imp pe_non fun _ _ _ q => tg_c (fun _ _ => .non) q
theorem d_str {x j pos} : Pe X W (.Constant (.str x) j pos) (dC (.str x)) := pe_imp pe_str fun _ _ _ q => tg_c (fun _ _ => .str x) q
/-- a module's constant -/
theorem d_glob {x : Str} {v : V} {u : Value} {d : D} {pos : Pos} (hg : Gl X x) (hm : X.mg x = some u) (r : RelV v u) (rd : ∀ F m, Rep X.K F m v d) (hd : (x == ("__debug__" : Str)) = false := by decide) : Pe X W (.Name x pos) (dC d) :=
  pe_imp (pe_glob hg hm r hd) fun _ _ _ q => tg_c rd q
end

/-! ### truth, and, or, not, if -/
def truthD (S : Sto) : D → Option Bool
  | .non => some false
  | .bl b => some b
  | .int i => some (i != 0)
  | .str s => if s.length ≤ sizeLine then some ((s.length : Int) != 0) else none
  | .tup ds => some (!ds.isEmpty)
  | .lst ds => some (!ds.isEmpty)
  | .fls ds => some (!ds.isEmpty)
  | .emp => some false
  | .ref n => match S[n]? with
    | some (.lst ds) => some (!ds.isEmpty)
    | some (.dct kvs) => some (!kvs.isEmpty)
    | _ => none
theorem RepL.isEmpty {K : PySem.W.Frag} {F : Hp} {m : List Addr} {vs : List V} {ds : List D} (h : RepL K F m vs ds) : vs.isEmpty = ds.isEmpty := by
  cases h <;> rfl
theorem truth_ok {K : PySem.W.Frag} {mg : Str → Option Value} {H F : Hp} {m : List Addr} {S : Sto} (ok : SOk K mg H F m S) {v : V} {d : D} {b : Bool} (r : Rep K F m v d) (h : truthD S d = some b) : TruV K v H b := by
  cases r with
  | non => cases h; rfl
  | bl c => cases h; rfl
  | int i => cases h; rfl
  | str s =>
    simp only [truthD] at h
    split at h
    · rename_i hs
      cases h
      exact ⟨hs, rfl⟩
    · cases h
  | tup h1 h2 =>
    cases h
    exact .inr (.inl ⟨_, same_t ok.sub h1, by rw [h2.isEmpty]⟩)
  | lst h1 h2 =>
    cases h
    exact .inl ⟨_, SqL.of (ok.sub _ _ h1), by rw [h2.isEmpty]⟩
  | fls h1 h2 =>
    cases h
    exact .inl ⟨_, same_l ok.sub h1, by rw [h2.isEmpty]⟩
  | emp h1 =>
    cases h
    exact .inr (.inr ⟨[], ok.sub _ _ h1, rfl⟩)
  | @ref a n h1 =>
    simp only [truthD] at h
    cases e : S[n]? with
    | none => rw [e] at h; cases h
    | some o =>
      rw [e] at h
      cases o with
      | lst es =>
        cases h
        obtain ⟨vs, h2, h3⟩ := ok.at h1 e
        exact .inl ⟨_, SqL.of h2, by rw [h3.isEmpty]⟩
      | dct kvs =>
        cases h
        obtain ⟨ks, h2, h3⟩ := ok.at h1 e
        exact .inr (.inr ⟨ks, h2, by cases h3 <;> rfl⟩)
      | _ => cases h

def dAnd (f g : Dn Out) : Dn Out := fun ρ S => bnd (stl f ρ S) fun a S1 => match truthD S1 a with
  | some true => g ρ S1
  | some false => some (.ok (.val a) S1)
  | none => none
def dOr (f g : Dn Out) : Dn Out := fun ρ S => bnd (stl f ρ S) fun a S1 => match truthD S1 a with
  | some true => some (.ok (.val a) S1)
  | some false => g ρ S1
  | none => none
def dNot (f : Dn Out) : Dn Out := fun ρ S => bnd (stl f ρ S) fun a S1 => match truthD S1 a with
  | some k => some (.ok (.val (.bl (!k))) S1)
  | none => none
def dTru (f : Dn Out) : Dn Bool := fun ρ S => bnd (stl f ρ S) fun a S1 => match truthD S1 a with
  | some k => some (.ok k S1)
  | none => none
def bAnd (f g : Dn Bool) : Dn Bool := fun ρ S => bnd (f ρ S) fun c S1 => if c = true then g ρ S1 else some (.ok false S1)
def bOr (f g : Dn Bool) : Dn Bool := fun ρ S => bnd (f ρ S) fun c S1 => if c = true then some (.ok true S1) else g ρ S1
def bNot (f : Dn Bool) : Dn Bool := fun ρ S => bnd (f ρ S) fun c S1 => some (.ok (!c) S1)
def dIf (c : Dn Bool) (f g : Dn Out) : Dn Out := fun ρ S => bnd (c ρ S) fun b S1 => if b = true then f ρ S1 else g ρ S1

section
variable {X : Cx} {W : WX'} {a b c : Expr} {rest : List Expr} {f g : Dn Out} {p q : Dn Bool} {pos : Pos}
theorem d_one {op} (h : Pe X W a f) : Pe X W (.BoolOp op [a] pos) f := pe_one h
theorem d_and (ha : Pe X W a f) (hb : Pe X W (.BoolOp .And (b :: rest) pos) g) : Pe X W (.BoolOp .And (a :: b :: rest) pos) (dAnd f g) := by
  refine pe_imp (pe_andT ha.d hb) fun σ H Q z => ?_
  refine tg1 (R2 := RO X.K X.mg) (g := fun ρ a S1 => match truthD S1 a with
    | some true => g ρ S1
    | some false => some (.ok (.val a) S1)
    | none => none) sh_O z fun x _ H1 ρ S1 F1 m1 d sl ok1 rx A => ?_
  match e : truthD S1 d, A with
  | none, A => exact A.elim
  | some true, A =>
    refine ⟨true, truth_ok ok1 rx e, ?_⟩
    rw [if_pos rfl]
    exact ⟨ρ, S1, F1, m1, sl, ok1, A⟩
  | some false, A =>
    refine ⟨false, truth_ok ok1 rx e, ?_⟩
    rw [if_neg (by simp)]
    exact A x H1 F1 m1 (Stp.refl ..) ok1 rx
theorem d_or (ha : Pe X W a f) (hb : Pe X W (.BoolOp .Or (b :: rest) pos) g) : Pe X W (.BoolOp .Or (a :: b :: rest) pos) (dOr f g) := by
  refine pe_imp (pe_orT ha.d hb) fun σ H Q z => ?_
  refine tg1 (R2 := RO X.K X.mg) (g := fun ρ a S1 => match truthD S1 a with
    | some true => some (.ok (.val a) S1)
    | some false => g ρ S1
    | none => none) sh_O z fun x _ H1 ρ S1 F1 m1 d sl ok1 rx A => ?_
  match e : truthD S1 d, A with
  | none, A => exact A.elim
  | some false, A =>
    refine ⟨false, truth_ok ok1 rx e, ?_⟩
    rw [if_neg (by simp)]
    exact ⟨ρ, S1, F1, m1, sl, ok1, A⟩
  | some true, A =>
    refine ⟨true, truth_ok ok1 rx e, ?_⟩
    rw [if_pos rfl]
    exact A x H1 F1 m1 (Stp.refl ..) ok1 rx
theorem d_not (ha : Pe X W a f) : Pe X W (.UnaryOp .Not a pos) (dNot f) := by
  refine pe_imp (pe_notT ha.d) fun σ H Q z => ?_
  refine tg1 (R2 := RO X.K X.mg) (g := fun ρ a S1 => match truthD S1 a with
    | some k => some (.ok (.val (.bl (!k))) S1)
    | none => none) sh_O z fun x _ H1 ρ S1 F1 m1 d sl ok1 rx A => ?_
  match e : truthD S1 d, A with
  | none, A => exact A.elim
  | some k, A =>
    exact ⟨k, truth_ok ok1 rx e, A _ H1 F1 m1 (Stp.refl ..) ok1 (.bl (!k))⟩
theorem t_tru (ha : Pe X W a f) (he : ∀ whole, isTrue a X.env whole = (do let v ← whole; standAt a.pos; holding [v] (truthy v)) := by intro _; rfl) : Pt X W a (dTru f) := by
  refine pt_imp (pt_truth ha.d he) fun σ H Q z => ?_
  refine tg1 (R2 := RB) (g := fun ρ a S1 => match truthD S1 a with
    | some k => some (.ok k S1)
    | none => none) sh_B z fun x _ H1 ρ S1 F1 m1 d sl ok1 rx A => ?_
  match e : truthD S1 d, A with
  | none, A => exact A.elim
  | some k, A =>
    exact ⟨k, truth_ok ok1 rx e, A _ H1 F1 m1 (Stp.refl ..) ok1 rfl⟩
theorem w_and1 (h : Pt X W a p) : Pw X W (.BoolOp .And [a] pos) p := pw_and1 h
theorem w_or1 (h : Pt X W a p) : Pw X W (.BoolOp .Or [a] pos) p := pw_or1 h
theorem w_and (ha : Pt X W a p) (hb : Pw X W (.BoolOp .And (b :: rest) pos) q) : Pw X W (.BoolOp .And (a :: b :: rest) pos) (bAnd p q) := by
  refine pw_imp (pw_and ha hb) fun σ H Q z => ?_
  refine tg1 (R2 := RB) (g := fun ρ c S1 => if c = true then q ρ S1 else some (.ok false S1)) sh_B z fun x _ H1 ρ S1 F1 m1 d sl ok1 rx A => ?_
  cases rx
  cases x with
  | true => exact ⟨ρ, S1, F1, m1, sl, ok1, A⟩
  | false => exact A false H1 F1 m1 (Stp.refl ..) ok1 rfl
theorem w_or (ha : Pt X W a p) (hb : Pw X W (.BoolOp .Or (b :: rest) pos) q) : Pw X W (.BoolOp .Or (a :: b :: rest) pos) (bOr p q) := by
  refine pw_imp (pw_or ha hb) fun σ H Q z => ?_
  refine tg1 (R2 := RB) (g := fun ρ c S1 => if c = true then some (.ok true S1) else q ρ S1) sh_B z fun x _ H1 ρ S1 F1 m1 d sl ok1 rx A => ?_
  cases rx
  cases x with
  | false => exact ⟨ρ, S1, F1, m1, sl, ok1, A⟩
  | true => exact A true H1 F1 m1 (Stp.refl ..) ok1 rfl
theorem t_w (h : Pw X W a p) : Pt X W a p := h.pt
theorem t_not (ha : Pt X W a p) : Pt X W (.UnaryOp .Not a pos) (bNot p) := by
  refine pt_imp (pt_not ha) fun σ H Q z => ?_
  refine tg1 (R2 := RB) (g := fun ρ c S1 => some (.ok (!c) S1)) sh_B z fun x _ H1 ρ S1 F1 m1 d sl ok1 rx A => ?_
  cases rx
  exact A (!x) H1 F1 m1 (Stp.refl ..) ok1 rfl
theorem d_if (hc : Pt X W c p) (ha : Pe X W a f) (hb : Pe X W b g) : Pe X W (.IfExp c a b pos) (dIf p f g) := by
  refine pe_imp (pe_ifExp hc ha hb) fun σ H Q z => ?_
  refine tg1 (R2 := RO X.K X.mg) (g := fun ρ c S1 => if c = true then f ρ S1 else g ρ S1) sh_O z fun x _ H1 ρ S1 F1 m1 d sl ok1 rx A => ?_
  cases rx
  cases x with
  | true => exact ⟨ρ, S1, F1, m1, sl, ok1, A⟩
  | false => exact ⟨ρ, S1, F1, m1, sl, ok1, A⟩
end

/-! ### argument lists, displays -/
def aNil : Dn (List D) := fun _ S => some (.ok [] S)
def aCons (f : Dn Out) (g : Dn (List D)) : Dn (List D) := fun ρ S => bnd (stl f ρ S) fun d S1 => bnd (g ρ S1) fun ds S2 => some (.ok (d :: ds) S2)
def dTup (g : Dn (List D)) : Dn Out := fun ρ S => bnd (g ρ S) fun ds S1 => if ds.length ≤ sizeLine then some (.ok (.val (.tup ds)) S1) else none
def dLst (g : Dn (List D)) : Dn Out := fun ρ S => bnd (g ρ S) fun ds S1 => if ds.length ≤ sizeLine then some (.ok (.own (.lst ds)) S1) else none
section
variable {X : Cx} {W : WX'} {e : Expr} {es : List Expr} {f : Dn Out} {g : Dn (List D)} {pos : Pos}
theorem a_nil : Pa X W [] aNil := by
  refine pa_imp pa_nil fun σ H Q q => ?_
  obtain ⟨ρ, S, F, m, sl, ok, A⟩ := q
  exact A [] H F m (Stp.refl ..) ok .nil
theorem a_cons (ha : Pe X W e f) (hr : Pa X W es g) (hs : starEach (e :: es) X.env = (false, eval e X.env) :: starEach es X.env := by rfl) : Pa X W (e :: es) (aCons f g) := by
  refine pa_imp (pa_cons ha.d hr hs) fun σ H Q q => ?_
  refine tg1 (R2 := RL X.K) (g := fun ρ d S1 => bnd (g ρ S1) fun ds S2 => some (.ok (d :: ds) S2)) sh_L q fun x _ H1 ρ S1 F1 m1 d sl ok1 rx A => ?_
  refine tgc (R2 := RL X.K) (g := fun _ ds S2 => some (.ok (d :: ds) S2)) sh_L (fun F m => Rep X.K F m x d) (fun F m F' m' e p r => Rep.mono e p d r) ⟨ρ, S1, F1, m1, rx, sl, ok1, A⟩ fun xs _ H2 ρ S2 F2 m2 ds rx sl ok2 rxs A => ?_
  exact A (x :: xs) H2 F2 m2 (Stp.refl ..) ok2 (.cons rx rxs)
theorem d_tup {x1} (h : Pa X W es g) : Pe X W (.Tuple es x1 pos) (dTup g) := by
  refine pe_imp (pe_tup h) fun σ H Q q => ?_
  refine tg1 (R2 := RO X.K X.mg) (g := fun ρ (ds : List D) S1 => if ds.length ≤ sizeLine then some (.ok (.val (.tup ds)) S1) else none) sh_O q fun xs _ H1 ρ S1 F1 m1 ds sl ok1 rx A => ?_
  by_cases hl : ds.length ≤ sizeLine
  · rw [if_pos hl] at A
    refine ⟨by rw [rx.length]; exact hl, fun p hp => ?_⟩
    obtain ⟨k, st, e⟩ := ok1.newF (o := .tup xs) hp
    exact A (.ref p) _ _ _ st k (.tup (.inl (.inl upd_same)) (RepL.mono e (Pre.refl _) ds rx))
  · rw [if_neg hl] at A
    exact A.elim
theorem d_lst (h : Pa X W es g) : Pe X W (.List es pos) (dLst g) := by
  refine pe_imp (pe_lst h) fun σ H Q q => ?_
  refine tg1 (R2 := RO X.K X.mg) (g := fun ρ (ds : List D) S1 => if ds.length ≤ sizeLine then some (.ok (.own (.lst ds)) S1) else none) sh_O q fun xs _ H1 ρ S1 F1 m1 ds sl ok1 rx A => ?_
  by_cases hl : ds.length ≤ sizeLine
  · rw [if_pos hl] at A
    refine ⟨by rw [rx.length]; exact hl, fun p hp => ?_⟩
    obtain ⟨k, st⟩ := ok1.new (o := .lst xs) hp
    exact A (.ref p) _ _ _ st k ⟨p, rfl, hp, ok1.fnone hp, ok1.notin hp, xs, upd_same, rx⟩
  · rw [if_neg hl] at A
    exact A.elim
end
end Sf
/-! Sf2: the operations. -/
namespace Sf
open L2 PySem PySem.Spec PyProof.Rows

theorem rof_val {K : PySem.W.Frag} {mg : Str → Option Value} {H F : Hp} {m : List Addr} {S : Sto} {Q : VK} {v : V} {d : D} (ok : SOk K mg H F m S)
    (q : ∀ v H' F' m', Stp H F m H' F' m' → SOk K mg H' F' m' S → OutR K mg H H' F' m' v (.val d) → Q v H') (r : Rep K F m v d) : Q v H := q v H F m (Stp.refl ..) ok r
theorem rof_tup {K : PySem.W.Frag} {mg : Str → Option Value} {H F : Hp} {m : List Addr} {S : Sto} {Q : VK} {ds : List D} {xs : List V} (ok : SOk K mg H F m S)
    (q : ∀ v H' F' m', Stp H F m H' F' m' → SOk K mg H' F' m' S → OutR K mg H H' F' m' v (.val (.tup ds)) → Q v H') (r : RepL K F m xs ds) : ∀ p, H p = none → Q (.ref p) (upd H p (.tup xs)) := fun p hp => by
  obtain ⟨k, st, e⟩ := ok.newF (o := .tup xs) hp
  exact q (.ref p) _ _ _ st k (.tup (.inl (.inl upd_same)) (RepL.mono e (Pre.refl _) ds r))
theorem rof_lst {K : PySem.W.Frag} {mg : Str → Option Value} {H F : Hp} {m : List Addr} {S : Sto} {Q : VK} {ds : List D} {xs : List V} (ok : SOk K mg H F m S)
    (q : ∀ v H' F' m', Stp H F m H' F' m' → SOk K mg H' F' m' S → OutR K mg H H' F' m' v (.own (.lst ds)) → Q v H') (r : RepL K F m xs ds) : ∀ p, H p = none → Q (.ref p) (upd H p (.lst xs)) := fun p hp => by
  obtain ⟨k, st⟩ := ok.new (o := .lst xs) hp
  exact q (.ref p) _ _ _ st k ⟨p, rfl, hp, ok.fnone hp, ok.notin hp, xs, upd_same, r⟩

def addD : O2 := fun S a b => match a, b with
  | .int i, .int j => some (.val (.int (i + j)))
  | .str s, .str t => if s.length + t.length ≤ sizeLine then some (.val (.str (s ++ t))) else none
  | .tup as, .tup bs => if as.length + bs.length ≤ sizeLine then some (.val (.tup (as ++ bs))) else none
  | a, b => match viewC S a, viewC S b with
    | some as, some bs => if as.length + bs.length ≤ sizeLine then some (.own (.lst (as ++ bs))) else none
    | _, _ => none
def subD : O2 := fun _ a b => match a, b with
  | .int i, .int j => some (.val (.int (i - j)))
  | _, _ => none
/-- products: one factor below 2 ^ 64, or both within bits -/
def mulOk (i j : Int) : Bool := decide ((-(2 ^ 64) < i ∧ i < 2 ^ 64) ∨ (-(2 ^ 64) < j ∧ j < 2 ^ 64))
def mulD : O2 := fun S a b => match a, b with
  | .int i, .int j => if mulOk i j = true then some (.val (.int (i * j))) else none
  | a, .int k => match viewC S a with
    | some as => if -(2 ^ 63) ≤ k ∧ k < 2 ^ 63 ∧ as.length * k.toNat ≤ sizeLine then some (.own (.lst (List.replicate k.toNat as).flatten)) else none
    | none => none
  | _, _ => none
/-- a product of great numbers -/
def mulWD : O2 := fun S a b => match a, b with
  | .int i, .int j => if i.natAbs.log2 + j.natAbs.log2 < 1000000 then some (.val (.int (i * j))) else none
  | _, _ => none
def modD : O2 := fun _ a b => match a, b with
  | .int i, .int j => if j ≠ 0 then some (.val (.int (i.fmod j))) else none
  | _, _ => none
def fdivD : O2 := fun _ a b => match a, b with
  | .int i, .int j => if j ≠ 0 ∧ j.natAbs < 1073741824 then some (.val (.int (i.fdiv j))) else none
  | _, _ => none
def powD : O2 := fun _ a b => match a, b with
  | .int i, .int j => if 0 ≤ j ∧ j ≤ 1000000 ∧ i.natAbs < 2 ^ 64 then some (.val (.int (i ^ j.toNat))) else none
  | _, _ => none
def strLt (s t : Str) : Bool := decide (s.cps.toList < t.cps.toList)
def ltD : O2 := fun _ a b => match a, b with
  | .int i, .int j => some (.val (.bl (decide (i < j))))
  | .str s, .str t => some (.val (.bl (strLt s t)))
  | _, _ => none
def leD : O2 := fun _ a b => match a, b with
  | .int i, .int j => some (.val (.bl (decide (i ≤ j))))
  | .str s, .str t => some (.val (.bl (!strLt t s)))
  | _, _ => none
def gtD : O2 := fun _ a b => match a, b with
  | .int i, .int j => some (.val (.bl (decide (j < i))))
  | .str s, .str t => some (.val (.bl (strLt t s)))
  | _, _ => none
def geD : O2 := fun _ a b => match a, b with
  | .int i, .int j => some (.val (.bl (decide (j ≤ i))))
  | .str s, .str t => some (.val (.bl (!strLt s t)))
  | _, _ => none

theorem mulOk_c {i j : Int} (h : mulOk i j = true) : CMul i j := by
  have h' := of_decide_eq_true (p := ((-(2 ^ 64) < i ∧ i < 2 ^ 64) ∨ (-(2 ^ 64) < j ∧ j < 2 ^ 64))) h
  exact h'

section
variable {X : Cx}
theorem op_addD : OpR X (binaryOp .Add) (rOf X.K X.mg addD) := by
  refine OpR.imp (OpR.or (OpR.or (OpR.or op_add op_add_str) op_catA) op_cat) fun x y H Q h => ?_
  obtain ⟨S, F, m, a, b, u, ok, ra, rb, ho, q⟩ := h
  unfold addD at ho
  split at ho
  · cases ra; cases rb; cases ho
    exact .inl (.inl (.inl ⟨_, _, rfl, rfl, rof_val ok q (.int _)⟩))
  · split at ho
    · rename_i hs
      cases ra; cases rb; cases ho
      exact .inl (.inl (.inr ⟨_, _, rfl, rfl, hs, rof_val ok q (.str _)⟩))
    · cases ho
  · split at ho
    · rename_i as bs hs
      cases ho
      obtain ⟨p, xs, rfl, h1, h2⟩ := viewT_ok ok ra rfl
      obtain ⟨p', ys, rfl, h3, h4⟩ := viewT_ok ok rb rfl
      refine .inl (.inr ⟨_, _, _, _, rfl, rfl, h1, h3, by rw [h2.length, h4.length]; exact hs, fun e => ?_, fun _ e => ?_, fun _ _ => rof_tup ok q (h2.append h4)⟩)
      · subst e
        cases h2
        exact rof_val ok q rb
      · subst e
        cases h4
        rw [List.append_nil] at q
        exact rof_val ok q ra
    · cases ho
  · split at ho
    · rename_i as bs e1 e2
      split at ho
      · rename_i hs
        cases ho
        obtain ⟨p, xs, rfl, h1, h2⟩ := viewC_ok ok ra e1
        obtain ⟨p', ys, rfl, h3, h4⟩ := viewC_ok ok rb e2
        exact .inr ⟨_, _, _, _, rfl, rfl, h1, h3, by rw [h2.length, h4.length]; exact hs, rof_lst ok q (h2.append h4)⟩
      · cases ho
    · cases ho
theorem opII {o : O2} {f : Value → Value → Sem Value} {C : Int → Int → Prop} {g : Int → Int → V} (ho : OpR X f (rI C g))
    (k : ∀ S a b u, o S a b = some u → ∃ i j d, a = .int i ∧ b = .int j ∧ C i j ∧ u = .val d ∧ ∀ F m, Rep X.K F m (g i j) d) : OpR X f (rOf X.K X.mg o) := by
  refine OpR.imp ho fun x y H Q h => ?_
  obtain ⟨S, F, m, a, b, u, ok, ra, rb, e, q⟩ := h
  obtain ⟨i, j, d, rfl, rfl, hc, rfl, hd⟩ := k S a b u e
  cases ra; cases rb
  exact ⟨i, j, rfl, rfl, hc, rof_val ok q (hd F m)⟩
theorem op_subD : OpR X (binaryOp .Sub) (rOf X.K X.mg subD) := by
  refine OpR.imp op_sub fun x y H Q h => ?_
  obtain ⟨S, F, m, a, b, u, ok, ra, rb, e, q⟩ := h
  unfold subD at e
  split at e
  · cases ra; cases rb; cases e
    exact ⟨_, _, rfl, rfl, rof_val ok q (.int _)⟩
  · cases e
theorem op_mulD : OpR X (binaryOp .Mult) (rOf X.K X.mg mulD) := by
  refine OpR.imp (OpR.or op_mul op_rep) fun x y H Q h => ?_
  obtain ⟨S, F, m, a, b, u, ok, ra, rb, e, q⟩ := h
  unfold mulD at e
  split at e
  · split at e
    · rename_i hc
      cases ra; cases rb; cases e
      exact .inl ⟨_, _, rfl, rfl, mulOk_c hc, rof_val ok q (.int _)⟩
    · cases e
  · split at e
    · rename_i as e1
      split at e
      · rename_i hs
        cases e
        cases rb
        obtain ⟨p, xs, rfl, h1, h2⟩ := viewC_ok ok ra e1
        refine .inr ⟨_, _, _, rfl, rfl, h1, hs.1, hs.2.1, by rw [h2.length]; exact hs.2.2, rof_lst ok q ?_⟩
        have : ∀ n, RepL X.K F m (List.replicate n xs).flatten (List.replicate n as).flatten := fun n => by
          induction n with
          | zero => exact .nil
          | succ n ih =>
            rw [List.replicate_succ, List.replicate_succ, List.flatten_cons, List.flatten_cons]
            exact h2.append ih
        exact this _
      · cases e
    · cases e
  · cases e
theorem op_mulWD : OpR X (binaryOp .Mult) (rOf X.K X.mg mulWD) := by
  refine opII op_mulW fun S a b u e => ?_
  unfold mulWD at e
  split at e
  · split at e
    · rename_i hc
      cases e
      exact ⟨_, _, _, rfl, rfl, hc, rfl, fun _ _ => .int _⟩
    · cases e
  · cases e
theorem op_modD : OpR X (binaryOp .Mod) (rOf X.K X.mg modD) := by
  refine opII op_modN fun S a b u e => ?_
  unfold modD at e
  split at e
  · split at e
    · rename_i hc
      cases e
      exact ⟨_, _, _, rfl, rfl, hc, rfl, fun _ _ => .int _⟩
    · cases e
  · cases e
theorem op_fdivD : OpR X (binaryOp .FloorDiv) (rOf X.K X.mg fdivD) := by
  refine opII op_fdivN fun S a b u e => ?_
  unfold fdivD at e
  split at e
  · split at e
    · rename_i hc
      cases e
      exact ⟨_, _, _, rfl, rfl, hc, rfl, fun _ _ => .int _⟩
    · cases e
  · cases e
theorem op_powD : OpR X (binaryOp .Pow) (rOf X.K X.mg powD) := by
  refine opII op_pow fun S a b u e => ?_
  unfold powD at e
  split at e
  · split at e
    · rename_i hc
      cases e
      exact ⟨_, _, _, rfl, rfl, hc, rfl, fun _ _ => .int _⟩
    · cases e
  · cases e
theorem op_ltD : OpR X (compareOp .Lt) (rOf X.K X.mg ltD) := by
  refine OpR.imp (OpR.or op_lt op_lt_str) fun x y H Q h => ?_
  obtain ⟨S, F, m, a, b, u, ok, ra, rb, e, q⟩ := h
  unfold ltD at e
  split at e
  · cases ra; cases rb; cases e
    exact .inl ⟨_, _, rfl, rfl, rof_val ok q (.bl _)⟩
  · cases ra; cases rb; cases e
    exact .inr ⟨_, _, rfl, rfl, rof_val ok q (.bl _)⟩
  · cases e
theorem op_leD : OpR X (compareOp .LtE) (rOf X.K X.mg leD) := by
  refine OpR.imp (OpR.or op_le op_le_str) fun x y H Q h => ?_
  obtain ⟨S, F, m, a, b, u, ok, ra, rb, e, q⟩ := h
  unfold leD at e
  split at e
  · cases ra; cases rb; cases e
    exact .inl ⟨_, _, rfl, rfl, rof_val ok q (.bl _)⟩
  · cases ra; cases rb; cases e
    exact .inr ⟨_, _, rfl, rfl, rof_val ok q (.bl _)⟩
  · cases e
theorem op_gtD : OpR X (compareOp .Gt) (rOf X.K X.mg gtD) := by
  refine OpR.imp (OpR.or op_gt op_gt_str) fun x y H Q h => ?_
  obtain ⟨S, F, m, a, b, u, ok, ra, rb, e, q⟩ := h
  unfold gtD at e
  split at e
  · cases ra; cases rb; cases e
    exact .inl ⟨_, _, rfl, rfl, rof_val ok q (.bl _)⟩
  · cases ra; cases rb; cases e
    exact .inr ⟨_, _, rfl, rfl, rof_val ok q (.bl _)⟩
  · cases e
theorem op_geD : OpR X (compareOp .GtE) (rOf X.K X.mg geD) := by
  refine OpR.imp (OpR.or op_ge op_ge_str) fun x y H Q h => ?_
  obtain ⟨S, F, m, a, b, u, ok, ra, rb, e, q⟩ := h
  unfold geD at e
  split at e
  · cases ra; cases rb; cases e
    exact .inl ⟨_, _, rfl, rfl, rof_val ok q (.bl _)⟩
  · cases ra; cases rb; cases e
    exact .inr ⟨_, _, rfl, rfl, rof_val ok q (.bl _)⟩
  · cases e
end

/-! ### data as PyData: ==, in, repr -/
mutual
def D.plain : D → Bool
  | .ref _ => false
  | .tup ds => plainL ds
  | .lst ds => plainL ds
  | .fls ds => plainL ds
  | _ => true
def plainL : List D → Bool
  | [] => true
  | d :: ds => d.plain && plainL ds
end
mutual
def D.py : D → PyData
  | .non => .none
  | .bl b => .bool b
  | .int i => .int i
  | .str s => .str s
  | .tup ds => .tuple (pyL ds)
  | .lst ds => .list (pyL ds)
  | .fls ds => .list (pyL ds)
  | .emp => .dict []
  | .ref _ => .none
def pyL : List D → List PyData
  | [] => []
  | d :: ds => d.py :: pyL ds
end
/-- the look through one box -/
def topd (S : Sto) : D → D
  | .ref n => match S[n]? with
    | some (.lst ds) => .lst ds
    | some (.dct []) => .emp
    | _ => .ref n
  | d => d
section
variable {X : Cx} {F : Hp} {m : List Addr} {pins : List (Addr × Obj)} {σ : L2.St} {H : Hp} {s : Shared} {S : Sto}
mutual
theorem rep_reads (I : Inv X pins σ H s) (sub : Same F H) : ∀ (d : D) (v : V) (u : Value), Rep X.K F m v d → d.plain = true → RelV v u → ∃ as, Reads s.heap u d.py as
  | .non, _, _, h, _, r => by
    cases h; cases r
    exact ⟨_, Reads.none⟩
  | .bl b, _, _, h, _, r => by
    cases h; cases r
    exact ⟨_, Reads.bool b⟩
  | .int i, _, _, h, _, r => by
    cases h
    obtain ⟨t, rfl⟩ := r
    exact ⟨_, Reads.int i t⟩
  | .str x, _, _, h, _, r => by
    cases h
    obtain ⟨t, rfl⟩ := r
    exact ⟨_, Reads.str x t⟩
  | .tup ds, _, _, h, p, r => by
    cases h with
    | tup hs ha =>
      cases r
      obtain ⟨its, rv, ⟨o, ho, hc, n, hd⟩, _⟩ := I.tuple (same_t sub hs)
      obtain ⟨as, hr⟩ := repl_reads I sub ds _ its ha p rv
      exact ⟨_, Reads.tuple ho hc hd hr⟩
  | .lst ds, _, _, h, p, r => by
    cases h with
    | lst hs ha =>
      cases r
      obtain ⟨its, rv, ⟨o, n, ho, hc, _, hd⟩, _⟩ := I.list (SqL.of (sub _ _ hs))
      obtain ⟨as, hr⟩ := repl_reads I sub ds _ its ha p rv
      exact ⟨_, Reads.list ho hc hd hr⟩
  | .fls ds, _, _, h, p, r => by
    cases h with
    | fls hs ha =>
      cases r
      obtain ⟨its, rv, ⟨o, n, ho, hc, _, hd⟩, _⟩ := I.list (same_l sub hs)
      obtain ⟨as, hr⟩ := repl_reads I sub ds _ its ha p rv
      exact ⟨_, Reads.list ho hc hd hr⟩
  | .emp, _, _, h, _, r => by
    cases h with
    | emp hs =>
      cases r
      obtain ⟨_, _, vs, rel, o, es, ep, ho, hx, hd, he⟩ := dk_of I.hok (sub _ _ hs)
      cases rel
      have e0 : es.toList = [] := by
        match es.toList, he.2.1 with
        | [], _ => rfl
        | _ :: _, z => cases z
      exact ⟨_, Reads.dict ho hx.1 hd (by rw [e0]; exact .nil) (by rw [e0]; exact .nil)⟩
  | .ref _, _, _, _, p, _ => by cases p
theorem repl_reads (I : Inv X pins σ H s) (sub : Same F H) : ∀ (ds : List D) (vs : List V) (us : List Value), RepL X.K F m vs ds → plainL ds = true → Vals vs us → ∃ as, ReadsAll s.heap us (pyL ds) as
  | [], _, _, h, _, r => by
    cases h; cases r
    exact ⟨_, ReadsAll.nil⟩
  | d :: ds, _, _, h, p, r => by
    cases h with
    | cons h1 h2 =>
      cases r with
      | cons r1 r2 =>
        simp only [plainL, Bool.and_eq_true] at p
        obtain ⟨as, q1⟩ := rep_reads I sub d _ _ h1 p.1 r1
        obtain ⟨bs, q2⟩ := repl_reads I sub ds _ _ h2 p.2 r2
        exact ⟨_, ReadsAll.cons q1 q2⟩
end
end

section
variable {K : PySem.W.Frag} {mg : Str → Option Value} {F : Hp} {m : List Addr} {H : Hp} {S : Sto}
/-- the look through a box is read at the whole heap -/
theorem topd_rep (ok : SOk K mg H F m S) {v : V} {d : D} (r : Rep K F m v d) : ∃ F', Same F' H ∧ Rep K F' m v (topd S d) := by
  by_cases hr : ∃ n, d = .ref n
  · obtain ⟨n, rfl⟩ := hr
    cases r with
    | @ref a n h1 =>
      have keep : ∃ F', Same F' H ∧ Rep K F' m (.ref a) (.ref n) := ⟨F, ok.sub, .ref h1⟩
      show ∃ F', Same F' H ∧ Rep K F' m (.ref a) (match S[n]? with
        | some (.lst ds) => .lst ds
        | some (.dct []) => .emp
        | _ => .ref n)
      cases e : S[n]? with
      | none => exact keep
      | some o =>
        cases o with
        | lst ds =>
          obtain ⟨vs, h2, h3⟩ := ok.at h1 e
          exact ⟨H, fun _ _ z => z, .lst h2 (RepL.mono ok.sub (Pre.refl m) ds h3)⟩
        | dct kvs =>
          cases kvs with
          | nil =>
            obtain ⟨ks, h2, h3⟩ := ok.at h1 e
            cases h3
            exact ⟨H, fun _ _ z => z, .emp h2⟩
          | cons p l => exact keep
        | dctT kvs => exact keep
        | ins c fs => exact keep
  · have e : topd S d = d := by
      cases d <;> first | rfl | exact absurd ⟨_, rfl⟩ hr
    rw [e]
    exact ⟨F, ok.sub, r⟩
end

/-- == -/
def shp (d : D) : Bool := d.plain && SeqAt.shaped d.py
def eqB (S : Sto) (a b : D) : Option Bool :=
  match a, b with
  | .int i, .int j => some (decide (i = j))
  | .str s, .str t => some (decide (s = t))
  | a, b => if shp (topd S a) && shp (topd S b) then some (PyData.eqv (topd S a).py (topd S b).py) else none
def eqD : O2 := fun S a b => (eqB S a b).map fun c => .val (.bl c)
def neD : O2 := fun S a b => (eqB S a b).map fun c => .val (.bl (!c))
section
variable {X : Cx}
theorem opB_of {o : O2} {f : Value → Value → Sem Value} (h : ∀ (pins : List (Addr × Obj)) (s : Shared) (σ : L2.St) (H F : Hp) (m : List Addr) (S : Sto) (x y : V) (v u : Value) (a b : D) (r : Out) (Q : VK), Inv X pins σ H s → RelV x v → RelV y u →
    SOk X.K X.mg H F m S → Rep X.K F m x a → Rep X.K F m y b → o S a b = some r → ∃ c, r = .val (.bl c) ∧ (Q (.bl c) H → wpAny (model X.prog X.w) X.A (f v u) (EP X pins σ Q) X.xe s)) : OpR X f (rOf X.K X.mg o) := by
  intro pins s σ H x y v u Q I rx ry ⟨S, F, m, a, b, r, ok, ra, rb, e, q⟩
  obtain ⟨c, rfl, k⟩ := h pins s σ H F m S x y v u a b r Q I rx ry ok ra rb e
  exact k (q _ H F m (Stp.refl ..) ok (.bl c))
theorem op_eqD' (hu : X.A.units + 64 < cLine) : OpR X (compareOp .Eq) (rOf X.K X.mg eqD) := by
  refine opB_of fun pins s σ H F m S x y v u a b r Q I rx ry ok ra rb e => ?_
  unfold eqD at e
  cases e1 : eqB S a b with
  | none => rw [e1] at e; cases e
  | some c =>
    rw [e1] at e
    cases e
    refine ⟨c, rfl, fun q => ?_⟩
    unfold eqB at e1
    split at e1
    · cases ra; cases rb; cases e1
      refine op_eq pins s σ H _ _ v u Q I rx ry ⟨rfl, ?_⟩
      rename_i i j
      have : decide (V.int i = V.int j) = decide (i = j) := decide_eq_decide.mpr ⟨fun z => by injection z, fun z => by rw [z]⟩
      rw [this]
      exact q
    · cases ra; cases rb; cases e1
      refine op_eq pins s σ H _ _ v u Q I rx ry ⟨rfl, ?_⟩
      rename_i i j
      have : decide (V.str i = V.str j) = decide (i = j) := decide_eq_decide.mpr ⟨fun z => by injection z, fun z => by rw [z]⟩
      rw [this]
      exact q
    · split at e1
      · rename_i hc
        cases e1
        simp only [Bool.and_eq_true, shp] at hc
        obtain ⟨F1, s1, r1⟩ := topd_rep ok ra
        obtain ⟨F2, s2, r2⟩ := topd_rep ok rb
        obtain ⟨as, q1⟩ := rep_reads I s1 _ _ _ r1 hc.1.1 rx
        obtain ⟨bs, q2⟩ := rep_reads I s2 _ _ _ r2 hc.2.1 ry
        exact SeqAt.compareEq_shaped q1 q2 hc.1.2 hc.2.2 hu ⟨.bl _, H, I, rfl, q⟩
      · cases e1
theorem op_neD' (hu : X.A.units + 64 < cLine) : OpR X (compareOp .NotEq) (rOf X.K X.mg neD) := by
  refine opB_of fun pins s σ H F m S x y v u a b r Q I rx ry ok ra rb e => ?_
  unfold neD at e
  cases e1 : eqB S a b with
  | none => rw [e1] at e; cases e
  | some c =>
    rw [e1] at e
    cases e
    refine ⟨!c, rfl, fun q => ?_⟩
    unfold eqB at e1
    split at e1
    · cases ra; cases rb; cases e1
      refine op_ne pins s σ H _ _ v u Q I rx ry ⟨rfl, ?_⟩
      rename_i i j
      have : decide (V.int i = V.int j) = decide (i = j) := decide_eq_decide.mpr ⟨fun z => by injection z, fun z => by rw [z]⟩
      rw [this]
      exact q
    · cases ra; cases rb; cases e1
      refine op_ne pins s σ H _ _ v u Q I rx ry ⟨rfl, ?_⟩
      rename_i i j
      have : decide (V.str i = V.str j) = decide (i = j) := decide_eq_decide.mpr ⟨fun z => by injection z, fun z => by rw [z]⟩
      rw [this]
      exact q
    · split at e1
      · rename_i hc
        cases e1
        simp only [Bool.and_eq_true, shp] at hc
        obtain ⟨F1, s1, r1⟩ := topd_rep ok ra
        obtain ⟨F2, s2, r2⟩ := topd_rep ok rb
        obtain ⟨as, q1⟩ := rep_reads I s1 _ _ _ r1 hc.1.1 rx
        obtain ⟨bs, q2⟩ := rep_reads I s2 _ _ _ r2 hc.2.1 ry
        exact SeqAt.compareNe_shaped q1 q2 hc.1.2 hc.2.2 hu ⟨.bl _, H, I, rfl, q⟩
      · cases e1
/-- is None, is True, is False -/
def isB (a b : D) : Option Bool :=
  match b, a with
  | .non, .non => some true
  | .non, _ => some false
  | .bl c, .bl d => some (decide (d = c))
  | _, _ => none
def isD : O2 := fun _ a b => (isB a b).map fun c => .val (.bl c)
def isNotD : O2 := fun _ a b => (isB a b).map fun c => .val (.bl (!c))
theorem isB_ok {F : Hp} {m : List Addr} {x y : V} {a b : D} {c : Bool} (ra : Rep X.K F m x a) (rb : Rep X.K F m y b) (h : isB a b = some c) :
    (y = .non ∧ decide (x = .non) = c) ∨ ∃ p q, x = .bl p ∧ y = .bl q ∧ decide (p = q) = c := by
  unfold isB at h
  split at h
  · cases ra; cases rb; cases h
    exact .inl ⟨rfl, rfl⟩
  · rename_i hn
    cases rb; cases h
    refine .inl ⟨rfl, ?_⟩
    cases ra <;> first | rfl | exact absurd rfl hn
  · cases ra; cases rb; cases h
    exact .inr ⟨_, _, rfl, rfl, rfl⟩
  · cases h
theorem op_isD : OpR X (compareOp .Is) (rOf X.K X.mg isD) := by
  refine opB_of fun pins s σ H F m S x y v u a b r Q I rx ry ok ra rb e => ?_
  unfold isD at e
  cases e1 : isB a b with
  | none => rw [e1] at e; cases e
  | some c =>
    rw [e1] at e
    cases e
    refine ⟨c, rfl, fun q => ?_⟩
    rcases isB_ok ra rb e1 with ⟨h1, h2⟩ | ⟨p, p', h1, h2, h3⟩
    · exact op_isN pins s σ H x y v u Q I rx ry ⟨h1, by rw [h2]; exact q⟩
    · exact op_isBl pins s σ H x y v u Q I rx ry ⟨p, p', h1, h2, by rw [h3]; exact q⟩
theorem op_isNotD : OpR X (compareOp .IsNot) (rOf X.K X.mg isNotD) := by
  refine opB_of fun pins s σ H F m S x y v u a b r Q I rx ry ok ra rb e => ?_
  unfold isNotD at e
  cases e1 : isB a b with
  | none => rw [e1] at e; cases e
  | some c =>
    rw [e1] at e
    cases e
    refine ⟨!c, rfl, fun q => ?_⟩
    rcases isB_ok ra rb e1 with ⟨h1, h2⟩ | ⟨p, p', h1, h2, h3⟩
    · exact op_notN pins s σ H x y v u Q I rx ry ⟨h1, by rw [h2]; exact q⟩
    · exact op_notBl pins s σ H x y v u Q I rx ry ⟨p, p', h1, h2, by rw [h3]; exact q⟩

/-! ### in -/
def D.flat : D → Bool
  | .non => true
  | .bl _ => true
  | .int _ => true
  | .str _ => true
  | _ => false
def eqF : D → D → Bool
  | .non, .non => true
  | .bl a, .bl b => a == b
  | .bl a, .int b => (if a then 1 else 0) == b
  | .int a, .bl b => a == (if b then 1 else 0)
  | .int a, .int b => a == b
  | .str a, .str b => a == b
  | _, _ => false
def inB (S : Sto) (a b : D) : Option Bool :=
  match a, b with
  | .str ⟨⟨[c]⟩⟩, .str z => some (decide (c ∈ z.cps.toList))
  | .str s, .str z => some (!(Builtin.Str.occurrences z s 0 z.length 1).isEmpty)
  | a, b => match viewS S b with
    | some ds => if a.flat && ds.all D.flat then some (ds.any fun d => eqF d a) else
        (match view S b with
         | some _ => if shp a && SeqAt.shaped (.list (pyL ds)) && plainL ds then some (ds.any fun z => PyData.eqv z.py a.py) else none
         | none => none)
    | none => none
def inD : O2 := fun S a b => (inB S a b).map fun c => .val (.bl c)
def notInD : O2 := fun S a b => (inB S a b).map fun c => .val (.bl (!c))
theorem rep_flat {F : Hp} {m : List Addr} {x : V} {d : D} (r : Rep X.K F m x d) (h : d.flat = true) : flatV x = true := by
  cases r <;> first | rfl | cases h
theorem repl_flat {F : Hp} {m : List Addr} : ∀ {xs : List V} {ds : List D}, RepL X.K F m xs ds → ds.all D.flat = true → xs.all flatV = true
  | _, _, .nil, _ => rfl
  | _, _, .cons r t, h => by
    rw [List.all_cons, Bool.and_eq_true] at h
    rw [List.all_cons, rep_flat r h.1, repl_flat t h.2]
    rfl
theorem eqF_ok {F : Hp} {m : List Addr} {x y : V} {d e : D} (r : Rep X.K F m x d) (q : Rep X.K F m y e) (h : d.flat = true) (k : e.flat = true) : eqV x y = eqF d e := by
  cases r <;> cases q <;> first | rfl | cases h | cases k
theorem inV_ok {F : Hp} {m : List Addr} {x : V} {d : D} (q : Rep X.K F m x d) (k : d.flat = true) : ∀ {xs : List V} {ds : List D}, RepL X.K F m xs ds → ds.all D.flat = true → inV x xs = ds.any fun e => eqF e d
  | _, _, .nil, _ => rfl
  | _, _, .cons r t, h => by
    rw [List.all_cons, Bool.and_eq_true] at h
    have ih := inV_ok q k t h.2
    unfold inV at ih ⊢
    rw [List.any_cons, List.any_cons, eqF_ok r q h.1 k, ih]
theorem any_py {a : PyData} : ∀ ds : List D, (pyL ds).any (fun z => PyData.eqv z a) = ds.any fun z => PyData.eqv z.py a
  | [] => rfl
  | d :: ds => by
    show (_ || _) = (_ || _)
    rw [any_py ds]
theorem mem_core {S : Sto} {F : Hp} {m : List Addr} {H : Hp} {a b : D} {c : Bool} {x y : V} {neg : Bool} {op : CmpOp} (ho : OpR X (compareOp op) (rIn X.K neg))
    (hs : OpR X (compareOp op) (fun x y H Q => ∃ (c : Nat) (z : Str), x = .str ⟨#[c]⟩ ∧ y = .str z ∧ Q (.bl (if neg then !decide (c ∈ z.cps.toList) else decide (c ∈ z.cps.toList))) H))
    (ht : OpR X (compareOp op) (fun x y H Q => ∃ i j, x = .str i ∧ y = .str j ∧ Q (.bl (if neg then !(!(Builtin.Str.occurrences j i 0 j.length 1).isEmpty) else !(Builtin.Str.occurrences j i 0 j.length 1).isEmpty)) H))
    {s : Shared} {v u : Value} {Q' : Value → Shared → Prop} (hd : ∀ (d : PyData) (ds : List PyData) (as bs : List Addr), Reads s.heap u (.list ds) as → Reads s.heap v d bs → SeqAt.shaped d = true → SeqAt.shaped (.list ds) = true →
      Q' (.bool (if neg then !(ds.any fun z => PyData.eqv z d) else ds.any fun z => PyData.eqv z d)) s → wpAny (model X.prog X.w) X.A (compareOp op v u) Q' X.xe s)
    {pins : List (Addr × Obj)} {σ : L2.St} {Q : VK} (hQ : Q' = EP X pins σ Q) (I : Inv X pins σ H s) (rx : RelV x v) (ry : RelV y u) (ok : SOk X.K X.mg H F m S)
    (ra : Rep X.K F m x a) (rb : Rep X.K F m y b) (e : inB S a b = some c) (q : Q (.bl (if neg then !c else c)) H) : wpAny (model X.prog X.w) X.A (compareOp op v u) (EP X pins σ Q) X.xe s := by
  unfold inB at e
  split at e
  · cases ra; cases rb; cases e
    exact hs pins s σ H _ _ v u Q I rx ry ⟨_, _, rfl, rfl, q⟩
  · cases ra; cases rb; cases e
    exact ht pins s σ H _ _ v u Q I rx ry ⟨_, _, rfl, rfl, q⟩
  · split at e
    · rename_i ds e1
      split at e
      · rename_i hf
        cases e
        rw [Bool.and_eq_true] at hf
        obtain ⟨p, xs, rfl, h1, h2⟩ := viewS_ok ok rb e1
        refine ho pins s σ H _ _ v u Q I rx ry ⟨p, xs, rfl, h1, rep_flat ra hf.1, repl_flat h2 hf.2, ?_⟩
        rw [inV_ok ra hf.1 h2 hf.2]
        exact q
      · split at e
        · rename_i es e2
          split at e
          · rename_i hc
            cases e
            simp only [Bool.and_eq_true, shp] at hc
            obtain ⟨p, xs, rfl, h1, h2⟩ := view_ok ok rb e2
            have hds : es = ds := by
              have : viewS S b = some es := by
                cases b <;> first | exact e2 | cases e2
              rw [e1] at this
              cases this
              rfl
            subst hds
            obtain ⟨as, q1⟩ := rep_reads I ok.sub a x v ra hc.1.1.1 rx
            cases ry
            obtain ⟨its, rv, ⟨o, n, ho', hc', _, hd'⟩, _⟩ := I.list h1
            obtain ⟨bs, q2⟩ := repl_reads I ok.sub es xs its h2 hc.2 rv
            subst hQ
            refine hd a.py (pyL es) _ _ (Reads.list ho' hc' hd' q2) q1 hc.1.1.2 hc.1.2 ⟨.bl _, H, I, rfl, ?_⟩
            rw [any_py]
            exact q
          · cases e
        · cases e
    · cases e
theorem op_inD (hu : X.A.units + 65 < cLine) : OpR X (compareOp .In) (rOf X.K X.mg inD) := by
  refine opB_of fun pins s σ H F m S x y v u a b r Q I rx ry ok ra rb e => ?_
  unfold inD at e
  cases e1 : inB S a b with
  | none => rw [e1] at e; cases e
  | some c =>
    rw [e1] at e
    cases e
    exact ⟨c, rfl, fun q => mem_core (neg := false) op_in_seq op_in_sign op_in_str (fun d ds as bs r2 r1 sd se q => SeqAt.in_list_reads r2 r1 (SeqAt.canLay_of_shaped se) (SeqAt.canLay_of_shaped sd) (room_in_shaped sd hu) q) rfl I rx ry ok ra rb e1 q⟩
theorem op_notInD (hu : X.A.units + 65 < cLine) : OpR X (compareOp .NotIn) (rOf X.K X.mg notInD) := by
  refine opB_of fun pins s σ H F m S x y v u a b r Q I rx ry ok ra rb e => ?_
  unfold notInD at e
  cases e1 : inB S a b with
  | none => rw [e1] at e; cases e
  | some c =>
    rw [e1] at e
    cases e
    exact ⟨!c, rfl, fun q => mem_core (neg := true) op_notIn_seq op_notIn_sign op_notIn_str (fun d ds as bs r2 r1 sd se q => SeqAt.notIn_list_reads r2 r1 (SeqAt.canLay_of_shaped se) (SeqAt.canLay_of_shaped sd) (room_in_shaped sd hu) q) rfl I rx ry ok ra rb e1 q⟩
end
end Sf
/-! Sf3: subscripts, slices, built-in functions and methods. -/
namespace Sf
open L2 PySem PySem.Spec PyProof.Rows

theorem repl_at {K : PySem.W.Frag} {F : Hp} {m : List Addr} {vs : List V} {ds : List D} {i : Int} {d : D} (r : RepL K F m vs ds) (h : atI ds i = some d) : ∃ v, atI vs i = some v ∧ Rep K F m v d := by
  unfold atI at h ⊢
  rw [r.length]
  cases e : ixN ds.length i with
  | none => rw [e] at h; cases h
  | some j =>
    rw [e] at h
    exact r.get h
/-- x[i] -/
def ixD : O2 := fun S a b => match a, b with
  | .tup ds, .int i => (atI ds i).map .val
  | .str z, .int i => if z.length ≤ sizeLine then (atI z.cps.toList i).map fun c => .val (.str ⟨#[c]⟩) else none
  | a, .int i => match view S a with
    | some ds => (atI ds i).map .val
    | none => none
  | _, _ => none
theorem op_ixD {X : Cx} : IxR X (rOf X.K X.mg ixD) := by
  refine IxR.imp (ix_list.or (ix_tup.or ix_str)) fun x y H Q h => ?_
  obtain ⟨S, F, m, a, b, u, ok, ra, rb, e, q⟩ := h
  unfold ixD at e
  split at e
  · rename_i ds i
    cases e1 : atI ds i with
    | none => rw [e1] at e; cases e
    | some d =>
      rw [e1] at e
      cases e
      cases rb
      obtain ⟨p, xs, rfl, h1, h2⟩ := viewT_ok ok ra rfl
      obtain ⟨v, h3, h4⟩ := repl_at h2 e1
      exact .inr (.inl ⟨p, xs, i, v, rfl, rfl, h1, h3, rof_val ok q h4⟩)
  · rename_i z i
    split at e
    · rename_i hz
      cases e1 : atI z.cps.toList i with
      | none => rw [e1] at e; cases e
      | some c =>
        rw [e1] at e
        cases e
        cases ra; cases rb
        exact .inr (.inr ⟨z, i, c, rfl, rfl, hz, e1, rof_val ok q (.str _)⟩)
    · cases e
  · rename_i i _ _
    split at e
    · rename_i ds e0
      cases e1 : atI ds i with
      | none => rw [e1] at e; cases e
      | some d =>
        rw [e1] at e
        cases e
        cases rb
        obtain ⟨p, xs, rfl, h1, h2⟩ := view_ok ok ra e0
        obtain ⟨v, h3, h4⟩ := repl_at h2 e1
        exact .inl ⟨p, xs, i, v, rfl, rfl, h1, h3, rof_val ok q h4⟩
    · cases e
  · cases e
theorem d_ix {X : Cx} {W : WX'} {a b : Expr} {f g : Dn Out} {pos : Pos} (ha : Pe X W a f) (hb : Pe X W b g) (hs : PlainIx b := by exact fun _ _ => rfl) : Pe X W (.Subscript a b pos) (d2 ixD f g) :=
  pe_imp (pe_ix op_ixD ha.d hb.d hs) fun _ _ _ q => tg_2 q

/-! ### slices -/
def cutD (xs : List D) (lo hi : Option Int) : List D := (xs.drop (HT.sIx xs.length 0 lo)).take (HT.sIx xs.length xs.length hi - HT.sIx xs.length 0 lo)
def slD (S : Sto) (a : D) (lo hi : Option Int) : Option Out :=
  match a with
  | .tup ds => some (.val (.tup (cutD ds lo hi)))
  | .str z => if z.length ≤ sizeLine then some (.val (.str (cutS z lo hi))) else none
  | a => match view S a with
    | some ds => some (.own (.lst (cutD ds lo hi)))
    | none => none
def pNone : Dn (Option Int) := fun _ S => some (.ok none S)
def pSome (f : Dn Out) : Dn (Option Int) := fun ρ S => bnd (stl f ρ S) fun d S1 => match d with
  | .int i => some (.ok (some i) S1)
  | _ => none
def dSl (f : Dn Out) (g h : Dn (Option Int)) : Dn Out := fun ρ S => bnd (stl f ρ S) fun a S1 => bnd (g ρ S1) fun lo S2 => bnd (h ρ S2) fun hi S3 => okv (slD S3 a lo hi) S3
abbrev Po (X : Cx) (W : WX') (e : Option Expr) (f : Dn (Option Int)) : Prop := PO X e (Tg X.K X.mg RB W f)
theorem po_imp {X : Cx} {e : Option Expr} {t t' : TO} (h : PO X e t) (k : ∀ σ H Q, t' σ H Q → t σ H Q) : PO X e t' :=
  ⟨fun pins s σ H Q I q => h.run pins s σ H Q I (k σ H Q q)⟩
section
variable {X : Cx} {W : WX'} {e : Expr} {lo hi : Option Expr} {f : Dn Out} {g h : Dn (Option Int)} {pos p2 : Pos}
theorem p_none : Po X W none pNone := by
  refine po_imp po_none fun σ H Q q => ?_
  obtain ⟨ρ, S, F, m, sl, ok, A⟩ := q
  exact A none H F m (Stp.refl ..) ok rfl
theorem p_some (h : Pe X W e f) : Po X W (some e) (pSome f) := by
  refine po_imp (po_some h.d) fun σ H Q q => ?_
  refine tg1 (R2 := RB) (g := fun ρ (d : D) S1 => match d with
    | .int i => some (.ok (some i) S1)
    | _ => none) sh_B q fun x _ H1 ρ S1 F1 m1 d sl ok1 rx A => ?_
  match d, rx, A with
  | .int i, rx, A =>
    cases rx
    exact ⟨i, rfl, A (some i) H1 F1 m1 (Stp.refl ..) ok1 rfl⟩
  | .non, rx, A => exact A.elim
  | .bl _, rx, A => exact A.elim
  | .str _, rx, A => exact A.elim
  | .tup _, rx, A => exact A.elim
  | .lst _, rx, A => exact A.elim
  | .fls _, rx, A => exact A.elim
  | .emp, rx, A => exact A.elim
  | .ref _, rx, A => exact A.elim
theorem cut_rep {K : PySem.W.Frag} {F : Hp} {m : List Addr} {vs : List V} {ds : List D} {lo hi : Option Int} (r : RepL K F m vs ds) : RepL K F m (cutV vs lo hi) (cutD ds lo hi) := by
  unfold cutV cutD
  rw [r.length]
  exact (r.drop _).take _
theorem d_sl (ha : Pe X W e f) (hl : Po X W lo g) (hu : Po X W hi h) : Pe X W (.Subscript e (.Slice lo hi none p2) pos) (dSl f g h) := by
  refine pe_imp (pe_slice ((sl_list.or sl_tupA).or sl_str) ha.d hl hu) fun σ H Q q => ?_
  refine tg1 (R2 := RO X.K X.mg) (g := fun ρ a S1 => bnd (g ρ S1) fun lo S2 => bnd (h ρ S2) fun hi S3 => okv (slD S3 a lo hi) S3) sh_O q fun x _ H1 ρ S1 F1 m1 a sl ok1 rx A => ?_
  refine tgc (R2 := RO X.K X.mg) (g := fun ρ lo S2 => bnd (h ρ S2) fun hi S3 => okv (slD S3 a lo hi) S3) sh_O (fun F m => Rep X.K F m x a) (fun F m F' m' e p r => Rep.mono e p a r) ⟨ρ, S1, F1, m1, rx, sl, ok1, A⟩ fun l _ H2 ρ S2 F2 m2 lo rx sl ok2 rl A => ?_
  cases rl
  refine tgc (R2 := RO X.K X.mg) (g := fun ρ hi S3 => okv (slD S3 a l hi) S3) sh_O (fun F m => Rep X.K F m x a) (fun F m F' m' e p r => Rep.mono e p a r) ⟨ρ, S2, F2, m2, rx, sl, ok2, A⟩ fun u _ H3 ρ S3 F3 m3 hi rx sl ok3 ru A => ?_
  cases ru
  cases e : slD S3 a l u with
  | none => rw [e] at A; exact A.elim
  | some r =>
    rw [e] at A
    have q : ∀ v H' F' m', Stp H3 F3 m3 H' F' m' → SOk X.K X.mg H' F' m' S3 → OutR X.K X.mg H3 H' F' m' v r → Q v H' := A
    unfold slD at e
    split at e
    · cases e
      obtain ⟨p, xs, rfl, h1, h2⟩ := viewT_ok ok3 rx rfl
      refine .inl (.inr ⟨p, xs, rfl, h1, fun hw => ?_, fun _ => rof_tup ok3 q (cut_rep h2)⟩)
      refine rof_val ok3 q ?_
      have hc : ∀ ds, RepL X.K F3 m3 xs ds → cutD ds l u = ds := fun ds hr => by
        unfold cutD
        have e1 := hr.length
        rw [← e1, hw.1, hw.2, List.drop_zero, Nat.sub_zero, e1, List.take_length]
      rw [hc _ h2]
      exact rx
    · split at e
      · rename_i hz
        cases e
        cases rx
        exact .inr ⟨_, rfl, hz, rof_val ok3 q (.str _)⟩
      · cases e
    · split at e
      · rename_i ds e1
        cases e
        obtain ⟨p, xs, rfl, h1, h2⟩ := view_ok ok3 rx e1
        exact .inl (.inl ⟨p, xs, rfl, h1, rof_lst ok3 q (cut_rep h2)⟩)
      · cases e
end

/-! ### calls of built-ins -/
abbrev OC := Sto → List D → Option Out
def rCl (K : PySem.W.Frag) (mg : Str → Option Value) (o : OC) : List V → Hp → VK → Prop := fun xs H Q => ∃ S F m ds u, SOk K mg H F m S ∧ RepL K F m xs ds ∧ o S ds = some u ∧
  ∀ v H' F' m', Stp H F m H' F' m' → SOk K mg H' F' m' S → OutR K mg H H' F' m' v u → Q v H'
def dCl (o : OC) (g : Dn (List D)) : Dn Out := fun ρ S => bnd (g ρ S) fun ds S1 => okv (o S1 ds) S1
theorem tg_cl {K : PySem.W.Frag} {mg : Str → Option Value} {W : WX'} {o : OC} {g : Dn (List D)} {σ : L2.St} {H : Hp} {Q : VK} (h : Tg K mg (RO K mg) W (dCl o g) σ H Q) : Tg K mg (RL K) W g σ H fun xs H1 => rCl K mg o xs H1 Q := by
  refine tg1 (R2 := RO K mg) (g := fun _ ds S1 => okv (o S1 ds) S1) sh_O h fun xs _ H1 ρ S1 F1 m1 ds sl ok1 rx A => ?_
  cases e : o S1 ds with
  | none => rw [e] at A; exact A.elim
  | some u =>
    rw [e] at A
    exact ⟨S1, F1, m1, ds, u, ok1, rx, e, fun v H' F' m' st k r => A v H' F' m' st k r⟩
theorem CallR.imp {X : Cx} {f : Value} {r r' : List V → Hp → VK → Prop} (h : CallR X f r) (k : ∀ xs H Q, r' xs H Q → r xs H Q) : CallR X f r' :=
  fun pins s σ H xs us Q I rx q => h pins s σ H xs us Q I rx (k xs H Q q)
section
variable {X : Cx} {W : WX'} {x : Str} {e : Expr} {es : List Expr} {g : Dn (List D)} {o : OC} {p pos : Pos} {id T : String}
theorem d_callB (hc : CallR X (.builtin id) (rCl X.K X.mg o)) (hg : Gl X x) (hm : X.mg x = none) (hv : bootBuiltins x = some (.builtin id)) (ha : Pa X W (e :: es) g)
    (hn : x ≠ "__name__" := by decide) (hd : (x == ("__debug__" : Str)) = false := by decide) (hs : starEach (e :: es) X.env = (false, eval e X.env) :: starEach es X.env := by rfl)
    (hpl : (backTo pos (starEach es X.env)).any (·.1) = false := by rfl) : Pe X W (.Call (.Name x p) (e :: es) [] pos) (dCl o g) :=
  pe_imp (pe_callB hc hg hm hv ha hn hd hs hpl) fun _ _ _ q => tg_cl q
theorem d_callTy (hc : CallR X (.type T) (rCl X.K X.mg o)) (hg : Gl X x) (hm : X.mg x = none) (hv : bootBuiltins x = some (.type T)) (ha : Pa X W (e :: es) g)
    (hn : x ≠ "__name__" := by decide) (hd : (x == ("__debug__" : Str)) = false := by decide) (hs : starEach (e :: es) X.env = (false, eval e X.env) :: starEach es X.env := by rfl)
    (hpl : (backTo pos (starEach es X.env)).any (·.1) = false := by rfl) : Pe X W (.Call (.Name x p) (e :: es) [] pos) (dCl o g) :=
  pe_imp (pe_callTy hc hg hm hv ha hn hd hs hpl) fun _ _ _ q => tg_cl q
end

def strsD : List D → Option (List Str)
  | [] => some []
  | .str s :: r => (strsD r).map (s :: ·)
  | _ :: _ => none
def intsD : List D → Option (List Int)
  | [] => some []
  | .int s :: r => (intsD r).map (s :: ·)
  | _ :: _ => none
def blsD : List D → Option (List Bool)
  | [] => some []
  | .bl s :: r => (blsD r).map (s :: ·)
  | _ :: _ => none
section
variable {K : PySem.W.Frag} {F : Hp} {m : List Addr}
theorem strsD_ok : ∀ {ds : List D} {vs : List V} {ss : List Str}, RepL K F m vs ds → strsD ds = some ss → vs = ss.map V.str
  | [], _, _, h, e => by cases h; cases e; rfl
  | d :: ds, _, ss, h, e => by
    cases h with
    | cons h1 h2 =>
      cases h1 <;> first | cases e | skip
      cases e1 : strsD ds with
      | none => simp [strsD, e1] at e
      | some r =>
        simp [strsD, e1] at e
        subst e
        rw [strsD_ok h2 e1, List.map_cons]
theorem intsD_ok : ∀ {ds : List D} {vs : List V} {ss : List Int}, RepL K F m vs ds → intsD ds = some ss → vs = ss.map V.int
  | [], _, _, h, e => by cases h; cases e; rfl
  | d :: ds, _, ss, h, e => by
    cases h with
    | cons h1 h2 =>
      cases h1 <;> first | cases e | skip
      cases e1 : intsD ds with
      | none => simp [intsD, e1] at e
      | some r =>
        simp [intsD, e1] at e
        subst e
        rw [intsD_ok h2 e1, List.map_cons]
theorem blsD_ok : ∀ {ds : List D} {vs : List V} {ss : List Bool}, RepL K F m vs ds → blsD ds = some ss → vs = ss.map V.bl
  | [], _, _, h, e => by cases h; cases e; rfl
  | d :: ds, _, ss, h, e => by
    cases h with
    | cons h1 h2 =>
      cases h1 <;> first | cases e | skip
      cases e1 : blsD ds with
      | none => simp [blsD, e1] at e
      | some r =>
        simp [blsD, e1] at e
        subst e
        rw [blsD_ok h2 e1, List.map_cons]
end
def maxI : Int → List Int → Int
  | m, [] => m
  | m, n :: r => maxI (if n > m then n else m) r
theorem maxI_le : ∀ (r : List Int) (m : Int), m ≤ maxI m r ∧ ∀ y ∈ r, y ≤ maxI m r
  | [], m => ⟨Int.le_refl m, fun y hy => absurd hy (by simp)⟩
  | n :: r, m => by
    obtain ⟨h1, h2⟩ := maxI_le r (if n > m then n else m)
    have hm : m ≤ (if n > m then n else m) := by split <;> omega
    have hn : n ≤ (if n > m then n else m) := by split <;> omega
    refine ⟨Int.le_trans hm h1, fun y hy => ?_⟩
    rcases List.mem_cons.mp hy with rfl | hy
    · exact Int.le_trans hn h1
    · exact h2 y hy
theorem maxI_mem : ∀ (r : List Int) (m : Int), maxI m r = m ∨ maxI m r ∈ r
  | [], m => .inl rfl
  | n :: r, m => by
    rcases maxI_mem r (if n > m then n else m) with h | h
    · show maxI (if n > m then n else m) r = m ∨ maxI (if n > m then n else m) r ∈ n :: r
      rw [h]
      split
      · exact .inr List.mem_cons_self
      · exact .inl rfl
    · exact .inr (List.mem_cons_of_mem _ h)
/-- len -/
def lenD : OC := fun S ds => match ds with
  | [.str s] => if s.length ≤ sizeLine then some (.val (.int s.length)) else none
  | [d] => match viewS S d with
    | some es => some (.val (.int es.length))
    | none => none
  | _ => none
def allD : OC := fun S ds => match ds with
  | [d] => match (view S d).bind blsD with
    | some bs => some (.val (.bl (bs.all id)))
    | none => none
  | _ => none
def anyD : OC := fun S ds => match ds with
  | [d] => match (view S d).bind blsD with
    | some bs => some (.val (.bl (bs.any id)))
    | none => none
  | _ => none
def sumD : OC := fun S ds => match ds with
  | [d] => match (view S d).bind intsD with
    | some ns => some (.val (.int ns.sum))
    | none => none
  | _ => none
def maxD : OC := fun S ds => match ds with
  | [.int i, .int j] => some (.val (.int (if j > i then j else i)))
  | [d] => match (view S d).bind intsD with
    | some (n :: ns) => some (.val (.int (maxI n ns)))
    | _ => none
  | _ => none
def minD : OC := fun _ ds => match ds with
  | [.int i, .int j] => some (.val (.int (if j < i then j else i)))
  | _ => none
def absD : OC := fun _ ds => match ds with
  | [.int i] => some (.val (.int (if i < 0 then -i else i)))
  | _ => none
def intD : OC := fun _ ds => match ds with
  | [.int i] => some (.val (.int i))
  | [.bl k] => some (.val (.int (if k then 1 else 0)))
  | [.str s] => match PySem.intText? s with
    | some n => if s.length ≤ 640 then some (.val (.int n)) else none
    | none => none
  | _ => none
def strD : OC := fun _ ds => match ds with
  | [.int i] => if i.natAbs.log2 < 1920 then some (.val (.str (toString i))) else none
  | _ => none
def listD : OC := fun S ds => match ds with
  | [d] => match viewS S d with
    | some es => some (.own (.lst es))
    | none => none
  | _ => none
def tupleD : OC := fun S ds => match ds with
  | [.tup es] => some (.val (.tup es))
  | [d] => match view S d with
    | some es => some (.val (.tup es))
    | none => none
  | _ => none
def reprD : OC := fun S ds => match ds with
  | [d] => if d.flat = false ∧ (topd S d).plain = true ∧ (topd S d).py.showable = true ∧ (topd S d).py.hasDict = false ∧ (topd S d).py.depth ≤ 60 ∧ (topd S d).py.shown.length ≤ sizeLine then some (.val (.str (topd S d).py.shown)) else
    match d with
    | .int i => if i.natAbs.log2 < 1920 then some (.val (.str (toString i))) else none
    | _ => none
  | _ => none
section
variable {X : Cx}
theorem cl_len : CallR X (.builtin "len") (rCl X.K X.mg lenD) := by
  refine CallR.imp (CallR.or call_len_seq call_len_str) fun xs H Q h => ?_
  obtain ⟨S, F, m, ds, u, ok, r, e, q⟩ := h
  unfold lenD at e
  split at e
  · split at e
    · rename_i hs
      cases e
      cases r with
      | cons r1 r2 =>
        cases r1; cases r2
        exact .inr ⟨_, rfl, hs, rof_val ok q (.int _)⟩
    · cases e
  · split at e
    · rename_i es e1
      cases e
      cases r with
      | cons r1 r2 =>
        cases r2
        obtain ⟨p, xs, rfl, h1, h2⟩ := viewS_ok ok r1 e1
        refine .inl ⟨p, xs, rfl, h1, ?_⟩
        rw [h2.length]
        exact rof_val ok q (.int _)
    · cases e
  · cases e
theorem view_bind {K : PySem.W.Frag} {mg : Str → Option Value} {H F : Hp} {m : List Addr} {S : Sto} {α : Type} {k : List D → Option α} {d : D} {a : α} (h : (view S d).bind k = some a) : ∃ es, view S d = some es ∧ k es = some a := by
  cases e : view S d with
  | none => rw [e] at h; cases h
  | some es => rw [e] at h; exact ⟨es, rfl, h⟩
theorem cl_all (hc : X.calm = true) : CallR X (.builtin "all") (rCl X.K X.mg allD) := by
  refine CallR.imp (cr_all hc) fun xs H Q h => ?_
  obtain ⟨S, F, m, ds, u, ok, r, e, q⟩ := h
  unfold allD at e
  split at e
  · split at e
    · rename_i bs e1
      cases e
      cases r with
      | cons r1 r2 =>
        cases r2
        obtain ⟨es, e2, e3⟩ := view_bind (K := X.K) (mg := X.mg) (H := H) (F := F) (m := m) e1
        obtain ⟨p, xs, rfl, h1, h2⟩ := view_ok ok r1 e2
        have := blsD_ok h2 e3
        subst this
        exact ⟨p, bs, rfl, h1, rof_val ok q (.bl _)⟩
    · cases e
  · cases e
theorem cl_any (hc : X.calm = true) : CallR X (.builtin "any") (rCl X.K X.mg anyD) := by
  refine CallR.imp (cr_any hc) fun xs H Q h => ?_
  obtain ⟨S, F, m, ds, u, ok, r, e, q⟩ := h
  unfold anyD at e
  split at e
  · split at e
    · rename_i bs e1
      cases e
      cases r with
      | cons r1 r2 =>
        cases r2
        obtain ⟨es, e2, e3⟩ := view_bind (K := X.K) (mg := X.mg) (H := H) (F := F) (m := m) e1
        obtain ⟨p, xs, rfl, h1, h2⟩ := view_ok ok r1 e2
        have := blsD_ok h2 e3
        subst this
        exact ⟨p, bs, rfl, h1, rof_val ok q (.bl _)⟩
    · cases e
  · cases e
theorem cl_sum (hc : X.calm = true) : CallR X (.builtin "sum") (rCl X.K X.mg sumD) := by
  refine CallR.imp (cr_sum hc) fun xs H Q h => ?_
  obtain ⟨S, F, m, ds, u, ok, r, e, q⟩ := h
  unfold sumD at e
  split at e
  · split at e
    · rename_i bs e1
      cases e
      cases r with
      | cons r1 r2 =>
        cases r2
        obtain ⟨es, e2, e3⟩ := view_bind (K := X.K) (mg := X.mg) (H := H) (F := F) (m := m) e1
        obtain ⟨p, xs, rfl, h1, h2⟩ := view_ok ok r1 e2
        have := intsD_ok h2 e3
        subst this
        exact ⟨p, bs, rfl, h1, rof_val ok q (.int _)⟩
    · cases e
  · cases e
theorem cl_max (hc : X.calm = true) : CallR X (.builtin "max") (rCl X.K X.mg maxD) := by
  refine CallR.imp (CallR.or (cr_max hc) (call_max2 hc)) fun xs H Q h => ?_
  obtain ⟨S, F, m, ds, u, ok, r, e, q⟩ := h
  unfold maxD at e
  split at e
  · cases e
    cases r with
    | cons r1 r2 =>
      cases r2 with
      | cons r3 r4 =>
        cases r1; cases r3; cases r4
        exact .inr ⟨_, _, rfl, rof_val ok q (.int _)⟩
  · split at e
    · rename_i n ns e1
      cases e
      cases r with
      | cons r1 r2 =>
        cases r2
        obtain ⟨es, e2, e3⟩ := view_bind (K := X.K) (mg := X.mg) (H := H) (F := F) (m := m) e1
        obtain ⟨p, xs, rfl, h1, h2⟩ := view_ok ok r1 e2
        have := intsD_ok h2 e3
        subst this
        refine .inl ⟨p, n :: ns, rfl, h1, by simp, fun k hk hle => ?_⟩
        have e4 : k = maxI n ns := by
          obtain ⟨h3, h4⟩ := maxI_le ns n
          have h5 : k ≤ maxI n ns := by
            rcases List.mem_cons.mp hk with rfl | hk
            · exact h3
            · exact h4 k hk
          have h6 : maxI n ns ≤ k := by
            rcases maxI_mem ns n with h | h
            · rw [h]; exact hle n List.mem_cons_self
            · exact hle _ (List.mem_cons_of_mem _ h)
          omega
        subst e4
        exact rof_val ok q (.int _)
    · cases e
  · cases e
theorem cl_min (hc : X.calm = true) : CallR X (.builtin "min") (rCl X.K X.mg minD) := by
  refine CallR.imp (call_min2 hc) fun xs H Q h => ?_
  obtain ⟨S, F, m, ds, u, ok, r, e, q⟩ := h
  unfold minD at e
  split at e
  · cases e
    cases r with
    | cons r1 r2 =>
      cases r2 with
      | cons r3 r4 =>
        cases r1; cases r3; cases r4
        exact ⟨_, _, rfl, rof_val ok q (.int _)⟩
  · cases e
theorem cl_abs : CallR X (.builtin "abs") (rCl X.K X.mg absD) := by
  refine CallR.imp call_abs fun xs H Q h => ?_
  obtain ⟨S, F, m, ds, u, ok, r, e, q⟩ := h
  unfold absD at e
  split at e
  · cases e
    cases r with
    | cons r1 r2 =>
      cases r1; cases r2
      exact ⟨_, rfl, rof_val ok q (.int _)⟩
  · cases e
theorem cl_int : CallR X (.type "int") (rCl X.K X.mg intD) := by
  refine CallR.imp (CallR.or call_int1 call_int_str) fun xs H Q h => ?_
  obtain ⟨S, F, m, ds, u, ok, r, e, q⟩ := h
  unfold intD at e
  split at e
  · cases e
    cases r with
    | cons r1 r2 =>
      cases r1; cases r2
      exact .inl (.inl ⟨_, rfl, rof_val ok q (.int _)⟩)
  · cases e
    cases r with
    | cons r1 r2 =>
      cases r1; cases r2
      exact .inl (.inr ⟨_, rfl, rof_val ok q (.int _)⟩)
  · split at e
    · rename_i n e1
      split at e
      · rename_i hl
        cases e
        cases r with
        | cons r1 r2 =>
          cases r1; cases r2
          exact .inr ⟨_, n, rfl, e1, hl, rof_val ok q (.int _)⟩
      · cases e
    · cases e
  · cases e
theorem cl_str : CallR X (.type "str") (rCl X.K X.mg strD) := by
  refine CallR.imp call_str_int fun xs H Q h => ?_
  obtain ⟨S, F, m, ds, u, ok, r, e, q⟩ := h
  unfold strD at e
  split at e
  · split at e
    · rename_i hl
      cases e
      cases r with
      | cons r1 r2 =>
        cases r1; cases r2
        exact ⟨_, rfl, hl, rof_val ok q (.str _)⟩
    · cases e
  · cases e
theorem cl_list : CallR X (.type "list") (rCl X.K X.mg listD) := by
  refine CallR.imp call_list_of fun xs H Q h => ?_
  obtain ⟨S, F, m, ds, u, ok, r, e, q⟩ := h
  unfold listD at e
  split at e
  · split at e
    · rename_i es e1
      cases e
      cases r with
      | cons r1 r2 =>
        cases r2
        obtain ⟨p, xs, rfl, h1, h2⟩ := viewS_ok ok r1 e1
        exact ⟨p, xs, rfl, h1, rof_lst ok q h2⟩
    · cases e
  · cases e
theorem cl_tuple : CallR X (.type "tuple") (rCl X.K X.mg tupleD) := by
  refine CallR.imp call_tuple_of fun xs H Q h => ?_
  obtain ⟨S, F, m, ds, u, ok, r, e, q⟩ := h
  unfold tupleD at e
  split at e
  · cases e
    cases r with
    | cons r1 r2 =>
      cases r2
      obtain ⟨p, xs, rfl, h1, h2⟩ := viewT_ok ok r1 rfl
      exact ⟨p, xs, rfl, .inr ⟨h1, rof_val ok q r1⟩⟩
  · split at e
    · rename_i es e1
      cases e
      cases r with
      | cons r1 r2 =>
        cases r2
        obtain ⟨p, xs, rfl, h1, h2⟩ := view_ok ok r1 e1
        exact ⟨p, xs, rfl, .inl ⟨h1, rof_tup ok q h2⟩⟩
    · cases e
  · cases e
theorem cl_repr (hg : X.A.guards = some []) (hu : X.A.units + 64 < cLine) : CallR X (.builtin "repr") (rCl X.K X.mg reprD) := by
  intro pins s σ H xs us Q I rx ⟨S, F, m, ds, u, ok, r, e, q⟩
  unfold reprD at e
  split at e
  · cases r with
    | cons r1 r2 =>
      cases r2
      obtain ⟨u1, rfl, ru⟩ := vals1 rx
      split at e
      · rename_i hc
        cases e
        obtain ⟨h0, h1, h2, h3, h4, h5⟩ := hc
        have hq := rof_val ok q (.str _)
        obtain ⟨F', s1, r3⟩ := topd_rep ok r1
        obtain ⟨as, q1⟩ := rep_reads I s1 _ _ _ r3 h1 ru
        obtain ⟨a, rfl⟩ : ∃ a, u1 = Value.ref a := by
          cases r1 <;> first | exact ⟨_, ru⟩ | cases h0
        exact PySem.repr_of_reads' q1 h2 (fun z => by rw [h3] at z; cases z) hg (by omega) (fun _ _ z => z) (fun h' t tk hk => ⟨.str _, H, I.kept hk, ⟨t, rfl⟩, hq⟩) h5
      · split at e
        · split at e
          · rename_i hl
            cases e
            cases r1
            exact SkE.call_repr_int pins s σ H _ _ Q I rx ⟨_, rfl, hl, rof_val ok q (.str _)⟩
          · cases e
        · cases e
  · cases e
end
end Sf
/-! Sf4: methods, isinstance, defs and their calls. -/
namespace Sf
open L2 PySem PySem.Spec PyProof.Rows

/-! ### isinstance -/
def kindD (S : Sto) : D → Option String
  | .non => some "NoneType"
  | .bl _ => some "bool"
  | .int _ => some "int"
  | .str _ => some "str"
  | .tup _ => some "tuple"
  | .lst _ => some "list"
  | .fls _ => none
  | .emp => some "dict"
  | .ref n => match S[n]? with
    | some (.lst _) => some "list"
    | some (.dct _) => some "dict"
    | some (.dctT _) => some "dict"
    | _ => none
theorem kind_ok {K : PySem.W.Frag} {mg : Str → Option Value} {H F : Hp} {m : List Addr} {S : Sto} (ok : SOk K mg H F m S) {v : V} {d : D} {T : String} (r : Rep K F m v d) (h : kindD S d = some T) : TyX K H v (.type T) := by
  cases r with
  | non => cases h; exact .base .non
  | bl b => cases h; exact .base (.bl b)
  | int i => cases h; exact .base (.int i)
  | str s => cases h; exact .base (.str s)
  | tup h1 h2 =>
    cases h
    rcases same_t ok.sub h1 with (h3 | ⟨o, h3⟩) | ⟨o, its, n, h3, h4, _⟩
    · exact .base (.tup h3)
    · exact .fTuple h3
    · exact .kTuple h3 h4
  | lst h1 h2 =>
    cases h
    exact .base (.lst (ok.sub _ _ h1))
  | fls h1 h2 => cases h
  | emp h1 =>
    cases h
    exact .base (.dK (ok.sub _ _ h1))
  | @ref a n h1 =>
    simp only [kindD] at h
    cases e : S[n]? with
    | none => rw [e] at h; cases h
    | some o =>
      rw [e] at h
      cases o with
      | lst es =>
        cases h
        obtain ⟨vs, h2, h3⟩ := ok.at h1 e
        exact .base (.lst h2)
      | dct es =>
        cases h
        obtain ⟨vs, h2, h3⟩ := ok.at h1 e
        exact .base (.dK h2)
      | dctT es =>
        cases h
        obtain ⟨vs, h2, h3⟩ := ok.at h1 e
        exact .base (.dT h2)
      | ins c fs => cases h
def isiB (T : String) (k : String) : Bool := k == T || (k == "bool" && T == "int")
def dIsi (T : String) (f : Dn Out) : Dn Out := fun ρ S => bnd (stl f ρ S) fun d S1 => match kindD S1 d with
  | some k => some (.ok (.val (.bl (isiB T k))) S1)
  | none => none
/-- the kinds that stand, against T -/
def isiAll (T : String) : Bool := ["NoneType", "bool", "int", "str", "tuple", "list", "dict"].all fun k => kitB k T == some (isiB T k)
theorem kind_mem {S : Sto} {d : D} {k : String} (h : kindD S d = some k) : k ∈ ["NoneType", "bool", "int", "str", "tuple", "list", "dict"] := by
  cases d <;> simp only [kindD] at h <;> first | (cases h; simp; done) | (cases h; done) | skip
  split at h <;> first | (cases h; simp; done) | cases h
theorem d_isi {X : Cx} {W : WX'} {e : Expr} {f : Dn Out} {T : String} {p p2 pos : Pos} (hT : isiAll T = true) (he : Pe X W e f) (hg : Gl X "isinstance") (hm : X.mg "isinstance" = none) (hg2 : Gl X (Str.ofString T)) (hm2 : X.mg (Str.ofString T) = none)
    (hv : bootBuiltins (Str.ofString T) = some (.type T)) (hv2 : bootBuiltins "isinstance" = some (.builtin "isinstance")) (hn : Str.ofString T ≠ "__name__" := by decide) (hd : (Str.ofString T == ("__debug__" : Str)) = false := by decide)
    (hs : starEach [e, .Name (Str.ofString T) p2] X.env = (false, eval e X.env) :: starEach [.Name (Str.ofString T) p2] X.env := by rfl)
    (hs2 : starEach [.Name (Str.ofString T) p2] X.env = (false, eval (.Name (Str.ofString T) p2) X.env) :: starEach [] X.env := by rfl)
    (hpl : (backTo pos (starEach [.Name (Str.ofString T) p2] X.env)).any (·.1) = false := by rfl) :
    Pe X W (.Call (.Name "isinstance" p) [e, .Name (Str.ofString T) p2] [] pos) (dIsi T f) := by
  refine pe_imp (pe_callB call_isi hg hm hv2 (pa_cons he.d (pa_cons (pe_bltn (v := .ty T) hg2 hm2 hv rfl hn hd) pa_nil hs2) hs) (by decide) (by decide) hs hpl) fun σ H Q q => ?_
  refine tg1 (R2 := RO X.K X.mg) (g := fun _ d S1 => match kindD S1 d with
    | some k => some (.ok (.val (.bl (isiB T k))) S1)
    | none => none) sh_O q fun x _ H1 ρ S1 F1 m1 d sl ok1 rx A => ?_
  match e : kindD S1 d, A with
  | none, A => exact A.elim
  | some k, A =>
    have hk := List.all_eq_true.mp hT k (kind_mem e)
    exact ⟨x, .ty T, .type k, .type T, isiB T k, rfl, .ty T, kind_ok ok1 rx e, kit_ty (eq_of_beq hk), A _ H1 F1 m1 (Stp.refl ..) ok1 (.bl _)⟩

/-! ### methods of built-in types -/
abbrev OM := Sto → D → List D → Option (Out × Sto)
def rMt (K : PySem.W.Frag) (mg : Str → Option Value) (o : OM) : V → List V → Hp → VK → Prop := fun x xs H Q => ∃ S F m a ds u S', SOk K mg H F m S ∧ Rep K F m x a ∧ RepL K F m xs ds ∧ o S a ds = some (u, S') ∧
  ∀ v H' F' m', Stp H F m H' F' m' → SOk K mg H' F' m' S' → OutR K mg H H' F' m' v u → Q v H'
def tyB (T : String) (S : Sto) (d : D) : Bool := match d with
  | .str _ => T == "str"
  | .lst _ => T == "list"
  | .fls _ => T == "list"
  | .emp => T == "dict"
  | .ref n => match S[n]? with
    | some (.lst _) => T == "list"
    | some (.dct _) => T == "dict"
    | some (.dctT _) => T == "dict"
    | _ => false
  | _ => false
def okm (o : Option (Out × Sto)) : Option (Rz Out) := match o with
  | some (u, S) => some (.ok u S)
  | none => none
def dMt (T : String) (o : OM) (f : Dn Out) (g : Dn (List D)) : Dn Out := fun ρ S => bnd (stl f ρ S) fun a S1 => if tyB T S1 a = true then bnd (g ρ S1) fun ds S2 => okm (o S2 a ds) else none
theorem tyB_ok {K : PySem.W.Frag} {mg : Str → Option Value} {H F : Hp} {m : List Addr} {S : Sto} (ok : SOk K mg H F m S) {T : String} {v : V} {d : D} (r : Rep K F m v d) (h : tyB T S d = true) : tyV K T v H := by
  cases r with
  | str s => exact eq_of_beq h
  | lst h1 h2 => exact .inl ⟨eq_of_beq h, _, SqL.of (ok.sub _ _ h1)⟩
  | fls h1 h2 => exact .inl ⟨eq_of_beq h, _, same_l ok.sub h1⟩
  | emp h1 => exact .inr (.inr (.inl ⟨eq_of_beq h, .inl ⟨_, ok.sub _ _ h1⟩⟩))
  | @ref a n h1 =>
    simp only [tyB] at h
    cases e : S[n]? with
    | none => rw [e] at h; cases h
    | some o =>
      rw [e] at h
      cases o with
      | lst es =>
        obtain ⟨vs, h2, h3⟩ := ok.at h1 e
        exact .inl ⟨eq_of_beq h, _, SqL.of h2⟩
      | dct es =>
        obtain ⟨vs, h2, h3⟩ := ok.at h1 e
        exact .inr (.inr (.inl ⟨eq_of_beq h, .inl ⟨_, h2⟩⟩))
      | dctT es =>
        obtain ⟨vs, h2, h3⟩ := ok.at h1 e
        exact .inr (.inr (.inl ⟨eq_of_beq h, .inr ⟨_, h2⟩⟩))
      | ins c fs => cases h
  | _ => cases h
section
variable {X : Cx} {W : WX'} {a e : Expr} {es : List Expr} {f : Dn Out} {g : Dn (List D)} {o : OM} {name : Str} {apos cpos : Pos} {T id : String}
theorem tg_mt {K : PySem.W.Frag} {mg : Str → Option Value} {σ : L2.St} {H : Hp} {Q : VK} (h : Tg K mg (RO K mg) W (dMt T o f g) σ H Q) :
    tBM K T (rMt K mg o) (Tg K mg (RD K) W (stl f)) (Tg K mg (RL K) W g) σ H Q := by
  refine tg1 (R2 := RO K mg) (g := fun ρ a S1 => if tyB T S1 a = true then bnd (g ρ S1) fun ds S2 => okm (o S2 a ds) else none) sh_O h fun x _ H1 ρ S1 F1 m1 a sl ok1 rx A => ?_
  by_cases ht : tyB T S1 a = true
  · rw [if_pos ht] at A
    refine ⟨tyB_ok ok1 rx ht, ?_⟩
    refine tgc (R2 := RO K mg) (g := fun _ ds S2 => okm (o S2 a ds)) sh_O (fun F m => Rep K F m x a) (fun F m F' m' e p r => Rep.mono e p a r) ⟨ρ, S1, F1, m1, rx, sl, ok1, A⟩ fun xs _ H2 ρ S2 F2 m2 ds rx sl ok2 rxs A => ?_
    cases e : o S2 a ds with
    | none => rw [e] at A; exact A.elim
    | some p =>
      obtain ⟨u, S'⟩ := p
      rw [e] at A
      exact ⟨S2, F2, m2, a, ds, u, S', ok2, rx, rxs, e, fun v H' F' m' st k r => A v H' F' m' st k r⟩
  · rw [if_neg ht] at A
    exact A.elim
theorem d_mt (pa : PlainAttrs T) (slot : Slot T name id) (hty : typeOf (.builtin id) = pure (.type "method_descriptor")) (hm : MtR X id (rMt X.K X.mg o)) (ho : Pe X W a f) (ha : Pa X W (e :: es) g)
    (hbase : attributeBase a name X.env (eval a X.env) = eval a X.env := by rfl)
    (hfew : ((backTo cpos (starEach (e :: es) X.env)).all (fun x => !x.1) && (backToKw cpos (keywordEach [] X.env)).all (fun x => x.1.isSome)
      && decide ((e :: es).length + ([] : List Keyword).length + (if ([] : List Keyword).isEmpty then 0 else 1) < 30)) = true := by rfl)
    (hline : (apos.endLine == cpos.line) = true := by rfl) (hs : starEach (e :: es) X.env = (false, eval e X.env) :: starEach es X.env := by rfl) (hplain : (backTo cpos (starEach es X.env)).any (·.1) = false := by rfl) :
    Pe X W (.Call (.Attribute a name apos) (e :: es) [] cpos) (dMt T o f g) :=
  pe_imp (pe_bm pa slot hty hm ho.d ha hbase hfew hline hs hplain) fun _ _ _ q => tg_mt q
theorem d_mt0 (pa : PlainAttrs T) (slot : Slot T name id) (hty : typeOf (.builtin id) = pure (.type "method_descriptor")) (hm : MtR X id (rMt X.K X.mg o)) (ho : Pe X W a f)
    (hbase : attributeBase a name X.env (eval a X.env) = eval a X.env := by rfl) (hline : (apos.endLine == cpos.line) = true := by rfl) :
    Pe X W (.Call (.Attribute a name apos) [] [] cpos) (dMt T o f aNil) := by
  refine pe_imp (pe_bm0 pa slot hty hm ho.d hbase hline) fun σ H Q q => ?_
  have h := tg_mt q
  refine tg_imp h fun x H1 ⟨h1, ρ, S, F, m, sl, ok, A⟩ => ⟨h1, ?_⟩
  exact A [] H1 F m (Stp.refl ..) ok .nil
theorem MtR.imp {X : Cx} {id : String} {r r' : V → List V → Hp → VK → Prop} (h : MtR X id r) (k : ∀ x xs H Q, r' x xs H Q → r x xs H Q) : MtR X id r' :=
  fun pins s σ H x xs v us Q I rx rs q => h pins s σ H x xs v us Q I rx rs (k x xs H Q q)

/-- the object at place n changes -/
theorem SOk.put {K : PySem.W.Frag} {mg : Str → Option Value} {H F : Hp} {m : List Addr} {S : Sto} (ok : SOk K mg H F m S) {n : Nat} {p : Addr} {u : HO} {ob : Ob} (hn : m[n]? = some p) (hob : ObR K mg (upd H p u) F m p ob) :
    SOk K mg (upd H p u) F m (S.set n ob) ∧ Stp H F m (upd H p u) F m := by
  have hp : p ∈ m := List.mem_of_getElem? hn
  have keep : ∀ a o, a ≠ p → H a = some o → upd H p u a = some o := fun a o h q => by rw [upd_ne h]; exact q
  refine ⟨⟨fun a o h => keep a o (fun z => by rw [z, ok.off p hp] at h; cases h) (ok.sub a o h), by rw [ok.len, List.length_set], ok.nd, ok.off, fun k a o h1 h2 => ?_⟩, Same.refl F, (Stp.refl H F m).pr, fun _ _ h => .inl h, fun a o h hm => keep a o (fun z => hm (z ▸ hp)) h, fun a h => ?_⟩
  · by_cases hk : n = k
    · subst hk
      rw [hn] at h1
      cases h1
      have hl : n < S.length := by
        have := (List.getElem?_eq_some_iff.mp hn).1
        rw [← ok.len]; exact this
      rw [List.getElem?_set_self hl] at h2
      cases h2
      exact hob
    · rw [List.getElem?_set_ne hk] at h2
      have hne : a ≠ p := fun z => by
        subst z
        obtain ⟨h3, h4⟩ := List.getElem?_eq_some_iff.mp hn
        obtain ⟨h5, h6⟩ := List.getElem?_eq_some_iff.mp h1
        exact hk ((List.getElem_inj (h₀ := h3) (h₁ := h5) ok.nd).mp (h4.trans h6.symm))
      exact ObR.mono (Same.refl F) (Pre.refl m) (fun o q => keep a o hne q) o (ok.obj k a o h1 h2)
  · by_cases ha : a = p
    · rw [ha, upd_same] at h
      cases h
    · rw [upd_ne ha] at h
      exact h

def appD : OM := fun S a ds => match a, ds with
  | .ref n, [d] => match S[n]? with
    | some (.lst es) => if es.length < sizeLine then some (.val .non, S.set n (.lst (es ++ [d]))) else none
    | _ => none
  | _, _ => none
theorem mt_appD : MtR X "list.append" (rMt X.K X.mg appD) := by
  refine MtR.imp mt_append fun x xs H Q h => ?_
  obtain ⟨S, F, m, a, ds, u, S', ok, ra, rds, e, q⟩ := h
  unfold appD at e
  split at e
  · rename_i n d
    split at e
    · rename_i es e1
      split at e
      · rename_i hl
        cases e
        cases ra with
        | @ref p n h1 =>
          cases rds with
          | cons r1 r2 =>
            cases r2
            obtain ⟨vs, h2, h3⟩ := ok.at h1 e1
            refine ⟨_, _, _, rfl, rfl, h2, by rw [h3.length]; exact hl, ?_⟩
            obtain ⟨k, st⟩ := ok.put (u := .lst (vs ++ [_])) (ob := .lst (es ++ [d])) h1 ⟨_, upd_same, h3.append (.cons r1 .nil)⟩
            exact q _ _ _ _ st k .non
      · cases e
    · cases e
  · cases e
def extD : OM := fun S a ds => match a, ds with
  | .ref n, [d] => match S[n]?, viewC S d with
    | some (.lst es), some fs => if es.length + fs.length ≤ sizeLine then some (.val .non, S.set n (.lst (es ++ fs))) else none
    | _, _ => none
  | _, _ => none
theorem mt_extD : MtR X "list.extend" (rMt X.K X.mg extD) := by
  refine MtR.imp mt_extend fun x xs H Q h => ?_
  obtain ⟨S, F, m, a, ds, u, S', ok, ra, rds, e, q⟩ := h
  unfold extD at e
  split at e
  · rename_i n d
    split at e
    · rename_i es fs e1 e2
      split at e
      · rename_i hl
        cases e
        cases ra with
        | @ref p n h1 =>
          cases rds with
          | cons r1 r2 =>
            cases r2
            obtain ⟨vs, h2, h3⟩ := ok.at h1 e1
            obtain ⟨p2, ws, rfl, h4, h5⟩ := viewC_ok ok r1 e2
            refine ⟨_, _, _, _, rfl, rfl, h2, h4, by rw [h3.length, h5.length]; exact hl, ?_⟩
            obtain ⟨k, st⟩ := ok.put (u := .lst (vs ++ ws)) (ob := .lst (es ++ fs)) h1 ⟨_, upd_same, h3.append h5⟩
            exact q _ _ _ _ st k .non
      · cases e
    · cases e
  · cases e
def popD : OM := fun S a ds => match a, ds with
  | .ref n, [] => match S[n]? with
    | some (.lst es) => match es[es.length - 1]? with
      | some d => some (.val d, S.set n (.lst es.dropLast))
      | none => none
    | _ => none
  | _, _ => none
theorem RepL.dropLast {K : PySem.W.Frag} {F : Hp} {m : List Addr} : ∀ {vs : List V} {ds : List D}, RepL K F m vs ds → RepL K F m vs.dropLast ds.dropLast
  | _, _, .nil => .nil
  | _, _, .cons a .nil => .nil
  | _, _, .cons a (.cons b t) => .cons a (RepL.dropLast (.cons b t))
theorem mt_popD : MtR X "list.pop" (rMt X.K X.mg popD) := by
  refine MtR.imp mt_pop fun x xs H Q h => ?_
  obtain ⟨S, F, m, a, ds, u, S', ok, ra, rds, e, q⟩ := h
  unfold popD at e
  split at e
  · rename_i n
    split at e
    · rename_i es e1
      split at e
      · rename_i d e2
        cases e
        cases ra with
        | @ref p n h1 =>
          cases rds
          obtain ⟨vs, h2, h3⟩ := ok.at h1 e1
          obtain ⟨v, h4, h5⟩ := h3.get e2
          refine ⟨_, vs, v, rfl, rfl, h2, by rw [h3.length]; exact h4, ?_⟩
          obtain ⟨k, st⟩ := ok.put (u := .lst vs.dropLast) (ob := .lst es.dropLast) h1 ⟨_, upd_same, h3.dropLast⟩
          exact q _ _ _ _ st k h5
      · cases e
    · cases e
  · cases e
/-- methods of texts -/
def splitD : OM := fun S a ds => match a, ds with
  | .str a, [.str b] => if (b.length == 0) = false ∧ a.length + 2 ≤ sizeLine then some (.own (.lst ((Txt.split a b).map .str)), S) else none
  | _, _ => none
theorem repl_strs {K : PySem.W.Frag} {F : Hp} {m : List Addr} : ∀ ss : List Str, RepL K F m (ss.map V.str) (ss.map D.str)
  | [] => .nil
  | s :: r => .cons (.str s) (repl_strs r)
theorem mt_splitD : MtR X "str.split" (rMt X.K X.mg splitD) := by
  refine MtR.imp mt_split fun x xs H Q h => ?_
  obtain ⟨S, F, m, a, ds, u, S', ok, ra, rds, e, q⟩ := h
  unfold splitD at e
  split at e
  · split at e
    · rename_i hl
      cases e
      cases ra
      cases rds with
      | cons r1 r2 =>
        cases r1; cases r2
        exact ⟨_, _, rfl, rfl, hl.1, hl.2, rof_lst ok q (repl_strs _)⟩
    · cases e
  · cases e
def joinD : OM := fun S a ds => match a, ds with
  | .str a, [d] => match (viewS S d).bind strsD with
    | some ys => if (ys.map (·.length)).sum + ys.length * a.length ≤ 16777216 then some (.val (.str (Txt.join a ys)), S) else none
    | none => none
  | _, _ => none
theorem mt_joinD : MtR X "str.join" (rMt X.K X.mg joinD) := by
  refine MtR.imp mt_join fun x xs H Q h => ?_
  obtain ⟨S, F, m, a, ds, u, S', ok, ra, rds, e, q⟩ := h
  unfold joinD at e
  split at e
  · rename_i z d
    split at e
    · rename_i ys e1
      split at e
      · rename_i hl
        cases e
        cases ra
        cases rds with
        | cons r1 r2 =>
          cases r2
          cases e2 : viewS S d with
          | none => rw [e2] at e1; cases e1
          | some es =>
            rw [e2] at e1
            obtain ⟨p, vs, rfl, h1, h2⟩ := viewS_ok ok r1 e2
            have := strsD_ok h2 e1
            subst this
            exact ⟨_, _, ys, rfl, rfl, h1, hl, rof_val ok q (.str _)⟩
      · cases e
    · cases e
  · cases e
def upperD : OM := fun S a ds => match a, ds with
  | .str a, [] => if a.length ≤ 5592405 then some (.val (.str (Txt.upper a)), S) else none
  | _, _ => none
theorem mt_upperD : MtR X "str.upper" (rMt X.K X.mg upperD) := by
  refine MtR.imp mt_upper fun x xs H Q h => ?_
  obtain ⟨S, F, m, a, ds, u, S', ok, ra, rds, e, q⟩ := h
  unfold upperD at e
  split at e
  · split at e
    · rename_i hl
      cases e
      cases ra
      cases rds
      exact ⟨_, rfl, rfl, hl, rof_val ok q (.str _)⟩
    · cases e
  · cases e
end
end Sf
/-! Sf5: defs, calls, statements. -/
namespace Sf
open L2 PySem PySem.Spec PyProof.Rows

abbrev MD := List D → Sto → Option (Rz Out)
/-- what a def promises: its denotation -/
def GSp (K : PySem.W.Frag) (mg : Str → Option Value) (n : Nat) (m : MD) : Sp := fun vs H Q E =>
  vs.length = n ∧ ∃ ds S F mm, RepL K F mm vs ds ∧ SOk K mg H F mm S ∧ Aft K mg (RO K mg) E H F mm (m ds S) Q
/-- a def that keeps its denotation, wherever no repr is under way -/
structure FnG (P : Program) (w : World) (K : PySem.W.Frag) (mg : Str → Option Value) (base : Heap) (k : Nat) (f : Addr) (fd : FuncData) (ps : List Str) (m : MD) : Prop where
  go : ∀ (A : Around) (outer : List Env) (s : Shared) (H : Hp) (args : Args) (us : List Value) (vs : List V) (Q : VK) (E : XK), Room k A → A.guards = some [] → Env0 P w K mg base A outer s H → BindsTo s fd args (ps.zip us) → Vals vs us →
    GSp K mg ps.length m vs H Q E → codeAny (model P w) A (.call (.ref f) args) (CR (L2.CX P w) outer P w H s Q E) s
theorem FnG.up {P : Program} {w : World} {K : PySem.W.Frag} {mg : Str → Option Value} {base : Heap} {k j : Nat} {f : Addr} {fd : FuncData} {ps : List Str} {m : MD} (F : FnG P w K mg base k f fd ps m) (h : k ≤ j) : FnG P w K mg base j f fd ps m :=
  ⟨fun A outer s H args us vs Q E hr => F.go A outer s H args us vs Q E (hr.mono h)⟩

/-- where a body stands -/
structure Stand (X : Cx) (W : WX') (k : Nat) : Prop where
  room : Room k X.A
  guard : X.A.guards = some []
  take : Takes X W
  calm : X.calm = true
theorem Stand.hu {X : Cx} {W : WX'} {k : Nat} (s : Stand X W k) : X.A.units + 64 < cLine := s.room.units
theorem Stand.hu1 {X : Cx} {W : WX'} {k : Nat} (s : Stand X W k) : X.A.units + 65 < cLine := by have := s.room.un; omega
theorem Stand.hus {X : Cx} {W : WX'} {k : Nat} (s : Stand X W k) : X.A.units + 1 < cLine := by have := s.room.un; omega

def dFn (n : Nat) (m : MD) (g : Dn (List D)) : Dn Out := fun ρ S => bnd (g ρ S) fun ds S1 => if ds.length = n then m ds S1 else none
section
variable {X : Cx} {W : WX'} {x : Str} {e : Expr} {es : List Expr} {g : Dn (List D)} {p pos : Pos} {k j : Nat} {f : Addr} {fd : FuncData} {ps : List Str} {m : MD}
theorem run_g {pins : List (Addr × Obj)} {σ : L2.St} {H : Hp} {s : Shared} {Q : VK} {us : List Value} {vs : List V} (G : FnG X.prog X.w X.K X.mg X.base k f fd ps m) (Z : Stand X W j) (hj : k ≤ j) (hb : Binds X.K fd ps [])
    (I : Inv X pins σ H s) (r : Vals vs us) (h : GSp X.K X.mg ps.length m vs H Q (fun c d H' => W c d σ H')) : wpAny (model X.prog X.w) X.A (call (.ref f) us) (EP X pins σ Q) X.xe s := by
  have hl : us.length = ps.length := by
    rw [← r.length]
    exact h.1
  have bt := hb s us I.kIn (by rw [List.append_nil]; exact hl)
  rw [List.append_nil] at bt
  refine wpAny_call (codeAny_mono (G.go X.A X.stack s H ⟨us, []⟩ us vs Q _ (Z.room.mono hj) Z.guard I.env0 bt r h) fun fl s' q => ?_)
  match fl, q with
  | .error ev, q => exact passAt Z.take σ pins H s ev s' I q
  | .ok (.ret u), q => exact I.after q
  | .ok .next, q => exact q.elim
  | .ok .brk, q => exact q.elim
  | .ok .cont, q => exact q.elim
theorem tg_fn {K : PySem.W.Frag} {mg : Str → Option Value} {σ : L2.St} {H : Hp} {Q : VK} {n : Nat} (h : Tg K mg (RO K mg) W (dFn n m g) σ H Q) :
    Tg K mg (RL K) W g σ H fun vs H1 => GSp K mg n m vs H1 Q (fun c d H' => W c d σ H') := by
  refine tg1 (R2 := RO K mg) (g := fun _ (ds : List D) S1 => if ds.length = n then m ds S1 else none) sh_O h fun vs _ H1 ρ S1 F1 m1 ds sl ok1 rx A => ?_
  by_cases hl : ds.length = n
  · rw [if_pos hl] at A
    exact ⟨by rw [rx.length]; exact hl, ds, S1, F1, m1, rx, ok1, A⟩
  · rw [if_neg hl] at A
    exact A.elim
theorem d_fn (G : FnG X.prog X.w X.K X.mg X.base k f fd ps m) (Z : Stand X W j) (hg : Gl X x) (hm : X.mg x = some (.ref f)) (hk : PySem.W.keepIn X.K (.ref f) = true) (hb : Binds X.K fd ps []) (ha : Pa X W (e :: es) g) (hj : k ≤ j := by decide)
    (hdb : (x == ("__debug__" : Str)) = false := by decide) (he : starEach (e :: es) X.env = (false, eval e X.env) :: starEach es X.env := by rfl) (hpl : (backTo pos (starEach es X.env)).any (·.1) = false := by rfl) :
    Pe X W (.Call (.Name x p) (e :: es) [] pos) (dFn ps.length m g) := by
  refine ⟨fun pins s σ H Q I h => ?_⟩
  refine wpAny_Call_Name_kw (ld_glob I hg hm ?_ hdb)
  exact PySem.W.callWith_K (h₀ := X.base) I.ok.mod.kin hk (thn (ha.run pos pins s σ H _ I (tg_fn h)) fun us s1 ⟨vs, H1, I1, r, q⟩ => ⟨I1.kIn, run_g G Z hj hb I1 r q⟩) he hpl
theorem d_fn0 (G : FnG X.prog X.w X.K X.mg X.base k f fd ps m) (Z : Stand X W j) (hg : Gl X x) (hm : X.mg x = some (.ref f)) (hk : PySem.W.keepIn X.K (.ref f) = true) (hb : Binds X.K fd ps []) (hj : k ≤ j := by decide)
    (hdb : (x == ("__debug__" : Str)) = false := by decide) : Pe X W (.Call (.Name x p) [] [] pos) (dFn ps.length m aNil) := by
  refine ⟨fun pins s σ H Q I h => ?_⟩
  refine wpAny_Call_Name_kw (ld_glob I hg hm ?_ hdb)
  have q : GSp X.K X.mg ps.length m [] H Q (fun c d H' => W c d σ H') := by
    obtain ⟨ρ, S, F, mm, sl, ok, A⟩ := tg_fn h
    exact A [] H F mm (Stp.refl ..) ok .nil
  exact PySem.W.callWith_K0 I.kIn hk (run_g (us := []) G Z hj hb I .nil q)
end

/-! ### statements -/
inductive Fl where
  | nx (ρ : En) (S : Sto)
  | rt (o : Out) (S : Sto)
  | bk (ρ : En) (S : Sto)
  | ct (ρ : En) (S : Sto)
  | er (x : Xn) (ρ : En) (S : Sto)
abbrev Sn := En → Sto → Option Fl
def AftS (K : PySem.W.Frag) (mg : Str → Option Value) (W : WX') (H F : Hp) (m : List Addr) (r : Option Fl) (Dd : Ends) : Prop :=
  match r with
  | none => False
  | some (.nx ρ' S') => ∀ σ' H' F' m', Stp H F m H' F' m' → SOk K mg H' F' m' S' → SlR K F' m' σ' ρ' → Dd.nx σ' H'
  | some (.rt o S') => ∀ v H' F' m', Stp H F m H' F' m' → SOk K mg H' F' m' S' → OutR K mg H H' F' m' v o → Dd.rt v H'
  | some (.bk ρ' S') => ∀ σ' H' F' m', Stp H F m H' F' m' → SOk K mg H' F' m' S' → SlR K F' m' σ' ρ' → Dd.bk σ' H'
  | some (.ct ρ' S') => ∀ σ' H' F' m', Stp H F m H' F' m' → SOk K mg H' F' m' S' → SlR K F' m' σ' ρ' → Dd.ct σ' H'
  | some (.er x ρ' S') => ∀ c d σ' H' F' m', Stp H F m H' F' m' → SOk K mg H' F' m' S' → SlR K F' m' σ' ρ' → XnR K mg H' F' m' c d x → W c d σ' H'
def Ts (K : PySem.W.Frag) (mg : Str → Option Value) (W : WX') (f : Sn) : TS := fun Dd σ H => ∃ ρ S F m, SlR K F m σ ρ ∧ SOk K mg H F m S ∧ AftS K mg W H F m (f ρ S) Dd
theorem AftS.shift {K : PySem.W.Frag} {mg : Str → Option Value} {W : WX'} {H F H1 F1 : Hp} {m m1 : List Addr} {r : Option Fl} {Dd : Ends} (st : Stp H F m H1 F1 m1) (h : AftS K mg W H F m r Dd) : AftS K mg W H1 F1 m1 r Dd := by
  match r, h with
  | none, h => exact h
  | some (.nx ρ' S'), h => exact fun σ' H' F' m' s k q => h σ' H' F' m' (st.trans s) k q
  | some (.rt o S'), h => exact fun v H' F' m' s k q => h v H' F' m' (st.trans s) k (sh_O _ _ _ _ _ _ _ st.dm q)
  | some (.bk ρ' S'), h => exact fun σ' H' F' m' s k q => h σ' H' F' m' (st.trans s) k q
  | some (.ct ρ' S'), h => exact fun σ' H' F' m' s k q => h σ' H' F' m' (st.trans s) k q
  | some (.er x ρ' S'), h => exact fun c d σ' H' F' m' s k q => h c d σ' H' F' m' (st.trans s) k q
abbrev Ps (X : Cx) (W : WX') (s : Stmt) (f : Sn) : Prop := PS X s (Ts X.K X.mg W f)
abbrev Pss (X : Cx) (W : WX') (s : List Stmt) (f : Sn) : Prop := PSs X s (Ts X.K X.mg W f)

/-- an expression's result, then a statement's flow -/
def bnS {α : Type} (r : Option (Rz α)) (ρ : En) (k : α → Sto → Option Fl) : Option Fl :=
  match r with
  | none => none
  | some (.ok a S) => k a S
  | some (.er x S) => some (.er x ρ S)
theorem ts1 {K : PySem.W.Frag} {mg : Str → Option Value} {α β : Type} {R1 : Rel α β} {W : WX'} {σ : L2.St} {H : Hp} {f : Dn α} {g : En → α → Sto → Option Fl} {Dd : Ends} {Q' : β → Hp → Prop}
    (h : Ts K mg W (fun ρ S => bnS (f ρ S) ρ (g ρ)) Dd σ H)
    (k : ∀ x H0 H1 ρ S1 F1 m1 a, SlR K F1 m1 σ ρ → SOk K mg H1 F1 m1 S1 → R1 H0 H1 F1 m1 x a → AftS K mg W H1 F1 m1 (g ρ a S1) Dd → (∀ b, H1 b = none → H0 b = none) → Stp H0 H0 [] H0 H0 [] → Q' x H1) : Tg K mg R1 W f σ H Q' := by
  obtain ⟨ρ, S, F, m, sl, ok, A⟩ := h
  refine ⟨ρ, S, F, m, sl, ok, ?_⟩
  have A : AftS K mg W H F m (bnS (f ρ S) ρ (g ρ)) Dd := A
  match f ρ S, A with
  | none, A => exact A
  | some (.ok a S'), A =>
    intro x H1 F1 m1 st ok1 r1
    exact k x H H1 ρ S' F1 m1 a (sl.mono st.fr st.pre) ok1 r1 (AftS.shift st A) st.dm (Stp.refl ..)
  | some (.er x S'), A => exact fun c d H' F' m' st k q => A c d σ H' F' m' st k (sl.mono st.fr st.pre) q

def sSeq (f g : Sn) : Sn := fun ρ S => match f ρ S with
  | some (.nx ρ' S') => g ρ' S'
  | r => r
def sNext : Sn := fun ρ S => some (.nx ρ S)
def sAsg (i : Nat) (f : Dn Out) : Sn := fun ρ S => bnS (stl f ρ S) ρ fun d S1 => some (.nx (ρ.set i (some d)) S1)
def sAsgB (i : Nat) (f : Dn Out) : Sn := fun ρ S => bnS (bxd f ρ S) ρ fun d S1 => some (.nx (ρ.set i (some d)) S1)
def sRet (f : Dn Out) : Sn := fun ρ S => bnS (f ρ S) ρ fun o S1 => some (.rt o S1)
def sRetN : Sn := fun _ S => some (.rt (.val .non) S)
def sDrop (f : Dn Out) : Sn := fun ρ S => bnS (f ρ S) ρ fun _ S1 => some (.nx ρ S1)
def sIf (c : Dn Bool) (f g : Sn) : Sn := fun ρ S => bnS (c ρ S) ρ fun b S1 => if b = true then f ρ S1 else g ρ S1
def sNever : Sn := fun _ _ => none

section
variable {X : Cx} {W : WX'} {e : Expr} {f : Dn Out} {c : Dn Bool} {p q : Sn} {st : Stmt} {body body2 : List Stmt} {pos : Pos}
theorem ss_nil : Pss X W [] sNext := by
  refine pss_imp pss_nil fun Dd σ H h => ?_
  obtain ⟨ρ, S, F, m, sl, ok, A⟩ := h
  exact A σ H F m (Stp.refl ..) ok sl
theorem ss_cons (h : Ps X W st p) (k : Pss X W body q) : Pss X W (st :: body) (sSeq p q) := by
  refine pss_imp (pss_cons h k) fun Dd σ H z => ?_
  obtain ⟨ρ, S, F, m, sl, ok, A⟩ := z
  refine ⟨ρ, S, F, m, sl, ok, ?_⟩
  unfold sSeq at A
  match p ρ S, A with
  | none, A => exact A
  | some (.nx ρ' S'), A => exact fun σ' H' F' m' s k q => ⟨ρ', S', F', m', q, k, AftS.shift s A⟩
  | some (.rt o S'), A => exact A
  | some (.bk ρ' S'), A => exact A
  | some (.ct ρ' S'), A => exact A
  | some (.er x ρ' S'), A => exact A
theorem ss_one (h : Ps X W st p) : Pss X W [st] p := by
  refine pss_imp (pss_one h) fun Dd σ H z => z
theorem s_asg {x : Str} {px : Pos} {i : Nat} (nd : X.N.Nodup) (hi : X.N[i]? = some x) (hl : Loc X.env.scope x) (he : Pe X W e f)
    (hs : swapsWith e (some (.Name x px)) pos.line X.env = pure false := by rfl) (hf : X.fn x = true ∨ X.env.scope.names.lookup x = some .local := by first | exact .inl rfl | exact .inr rfl | assumption) : Ps X W (.Assign [.Name x px] e pos) (sAsg i f) := by
  refine ps_imp (ps_set (i := i) nd hi hl he.d hs hf) fun Dd σ H z => ?_
  exact ts1 (R1 := RD X.K) (g := fun ρ (d : D) S1 => some (.nx (ρ.set i (some d)) S1)) z fun v _ H1 ρ S1 F1 m1 d sl ok r A _ _ => A _ H1 F1 m1 (Stp.refl ..) ok (sl.put i r)
theorem s_asgB {x : Str} {px : Pos} {i : Nat} (nd : X.N.Nodup) (hi : X.N[i]? = some x) (hl : Loc X.env.scope x) (he : Pe X W e f)
    (hs : swapsWith e (some (.Name x px)) pos.line X.env = pure false := by rfl) (hf : X.fn x = true ∨ X.env.scope.names.lookup x = some .local := by first | exact .inl rfl | exact .inr rfl | assumption) : Ps X W (.Assign [.Name x px] e pos) (sAsgB i f) := by
  refine ps_imp (ps_set (i := i) nd hi hl he.b hs hf) fun Dd σ H z => ?_
  exact ts1 (R1 := RD X.K) (g := fun ρ (d : D) S1 => some (.nx (ρ.set i (some d)) S1)) z fun v _ H1 ρ S1 F1 m1 d sl ok r A _ _ => A _ H1 F1 m1 (Stp.refl ..) ok (sl.put i r)
theorem s_ret (he : Pe X W e f) : Ps X W (.Return (some e) pos) (sRet f) := by
  refine ps_imp (ps_ret he) fun Dd σ H z => ?_
  obtain ⟨ρ, S, F, m, sl, ok, A⟩ := z
  refine ⟨ρ, S, F, m, sl, ok, ?_⟩
  unfold sRet at A
  match f ρ S, A with
  | none, A => exact A
  | some (.ok a S'), A => exact A
  | some (.er x S'), A => exact fun c d H' F' m' st k q => A c d σ H' F' m' st k (sl.mono st.fr st.pre) q
theorem s_retN : Ps X W (.Return none pos) sRetN := by
  refine ps_imp ps_retN fun Dd σ H z => ?_
  obtain ⟨ρ, S, F, m, sl, ok, A⟩ := z
  exact A .non H F m (Stp.refl ..) ok .non
theorem s_drop (he : Pe X W e f) (hs : swapsWith e none pos.line X.env = pure false := by rfl) : Ps X W (.Expr e pos) (sDrop f) := by
  refine ps_imp (ps_expr he hs) fun Dd σ H z => ?_
  exact ts1 (R1 := RO X.K X.mg) (g := fun ρ (_ : Out) S1 => some (.nx ρ S1)) z fun v _ H1 ρ S1 F1 m1 d sl ok r A _ _ => A _ H1 F1 m1 (Stp.refl ..) ok sl
theorem s_if {t : Expr} (hc : Pt X W t c) (h1 : Pss X W body p) (h2 : Pss X W body2 q) : Ps X W (.If t body body2 pos) (sIf c p q) := by
  refine ps_imp (ps_if hc h1 h2) fun Dd σ H z => ?_
  refine ts1 (R1 := RB) (g := fun ρ (b : Bool) S1 => if b = true then p ρ S1 else q ρ S1) z fun b _ H1 ρ S1 F1 m1 d sl ok r A _ _ => ?_
  cases r
  cases b with
  | true => exact ⟨ρ, S1, F1, m1, sl, ok, A⟩
  | false => exact ⟨ρ, S1, F1, m1, sl, ok, A⟩
theorem s_never : Ps X W st sNever := by
  refine ps_imp ps_never fun Dd σ H z => ?_
  obtain ⟨ρ, S, F, m, sl, ok, A⟩ := z
  exact A
theorem s_pass : Ps X W (.Pass pos) sNext := by
  refine ps_imp ps_pass fun Dd σ H z => ?_
  obtain ⟨ρ, S, F, m, sl, ok, A⟩ := z
  exact A σ H F m (Stp.refl ..) ok sl
theorem s_break : Ps X W (.Break pos) (fun ρ S => some (.bk ρ S)) := by
  refine ps_imp ps_break fun Dd σ H z => ?_
  obtain ⟨ρ, S, F, m, sl, ok, A⟩ := z
  exact A σ H F m (Stp.refl ..) ok sl
theorem s_cont : Ps X W (.Continue pos) (fun ρ S => some (.ct ρ S)) := by
  refine ps_imp ps_continue fun Dd σ H z => ?_
  obtain ⟨ρ, S, F, m, sl, ok, A⟩ := z
  exact A σ H F m (Stp.refl ..) ok sl
end
end Sf
/-! Sf6: what is walked, targets, for, comprehensions. -/
namespace Sf
open L2 PySem PySem.Spec PyProof.Rows

/-- an iterator whose items are the data xs, whatever else goes on -/
def Wk (K : PySem.W.Frag) (mg : Str → Option Value) (J : It) (H F : Hp) (m : List Addr) (xs : List D) : Prop :=
  ∀ (i : Nat) (H1 F1 : Hp) (m1 : List Addr) (S1 : Sto), Stp H F m H1 F1 m1 → SOk K mg H1 F1 m1 S1 →
    (i < xs.length → J.go i H1 ∧ ∀ x H2, J.yld i H1 x H2 → ∃ F2 d, xs[i]? = some d ∧ Stp H1 F1 m1 H2 F2 m1 ∧ SOk K mg H2 F2 m1 S1 ∧ Rep K F2 m1 x d) ∧ (xs.length ≤ i → J.stop i H1)
abbrev RW (K : PySem.W.Frag) (mg : Str → Option Value) : Rel (List D) It := fun _ H F m J xs => Wk K mg J H F m xs
abbrev Pi (X : Cx) (W : WX') (tg iter : Expr) (f : Dn (List D)) : Prop := PI X tg iter (Tg X.K X.mg (RW X.K X.mg) W f)
theorem pi_imp {X : Cx} {tg e : Expr} {t t' : TI} (h : PI X tg e t) (k : ∀ σ H Q, t' σ H Q → t σ H Q) : PI X tg e t' :=
  ⟨fun pins s σ H Q I q => h.run pins s σ H Q I (k σ H Q q)⟩

/-- a list or a tuple that is walked as it stands -/
def iSeq (K : PySem.W.Frag) (tl : TE) : TI := fun σ H R => tl σ H fun x H1 => ∃ a, x = .ref a ∧ ((∃ xs, SqL K H1 a xs) ∧ R (Itl K a) H1 ∨ (∃ xs, SqT K H1 a xs) ∧ R (Itt K a) H1)
theorem pi_seq {X : Cx} {tg l : Expr} {tl : TE} (hl : PE X l tl) : PI X tg l (iSeq X.K tl) := by
  constructor
  intro pins s σ H R I h
  refine thn (hl.run pins s σ H _ I h) ?_
  rintro v s1 ⟨x, H1, I1, r1, a, rfl, hc⟩
  cases r1
  have fp : ∀ b ∈ [s1.heap.objs.size], FpOk X pins H1 b := fun b hb => by
    rw [List.mem_singleton.mp hb]
    exact I1.fpOk (Nat.le_refl _) (I1.hok.fresh (Nat.le_refl _))
  rcases hc with ⟨⟨xs, hq⟩, q⟩ | ⟨⟨xs, hq⟩, q⟩
  · obtain ⟨its, rv, pl, _⟩ := I1.list hq
    exact wpAny_pyIter_list pl.isList ⟨_, [s1.heap.objs.size], _, _, H1, rfl, I1.kept (t' := s1.toks) (fun b o e => Heap.get?_push_of_some _ e), turn_list a _, ⟨_, Heap.get?_push_size _ rfl, rfl, rfl⟩, fp, q⟩
  · obtain ⟨its, rv, pl, _⟩ := I1.tuple hq
    exact wpAny_pyIter_tuple (show s1.heap.IsTuple a its.toArray from pl) ⟨_, [s1.heap.objs.size], _, _, H1, rfl, I1.kept (t' := s1.toks) (fun b o e => Heap.get?_push_of_some _ e), turn_tuple a _, ⟨_, Heap.get?_push_size _ rfl, rfl, rfl⟩, fp, q⟩

def fixed : D → Option (List D)
  | .tup ds => some ds
  | .lst ds => some ds
  | .fls ds => some ds
  | _ => none
def itSeq (f : Dn Out) : Dn (List D) := fun ρ S => bnd (stl f ρ S) fun d S1 => match fixed d with
  | some ds => some (.ok ds S1)
  | none => none
theorem sq_wkL {K : PySem.W.Frag} {mg : Str → Option Value} {H F : Hp} {m : List Addr} {a : Addr} {xs : List V} {ds : List D} (hs : SqL K F a xs) (hr : RepL K F m xs ds) : Wk K mg (Itl K a) H F m ds := by
  intro i H1 F1 m1 S1 st ok
  have h1 : SqL K H1 a xs := same_l ok.sub (same_l st.fr hs)
  have h2 := RepL.mono st.fr st.pre ds hr
  refine ⟨fun hi => ?_, fun hi => ⟨xs, h1, by rw [hr.length]; exact hi⟩⟩
  obtain ⟨v, h3, h4⟩ := h2.get (List.getElem?_eq_getElem hi)
  refine ⟨⟨xs, v, h1, h3⟩, fun x H2 y => ?_⟩
  obtain ⟨e, y⟩ := y
  subst e
  have := y xs h1
  rw [h3] at this
  cases this
  exact ⟨F1, ds[i], List.getElem?_eq_getElem hi, Stp.refl .., ok, h4⟩
theorem sq_wkT {K : PySem.W.Frag} {mg : Str → Option Value} {H F : Hp} {m : List Addr} {a : Addr} {xs : List V} {ds : List D} (hs : SqT K F a xs) (hr : RepL K F m xs ds) : Wk K mg (Itt K a) H F m ds := by
  intro i H1 F1 m1 S1 st ok
  have h1 : SqT K H1 a xs := same_t ok.sub (same_t st.fr hs)
  have h2 := RepL.mono st.fr st.pre ds hr
  refine ⟨fun hi => ?_, fun hi => ⟨xs, h1, by rw [hr.length]; exact hi⟩⟩
  obtain ⟨v, h3, h4⟩ := h2.get (List.getElem?_eq_getElem hi)
  refine ⟨⟨xs, v, h1, h3⟩, fun x H2 y => ?_⟩
  obtain ⟨e, y⟩ := y
  subst e
  have := y xs h1
  rw [h3] at this
  cases this
  exact ⟨F1, ds[i], List.getElem?_eq_getElem hi, Stp.refl .., ok, h4⟩
section
variable {X : Cx} {W : WX'} {tg e : Expr} {f : Dn Out} {g : Dn (List D)} {p pos : Pos}
theorem i_seq (he : Pe X W e f) : Pi X W tg e (itSeq f) := by
  refine pi_imp (pi_seq he.d) fun σ H Q q => ?_
  refine tg1 (R2 := RW X.K X.mg) (g := fun _ d S1 => match fixed d with
    | some ds => some (.ok ds S1)
    | none => none) (fun _ _ _ _ _ _ _ _ h => h) q fun x _ H1 ρ S1 F1 m1 d sl ok1 rx A => ?_
  match d, rx, A with
  | .tup ds, rx, A =>
    cases rx with
    | tup h1 h2 => exact ⟨_, rfl, .inr ⟨⟨_, same_t ok1.sub h1⟩, A _ H1 F1 m1 (Stp.refl ..) ok1 (sq_wkT h1 h2)⟩⟩
  | .lst ds, rx, A =>
    cases rx with
    | lst h1 h2 => exact ⟨_, rfl, .inl ⟨⟨_, SqL.of (ok1.sub _ _ h1)⟩, A _ H1 F1 m1 (Stp.refl ..) ok1 (sq_wkL (SqL.of h1) h2)⟩⟩
  | .fls ds, rx, A =>
    cases rx with
    | fls h1 h2 => exact ⟨_, rfl, .inl ⟨⟨_, same_l ok1.sub h1⟩, A _ H1 F1 m1 (Stp.refl ..) ok1 (sq_wkL h1 h2)⟩⟩
  | .non, rx, A => exact A.elim
  | .bl _, rx, A => exact A.elim
  | .int _, rx, A => exact A.elim
  | .str _, rx, A => exact A.elim
  | .emp, rx, A => exact A.elim
  | .ref _, rx, A => exact A.elim
/-- a range -/
def rangeL (lo : Int) (n : Nat) : List D := (List.range n).map fun (i : Nat) => .int (lo + (i : Int))
theorem rg_wk {K : PySem.W.Frag} {mg : Str → Option Value} {H F : Hp} {m : List Addr} (lo : Int) (n : Nat) : Wk K mg (Itr lo n) H F m (rangeL lo n) := by
  intro i H1 F1 m1 S1 st ok
  have hl : (rangeL lo n).length = n := by unfold rangeL; rw [List.length_map, List.length_range]
  rw [hl]
  refine ⟨fun hi => ⟨hi, fun x H2 y => ?_⟩, fun hi => hi⟩
  obtain ⟨e, y⟩ := y
  subst e y
  refine ⟨F1, .int (lo + i), ?_, Stp.refl .., ok, .int _⟩
  unfold rangeL
  rw [List.getElem?_map, List.getElem?_range hi]
  rfl
def range1D (ds : List D) : Option (List D) := match ds with
  | [.int j] => if -(2 ^ 62) ≤ j ∧ j < 2 ^ 62 then some (rangeL 0 j.toNat) else none
  | _ => none
def range2D (ds : List D) : Option (List D) := match ds with
  | [.int i, .int j] => if -(2 ^ 62) ≤ i ∧ i < 2 ^ 62 ∧ -(2 ^ 62) ≤ j ∧ j < 2 ^ 62 then some (rangeL i (j - i).toNat) else none
  | _ => none
def itA (r : List D → Option (List D)) (g : Dn (List D)) : Dn (List D) := fun ρ S => bnd (g ρ S) fun ds S1 => match r ds with
  | some xs => some (.ok xs S1)
  | none => none
theorem tg_itA {K : PySem.W.Frag} {mg : Str → Option Value} {σ : L2.St} {H : Hp} {Q : It → Hp → Prop} {r : List D → Option (List D)} (h : Tg K mg (RW K mg) W (itA r g) σ H Q) :
    Tg K mg (RL K) W g σ H fun vs H1 => ∃ F m ds xs S, SOk K mg H1 F m S ∧ RepL K F m vs ds ∧ r ds = some xs ∧ ∀ J H' F' m', Stp H1 F m H' F' m' → SOk K mg H' F' m' S → Wk K mg J H' F' m' xs → Q J H' := by
  refine tg1 (R2 := RW K mg) (g := fun _ (ds : List D) S1 => match r ds with
    | some xs => some (.ok xs S1)
    | none => none) (fun _ _ _ _ _ _ _ _ h => h) h fun vs _ H1 ρ S1 F1 m1 ds sl ok1 rx A => ?_
  match e : r ds, A with
  | none, A => exact A.elim
  | some xs, A => exact ⟨F1, m1, ds, xs, S1, ok1, rx, e, fun J H' F' m' st k q => A J H' F' m' st k q⟩
theorem i_range1 {a : Expr} (hg : Gl X "range") (hm : X.mg "range" = none) (ha : Pa X W [a] g) (hs : starEach [a] X.env = [(false, eval a X.env)] := by rfl) : Pi X W tg (.Call (.Name "range" p) [a] [] pos) (itA range1D g) := by
  refine pi_imp (pi_range1 hg hm ha hs) fun σ H Q q => ?_
  refine tg_imp (tg_itA q) fun vs H1 ⟨F, m, ds, xs, S, ok, rx, e, k⟩ => ?_
  unfold range1D at e
  split at e
  · split at e
    · rename_i hb
      cases e
      cases rx with
      | cons r1 r2 =>
        cases r1; cases r2
        exact ⟨_, rfl, hb.1, hb.2, k _ H1 F m (Stp.refl ..) ok (rg_wk _ _)⟩
    · cases e
  · cases e
theorem i_range2 {a b : Expr} (hg : Gl X "range") (hm : X.mg "range" = none) (ha : Pa X W [a, b] g) (hs : starEach [a, b] X.env = [(false, eval a X.env), (false, eval b X.env)] := by rfl) (hs2 : starEach [b] X.env = [(false, eval b X.env)] := by rfl) :
    Pi X W tg (.Call (.Name "range" p) [a, b] [] pos) (itA range2D g) := by
  refine pi_imp (pi_range2 hg hm ha hs hs2) fun σ H Q q => ?_
  refine tg_imp (tg_itA q) fun vs H1 ⟨F, m, ds, xs, S, ok, rx, e, k⟩ => ?_
  unfold range2D at e
  split at e
  · split at e
    · rename_i hb
      cases e
      cases rx with
      | cons r1 r2 =>
        cases r2 with
        | cons r3 r4 =>
          cases r1; cases r3; cases r4
          exact ⟨_, _, rfl, hb, k _ H1 F m (Stp.refl ..) ok (rg_wk _ _)⟩
    · cases e
  · cases e
/-- a text, sign by sign -/
def signsL (x : Str) : List D := x.cps.toList.map fun c => .str ⟨#[c]⟩
def itStr (f : Dn Out) : Dn (List D) := fun ρ S => bnd (stl f ρ S) fun d S1 => match d with
  | .str x => some (.ok (signsL x) S1)
  | _ => none
theorem i_str (he : Pe X W e f) : Pi X W tg e (itStr f) := by
  refine pi_imp (pi_str he.d) fun σ H Q q => ?_
  refine tg1 (R2 := RW X.K X.mg) (g := fun _ (d : D) S1 => match d with
    | .str x => some (.ok (signsL x) S1)
    | _ => none) (fun _ _ _ _ _ _ _ _ h => h) q fun v _ H1 ρ S1 F1 m1 d sl ok1 rx A => ?_
  split at A
  · rename_i x
    cases rx
    refine ⟨x, rfl, A _ H1 F1 m1 (Stp.refl ..) ok1 ?_⟩
    intro i H2 F2 m2 S2 st ok
    have hl : (signsL x).length = x.cps.size := by unfold signsL; rw [List.length_map, Array.length_toList]
    rw [hl]
    refine ⟨fun hi => ⟨hi, fun y H3 z => ?_⟩, fun hi => hi⟩
    obtain ⟨e, c, hc, e2⟩ := z
    subst e e2
    refine ⟨F2, .str ⟨#[c]⟩, ?_, Stp.refl .., ok, .str _⟩
    unfold signsL
    rw [List.getElem?_map, Array.getElem?_toList, hc]
    rfl
  · exact A.elim
/-- enumerate(a list) -/
def enumL (k : Nat) : List D → List D
  | [] => []
  | d :: r => .tup [.int k, d] :: enumL (k + 1) r
theorem enumL_get : ∀ (ds : List D) (k i : Nat), (enumL k ds)[i]? = ds[i]?.map fun d => .tup [.int ((k + i : Nat) : Int), d]
  | [], _, i => by simp [enumL]
  | d :: r, k, 0 => by simp [enumL]
  | d :: r, k, i + 1 => by
    show (enumL (k + 1) r)[i]? = r[i]?.map _
    rw [enumL_get r (k + 1) i]
    have : k + 1 + i = k + (i + 1) := by omega
    rw [this]
theorem enumL_length : ∀ (ds : List D) (k : Nat), (enumL k ds).length = ds.length
  | [], _ => rfl
  | d :: r, k => by rw [enumL, List.length_cons, List.length_cons, enumL_length r]
def enumD (ds : List D) : Option (List D) := match ds with
  | [.lst es] => some (enumL 0 es)
  | [.fls es] => some (enumL 0 es)
  | _ => none
theorem en_wk {K : PySem.W.Frag} {mg : Str → Option Value} {H F : Hp} {m : List Addr} {a : Addr} {xs : List V} {ds : List D} (hs : SqL K F a xs) (hr : RepL K F m xs ds) : Wk K mg (Ite K a) H F m (enumL 0 ds) := by
  intro i H1 F1 m1 S1 st ok
  have h1 : SqL K H1 a xs := same_l ok.sub (same_l st.fr hs)
  have h2 := RepL.mono st.fr st.pre ds hr
  rw [enumL_length]
  refine ⟨fun hi => ?_, fun hi => ⟨xs, h1, by rw [hr.length]; exact hi⟩⟩
  obtain ⟨v, h3, h4⟩ := h2.get (List.getElem?_eq_getElem hi)
  refine ⟨⟨xs, v, h1, h3⟩, fun x H2 y => ?_⟩
  obtain ⟨T, z, rfl, hT, rfl, y⟩ := y
  have := y xs h1
  rw [h3] at this
  cases this
  obtain ⟨k, st', e⟩ := ok.newF (o := .tup [.int (i : Nat), v]) hT
  refine ⟨_, .tup [.int ((0 + i : Nat) : Int), ds[i]], by rw [enumL_get, List.getElem?_eq_getElem hi]; rfl, st', k, .tup (.inl (.inl upd_same)) (.cons ?_ (.cons (Rep.mono e (Pre.refl _) _ h4) .nil))⟩
  rw [Nat.zero_add]
  exact .int _
theorem i_enum {elts : List Expr} {kk : Nat} {tpos : Pos} (hg : Gl X "enumerate") (hm : X.mg "enumerate" = none) (ha : Pa X W [e] g) (hs : starEach [e] X.env = [(false, eval e X.env)] := by rfl) :
    Pi X W (.Tuple elts kk tpos) (.Call (.Name "enumerate" p) [e] [] pos) (itA enumD g) := by
  refine pi_imp (pi_enum hg hm ha hs) fun σ H Q q => ?_
  refine tg_imp (tg_itA q) fun vs H1 ⟨F, m, ds, xs, S, ok, rx, e, k⟩ => ?_
  unfold enumD at e
  split at e
  · cases e
    cases rx with
    | cons r1 r2 =>
      cases r2
      cases r1 with
      | lst h1 h2 => exact ⟨_, _, rfl, SqL.of (ok.sub _ _ h1), k _ H1 F m (Stp.refl ..) ok (en_wk (SqL.of h1) h2)⟩
  · cases e
    cases rx with
    | cons r1 r2 =>
      cases r2
      cases r1 with
      | fls h1 h2 => exact ⟨_, _, rfl, same_l ok.sub h1, k _ H1 F m (Stp.refl ..) ok (en_wk h1 h2)⟩
  · cases e
/-- zip of two lists, of two tuples -/
def zipL : List D → List D → List D
  | a :: r, b :: s => .tup [a, b] :: zipL r s
  | _, _ => []
theorem zipL_get : ∀ (xs ys : List D) (i : Nat) (a b : D), xs[i]? = some a → ys[i]? = some b → (zipL xs ys)[i]? = some (.tup [a, b])
  | [], _, _, _, _, h, _ => by simp at h
  | _ :: _, [], _, _, _, _, h => by simp at h
  | x :: xs, y :: ys, 0, a, b, h, k => by
    simp at h k
    subst h k
    rfl
  | x :: xs, y :: ys, i + 1, a, b, h, k => by
    show (zipL xs ys)[i]? = _
    exact zipL_get xs ys i a b (by simpa using h) (by simpa using k)
theorem zipL_length : ∀ (xs ys : List D), (zipL xs ys).length = min xs.length ys.length
  | [], ys => by simp [zipL]
  | _ :: _, [] => by simp [zipL]
  | x :: xs, y :: ys => by
    rw [zipL, List.length_cons, List.length_cons, List.length_cons, zipL_length xs ys]
    omega
def zipD (ds : List D) : Option (List D) := match ds with
  | [.tup as, .tup bs] => some (zipL as bs)
  | [a, b] => match fixed a, fixed b with
    | some as, some bs => match a, b with
      | .tup _, _ => none
      | _, .tup _ => none
      | _, _ => some (zipL as bs)
    | _, _ => none
  | _ => none
theorem zp_wkT {K : PySem.W.Frag} {mg : Str → Option Value} {H F : Hp} {m : List Addr} {a b : Addr} {xs ys : List V} {ds es : List D} (hs : SqT K F a xs) (hr : RepL K F m xs ds) (hs' : SqT K F b ys) (hr' : RepL K F m ys es) :
    Wk K mg (RZ.ItzT K a b) H F m (zipL ds es) := by
  intro i H1 F1 m1 S1 st ok
  have h1 : SqT K H1 a xs := same_t ok.sub (same_t st.fr hs)
  have h1' : SqT K H1 b ys := same_t ok.sub (same_t st.fr hs')
  have h2 := RepL.mono st.fr st.pre ds hr
  have h2' := RepL.mono st.fr st.pre es hr'
  rw [zipL_length]
  refine ⟨fun hi => ?_, fun hi => ⟨xs, ys, h1, h1', by rw [hr.length, hr'.length]; omega⟩⟩
  have ha : i < ds.length := by omega
  have hb : i < es.length := by omega
  obtain ⟨v, h3, h4⟩ := h2.get (List.getElem?_eq_getElem ha)
  obtain ⟨v', h3', h4'⟩ := h2'.get (List.getElem?_eq_getElem hb)
  refine ⟨⟨xs, ys, v, v', h1, h1', h3, h3'⟩, fun x H2 y => ?_⟩
  obtain ⟨T, z, z', rfl, hT, rfl, y, y'⟩ := y
  have := y xs h1
  rw [h3] at this
  cases this
  have := y' ys h1'
  rw [h3'] at this
  cases this
  obtain ⟨k, st', e⟩ := ok.newF (o := .tup [v, v']) hT
  exact ⟨_, _, zipL_get ds es i _ _ (List.getElem?_eq_getElem ha) (List.getElem?_eq_getElem hb), st', k, .tup (.inl (.inl upd_same)) (.cons (Rep.mono e (Pre.refl _) _ h4) (.cons (Rep.mono e (Pre.refl _) _ h4') .nil))⟩
theorem zp_wkL {K : PySem.W.Frag} {mg : Str → Option Value} {H F : Hp} {m : List Addr} {a b : Addr} {xs ys : List V} {ds es : List D} (hs : SqL K F a xs) (hr : RepL K F m xs ds) (hs' : SqL K F b ys) (hr' : RepL K F m ys es) :
    Wk K mg (Itz K a b) H F m (zipL ds es) := by
  intro i H1 F1 m1 S1 st ok
  have h1 : SqL K H1 a xs := same_l ok.sub (same_l st.fr hs)
  have h1' : SqL K H1 b ys := same_l ok.sub (same_l st.fr hs')
  have h2 := RepL.mono st.fr st.pre ds hr
  have h2' := RepL.mono st.fr st.pre es hr'
  rw [zipL_length]
  refine ⟨fun hi => ?_, fun hi => ⟨xs, ys, h1, h1', by rw [hr.length, hr'.length]; omega⟩⟩
  have ha : i < ds.length := by omega
  have hb : i < es.length := by omega
  obtain ⟨v, h3, h4⟩ := h2.get (List.getElem?_eq_getElem ha)
  obtain ⟨v', h3', h4'⟩ := h2'.get (List.getElem?_eq_getElem hb)
  refine ⟨⟨xs, ys, v, v', h1, h1', h3, h3'⟩, fun x H2 y => ?_⟩
  obtain ⟨T, z, z', rfl, hT, rfl, y, y'⟩ := y
  have := y xs h1
  rw [h3] at this
  cases this
  have := y' ys h1'
  rw [h3'] at this
  cases this
  obtain ⟨k, st', e⟩ := ok.newF (o := .tup [v, v']) hT
  exact ⟨_, _, zipL_get ds es i _ _ (List.getElem?_eq_getElem ha) (List.getElem?_eq_getElem hb), st', k, .tup (.inl (.inl upd_same)) (.cons (Rep.mono e (Pre.refl _) _ h4) (.cons (Rep.mono e (Pre.refl _) _ h4') .nil))⟩
theorem fixed_l {K : PySem.W.Frag} {F : Hp} {m : List Addr} {v : V} {d : D} {ds : List D} (r : Rep K F m v d) (h : fixed d = some ds) (hn : ∀ es, d ≠ .tup es) : ∃ a xs, v = .ref a ∧ SqL K F a xs ∧ RepL K F m xs ds := by
  cases r with
  | tup h1 h2 => exact absurd rfl (hn _)
  | lst h1 h2 =>
    cases h
    exact ⟨_, _, rfl, SqL.of h1, h2⟩
  | fls h1 h2 =>
    cases h
    exact ⟨_, _, rfl, h1, h2⟩
  | _ => cases h
theorem i_zip {e2 : Expr} {elts : List Expr} {kk : Nat} {tpos : Pos} (hg : Gl X "zip") (hm : X.mg "zip" = none) (ha : Pa X W [e, e2] g) (hs : starEach [e, e2] X.env = (false, eval e X.env) :: starEach [e2] X.env := by rfl)
    (hpl : (backTo pos (starEach [e2] X.env)).any (·.1) = false := by rfl) : Pi X W (.Tuple elts kk tpos) (.Call (.Name "zip" p) [e, e2] [] pos) (itA zipD g) := by
  refine pi_imp (RZ.pi_zipA hg hm ha hs hpl) fun σ H Q q => ?_
  refine tg_imp (tg_itA q) fun vs H1 ⟨F, m, ds, xs, S, ok, rx, e, k⟩ => ?_
  unfold zipD at e
  split at e
  · cases e
    cases rx with
    | cons r1 r2 =>
      cases r2 with
      | cons r3 r4 =>
        cases r4
        cases r1 with
        | tup h1 h2 =>
          cases r3 with
          | tup h3 h4 => exact ⟨_, _, _, _, rfl, .inr ⟨same_t ok.sub h1, same_t ok.sub h3, k _ H1 F m (Stp.refl ..) ok (zp_wkT h1 h2 h3 h4)⟩⟩
  · split at e
    · rename_i as bs e1 e2
      split at e
      · cases e
      · cases e
      · rename_i hn1 hn2
        cases e
        cases rx with
        | cons r1 r2 =>
          cases r2 with
          | cons r3 r4 =>
            cases r4
            obtain ⟨a, us, rfl, h1, h2⟩ := fixed_l r1 e1 (fun es z => hn1 es z)
            obtain ⟨b, ws, rfl, h3, h4⟩ := fixed_l r3 e2 (fun es z => hn2 es z)
            exact ⟨_, _, _, _, rfl, .inl ⟨same_l ok.sub h1, same_l ok.sub h3, k _ H1 F m (Stp.refl ..) ok (zp_wkL h1 h2 h3 h4)⟩⟩
    · cases e
  · cases e
end
end Sf
/-! Sf7: targets, for, comprehensions, the body of a def. -/
namespace Sf
open L2 PySem PySem.Spec PyProof.Rows

/-! ### targets -/
abbrev Tn := En → D → Option En
def Tt (K : PySem.W.Frag) (js : List Nat) (t : Tn) : TG := fun v σ H Q => ∃ ρ F m d ρ', SlR K F m σ ρ ∧ Same F H ∧ Rep K F m v d ∧ t ρ d = some ρ' ∧
  ∀ σ', SlR K F m σ' ρ' → (∀ vs, (∀ j ∈ js, j ∈ vs) → wipe σ' vs = wipe σ vs) → Q σ' H
theorem wipe_set : ∀ (vs : List Nat) (σ : L2.St) (j : Nat) (x : Option V), j ∈ vs → wipe (σ.set j x) vs = wipe σ vs
  | [], _, _, _, h => absurd h (by simp)
  | v :: vs, σ, j, x, h => by
    show (wipe (σ.set j x) vs).set v none = (wipe σ vs).set v none
    by_cases hj : j ∈ vs
    · rw [wipe_set vs σ j x hj]
    · have hv : j = v := by
        rcases List.mem_cons.mp h with h | h
        · exact h
        · exact absurd h hj
      subst hv
      have : ∀ (ws : List Nat), j ∉ ws → wipe (σ.set j x) ws = (wipe σ ws).set j x := fun ws => by
        induction ws with
        | nil => intro _; rfl
        | cons w ws ih =>
          intro hw
          have h1 : j ≠ w := fun z => hw (z ▸ List.mem_cons_self)
          have h2 : j ∉ ws := fun z => hw (List.mem_cons_of_mem _ z)
          show (wipe (σ.set j x) ws).set w none = ((wipe σ ws).set w none).set j x
          rw [ih h2, List.set_comm _ _ h1]
      rw [this vs hj, List.set_set]
def tName (i : Nat) : Tn := fun ρ d => some (ρ.set i (some d))
abbrev Tns := En → List D → Option En
def tsNil : Tns := fun ρ ds => match ds with
  | [] => some ρ
  | _ => none
def tsCons (t : Tn) (u : Tns) : Tns := fun ρ ds => match ds with
  | d :: r => match t ρ d with
    | some ρ1 => u ρ1 r
    | none => none
  | _ => none
def tTup (u : Tns) : Tn := fun ρ d => match d with
  | .tup ds => u ρ ds
  | _ => none
def Tts (K : PySem.W.Frag) (js : List Nat) (t : Tns) : TGs := fun vs σ H Q => ∃ ρ F m ds ρ', SlR K F m σ ρ ∧ Same F H ∧ RepL K F m vs ds ∧ t ρ ds = some ρ' ∧
  ∀ σ', SlR K F m σ' ρ' → (∀ vs, (∀ j ∈ js, j ∈ vs) → wipe σ' vs = wipe σ vs) → Q σ' H
theorem pg_imp {X : Cx} {e : Expr} {t t' : TG} (h : PG X e t) (k : ∀ v σ H Q, t' v σ H Q → t v σ H Q) : PG X e t' :=
  ⟨fun pins s σ H v u Q I r q => h.run pins s σ H v u Q I r (k v σ H Q q)⟩
theorem pgs_imp {X : Cx} {e : List Expr} {t t' : TGs} (h : PGs X e t) (k : ∀ v σ H Q, t' v σ H Q → t v σ H Q) : PGs X e t' :=
  ⟨fun pins s σ H v u Q I r q => h.run pins s σ H v u Q I r (k v σ H Q q)⟩
section
variable {X : Cx} {W : WX'} {x : Str} {px pos : Pos} {i n : Nat} {js ks : List Nat} {e : Expr} {es : List Expr} {t : Tn} {u : Tns}
theorem g_name (nd : X.N.Nodup) (hi : X.N[i]? = some x) (hl : Loc X.env.scope x) (hf : X.fn x = true ∨ X.env.scope.names.lookup x = some .local := by first | exact .inl rfl | exact .inr rfl | assumption) : PG X (.Name x px) (Tt X.K [i] (tName i)) := by
  refine pg_imp (pg_name nd hi hl hf) fun v σ H Q ⟨ρ, F, m, d, ρ', sl, sub, r, e, k⟩ => ?_
  cases e
  exact k _ (sl.put i r) fun vs hv => wipe_set vs σ i _ (hv i List.mem_cons_self)
theorem gs_nil : PGs X [] (Tts X.K [] tsNil) := by
  refine pgs_imp pgs_nil fun vs σ H Q ⟨ρ, F, m, ds, ρ', sl, sub, r, e, k⟩ => ?_
  unfold tsNil at e
  split at e
  · cases e
    cases r
    exact ⟨rfl, k σ sl fun _ _ => rfl⟩
  · cases e
theorem gs_cons (h1 : PG X e (Tt X.K js t)) (h2 : PGs X es (Tts X.K ks u)) (hs : (assignEach (e :: es) X.env).map (·.2) = assign e X.env :: (assignEach es X.env).map (·.2) := by rfl) : PGs X (e :: es) (Tts X.K (js ++ ks) (tsCons t u)) := by
  refine pgs_imp (pgs_cons h1 h2 hs) fun vs σ H Q ⟨ρ, F, m, ds, ρ', sl, sub, r, e, k⟩ => ?_
  unfold tsCons at e
  split at e
  · split at e
    · rename_i d r' _ ρ1 e1
      cases r with
      | cons r1 r2 =>
        refine ⟨_, _, rfl, ρ, F, m, d, ρ1, sl, sub, r1, e1, fun σ1 sl1 w1 => ⟨ρ1, F, m, r', ρ', sl1, sub, r2, e, fun σ2 sl2 w2 => k σ2 sl2 fun vs hv => ?_⟩⟩
        rw [w2 vs fun j hj => hv j (List.mem_append_right _ hj), w1 vs fun j hj => hv j (List.mem_append_left _ hj)]
    · cases e
  · cases e
theorem g_tup {kk : Nat} (hc : X.calm = true) (h : PGs X es (Tts X.K js u)) (hlen : ∀ ρ ds ρ', u ρ ds = some ρ' → ds.length = n) (hn : (assignEach es X.env).length = n := by rfl) (hst : (assignEach es X.env).findIdx? (·.1) = none := by rfl) :
    PG X (.Tuple es kk pos) (Tt X.K js (tTup u)) := by
  refine pg_imp (pg_tup hc h hn hst) fun v σ H Q ⟨ρ, F, m, d, ρ', sl, sub, r, e, k⟩ => ?_
  unfold tTup at e
  split at e
  · cases r with
    | tup h1 h2 => exact ⟨_, _, rfl, same_t sub h1, by rw [h2.length]; exact hlen _ _ _ e, ρ, F, m, _, ρ', sl, sub, h2, e, k⟩
  · cases e
end
theorem len_nil {ρ : En} {ds : List D} {ρ' : En} (h : tsNil ρ ds = some ρ') : ds.length = 0 := by
  unfold tsNil at h
  split at h
  · rfl
  · cases h
theorem len_cons {t : Tn} {u : Tns} {n : Nat} (hu : ∀ ρ ds ρ', u ρ ds = some ρ' → ds.length = n) : ∀ ρ ds ρ', tsCons t u ρ ds = some ρ' → ds.length = n + 1 := fun ρ ds ρ' h => by
  unfold tsCons at h
  split at h
  · split at h
    · rw [List.length_cons, hu _ _ _ h]
    · cases h
  · cases h

/-- target = e, any target -/
def sTgt (t : Tn) (f : Dn Out) : Sn := fun ρ S => bnS (stl f ρ S) ρ fun d S1 => match t ρ d with
  | some ρ' => some (.nx ρ' S1)
  | none => none
theorem s_tgt {X : Cx} {W : WX'} {tg e : Expr} {js : List Nat} {t : Tn} {f : Dn Out} {pos : Pos} (he : Pe X W e f) (hg : PG X tg (Tt X.K js t)) (hs : swappedStores [tg] e X.env = pure none := by rfl) (hw : swapsWithSole [tg] e pos.line X.env = pure false := by rfl)
    (ha : (assignEach [tg] X.env).map (·.2) = [assign tg X.env] := by rfl) : Ps X W (.Assign [tg] e pos) (sTgt t f) := by
  refine ps_imp (ps_asg he.d hg hw hs ha) fun Dd σ H z => ?_
  refine ts1 (R1 := RD X.K) (g := fun ρ (d : D) S1 => match t ρ d with
    | some ρ' => some (.nx ρ' S1)
    | none => none) z fun v _ H1 ρ S1 F1 m1 d sl ok r A _ _ => ?_
  match e : t ρ d, A with
  | none, A => exact A.elim
  | some ρ', A => exact ⟨ρ, F1, m1, d, ρ', sl, ok.sub, r, e, fun σ' sl' _ => A σ' H1 F1 m1 (Stp.refl ..) ok sl'⟩

/-! ### for -/
def loopS (t : Tn) (body : Sn) : List D → En → Sto → Option Fl
  | [], ρ, S => some (.nx ρ S)
  | d :: r, ρ, S => match t ρ d with
    | none => none
    | some ρ1 => match body ρ1 S with
      | some (.nx ρ' S') => loopS t body r ρ' S'
      | some (.ct ρ' S') => loopS t body r ρ' S'
      | some (.bk ρ' S') => some (.nx ρ' S')
      | o => o
def sFor (f : Dn (List D)) (t : Tn) (body : Sn) : Sn := fun ρ S => bnS (f ρ S) ρ fun xs S1 => loopS t body xs ρ S1
theorem s_for {X : Cx} {W : WX'} {tg iter : Expr} {js : List Nat} {t : Tn} {f : Dn (List D)} {body : List Stmt} {p : Sn} {pos : Pos} (hp : PassesOwn (model X.prog X.w) X.A X.env X.xe) (hc : X.calm = true) (hi : Pi X W tg iter f)
    (hg : PG X tg (Tt X.K js t)) (hb : Pss X W body p) (hs : ∀ x, foldedSetIterable iter X.env x = pure x := by intro _; rfl) : Ps X W (.For tg iter body [] pos) (sFor f t p) := by
  refine ps_imp (ps_for hp hc hi hg hb hs) fun Dd σ H z => ?_
  refine ts1 (R1 := RW X.K X.mg) (g := fun ρ xs S1 => loopS t p xs ρ S1) z fun J _ H1 ρ S1 F1 m1 xs sl ok wk A _ _ => ?_
  refine ⟨fun i m σ H => ∃ ρ S F mm, SlR X.K F mm σ ρ ∧ SOk X.K X.mg H F mm S ∧ Stp H1 F1 m1 H F mm ∧ m = xs.length - i ∧ i ≤ xs.length ∧ AftS X.K X.mg W H F mm (loopS t p (xs.drop i) ρ S) Dd, ⟨_, ρ, S1, F1, m1, sl, ok, Stp.refl .., rfl, Nat.zero_le _, A⟩, ?_⟩
  rintro i m σ2 H2 ⟨ρ2, S2, F2, m2, sl2, ok2, st2, rfl, hi, A2⟩
  obtain ⟨go, stop⟩ := wk i H2 F2 m2 S2 st2 ok2
  by_cases hlt : i < xs.length
  · obtain ⟨g1, g2⟩ := go hlt
    refine .inr ⟨g1, fun σ' H' => ∃ ρ S F mm, SlR X.K F mm σ' ρ ∧ SOk X.K X.mg H' F mm S ∧ Stp H1 F1 m1 H' F mm ∧ AftS X.K X.mg W H' F mm (loopS t p (xs.drop (i + 1)) ρ S) Dd, fun σ' H' ⟨ρ, S, F, mm, a, b, c, d⟩ => ⟨xs.length - (i + 1), by omega, ρ, S, F, mm, a, b, c, rfl, hlt, d⟩, fun x H3 y => ?_⟩
    obtain ⟨F3, d, hd, st3, ok3, r3⟩ := g2 x H3 y
    rw [List.drop_eq_getElem_cons hlt] at A2
    have hd' : xs[i] = d := by
      rw [List.getElem?_eq_getElem hlt] at hd
      exact Option.some.inj hd
    rw [hd'] at A2
    unfold loopS at A2
    split at A2
    · exact A2.elim
    · rename_i ρ3 e3
      refine ⟨ρ2, F3, m2, d, ρ3, sl2.mono st3.fr (Pre.refl _), ok3.sub, r3, e3, fun σ4 sl4 _ => ⟨ρ3, S2, F3, m2, sl4, ok3, ?_⟩⟩
      match p ρ3 S2, A2 with
      | none, A2 => exact A2
      | some (.nx ρ' S'), A2 => exact fun σ' H' F' m' st k q => ⟨ρ', S', F', m', q, k, (st2.trans st3).trans st, AftS.shift (st3.trans st) A2⟩
      | some (.ct ρ' S'), A2 => exact fun σ' H' F' m' st k q => ⟨ρ', S', F', m', q, k, (st2.trans st3).trans st, AftS.shift (st3.trans st) A2⟩
      | some (.bk ρ' S'), A2 => exact fun σ' H' F' m' st k q => A2 σ' H' F' m' (st3.trans st) k q
      | some (.rt o S'), A2 => exact AftS.shift st3 (r := some (.rt o S')) A2
      | some (.er x ρ' S'), A2 => exact AftS.shift st3 (r := some (.er x ρ' S')) A2
  · have e : i = xs.length := by omega
    subst e
    rw [List.drop_length] at A2
    exact .inl ⟨stop (Nat.le_refl _), A2 σ2 H2 F2 m2 (Stp.refl ..) ok2 sl2⟩

/-! ### comprehensions -/
abbrev W0 : WX' := fun _ _ _ _ => False
def wipeE (ρ : En) : List Nat → En
  | [] => ρ
  | v :: vs => (wipeE ρ vs).set v none
theorem SlR.wipe {K : PySem.W.Frag} {F : Hp} {m : List Addr} {σ : L2.St} {ρ : En} (h : SlR K F m σ ρ) : ∀ vs, SlR K F m (L2.wipe σ vs) (wipeE ρ vs)
  | [] => h
  | v :: vs => by
    have ih := h.wipe vs
    refine ⟨by show ((L2.wipe σ vs).set v none).length = ((wipeE ρ vs).set v none).length; rw [List.length_set, List.length_set, ih.len], fun i d q => ?_⟩
    have q : ((wipeE ρ vs).set v none)[i]? = some (some d) := q
    by_cases hv : v = i
    · subst hv
      rw [List.getElem?_set] at q
      split at q
      · split at q
        · cases q
        · cases q
      · rename_i hn
        exact absurd rfl hn
    · rw [List.getElem?_set_ne hv] at q
      obtain ⟨w, h1, h2⟩ := ih.get i d q
      exact ⟨w, by show ((L2.wipe σ vs).set v none)[i]? = _; rw [List.getElem?_set_ne hv]; exact h1, h2⟩
/-- the elements of a comprehension; k were made before -/
def loopC (t : Tn) (c : Dn Bool) (f : Dn Out) (ρ : En) : List D → Nat → Sto → Option (List D × Sto)
  | [], _, S => some ([], S)
  | d :: r, k, S => match t ρ d with
    | none => none
    | some ρ1 => match c ρ1 S with
      | some (.ok true S1) => match stl f ρ1 S1 with
        | some (.ok y S2) => if k < sizeLine then (loopC t c f ρ r (k + 1) S2).map fun p => (y :: p.1, p.2) else none
        | _ => none
      | some (.ok false S1) => loopC t c f ρ r k S1
      | _ => none
def dComp (g : Dn (List D)) (t : Tn) (c : Dn Bool) (f : Dn Out) (vs : List Nat) : Dn Out := fun ρ S => bnd (g ρ S) fun xs S1 => match loopC t c f (wipeE ρ vs) xs 0 S1 with
  | some (ys, S2) => some (.ok (.own (.lst ys)) S2)
  | none => none
abbrev bYes : Dn Bool := fun _ S => some (.ok true S)
abbrev Pts (X : Cx) (W : WX') (ifs : List Expr) (c : Dn Bool) : Prop := PTs X ifs (Tg X.K X.mg RB W c)
theorem ts_nil {X : Cx} {W : WX'} : Pts X W [] bYes := ⟨fun pins s σ H Q I h => pts_nil.run pins s σ H Q I (by
  obtain ⟨ρ, S, F, m, sl, ok, A⟩ := h
  exact A true H F m (Stp.refl ..) ok rfl)⟩
theorem ts_one {X : Cx} {W : WX'} {e : Expr} {c : Dn Bool} (h : Pt X W e c) : Pts X W [e] c := pts_one h
theorem own_keep {H F H' F' : Hp} {m m' : List Addr} {a : Addr} {o : HO} (st : Stp H F m H' F' m') (h1 : H a = some o) (h2 : F a = none) (h3 : a ∉ m) : H' a = some o ∧ F' a = none ∧ a ∉ m' := by
  refine ⟨st.kp a o h1 h3, ?_, fun z => ?_⟩
  · cases q : F' a with
    | none => rfl
    | some u =>
      rcases st.nw a u q with z | z
      · rw [h2] at z; cases z
      · rw [h1] at z; cases z
  · obtain ⟨l, e, hl⟩ := st.pr
    rw [e] at z
    rcases List.mem_append.mp z with z | z
    · exact h3 z
    · have := hl a z
      rw [h1] at this
      cases this
theorem tg_comp {K : PySem.W.Frag} {mg : Str → Option Value} {W : WX'} {g : Dn (List D)} {t : Tn} {c : Dn Bool} {f : Dn Out} {js vs : List Nat} (hv : ∀ j ∈ js, j ∈ vs) {σ : L2.St} {H : Hp} {Q : VK} (h : Tg K mg (RO K mg) W (dComp g t c f vs) σ H Q) :
    tLc (Tg K mg (RW K mg) W g) (Tt K js t) (Tg K mg RB W0 c) (Tg K mg (RO K mg) W0 f) vs σ H Q := by
  refine tg1 (R2 := RO K mg) (g := fun ρ (xs : List D) S1 => match loopC t c f (wipeE ρ vs) xs 0 S1 with
    | some (ys, S2) => some (.ok (.own (.lst ys)) S2)
    | none => none) sh_O h fun J _ H1 ρ S1 F1 m1 xs sl ok1 wk A => ?_
  intro Da hDa
  obtain ⟨okD, stD⟩ := ok1.new (o := .lst []) hDa
  have fD := ok1.fnone hDa
  have mD := ok1.notin hDa
  -- behind i items: the list holds acc, of ys; what is left gives the rest
  refine ⟨fun i n H => ∃ S F m acc ys r, SOk K mg H F m S ∧ Stp H1 F1 m1 H F m ∧ (H Da = some (.lst acc) ∧ F Da = none ∧ Da ∉ m) ∧ RepL K F m acc ys ∧ n = xs.length - i ∧ i ≤ xs.length ∧
    loopC t c f (wipeE ρ vs) (xs.drop i) ys.length S = some r ∧
    Aft K mg (RO K mg) (fun c d H' => W c d σ H') H1 F1 m1 (some (.ok (.own (.lst (ys ++ r.1))) r.2)) Q, ?_, ?_⟩
  · match e : loopC t c f (wipeE ρ vs) xs 0 S1, A with
    | none, A => exact A.elim
    | some (ys, S2), A => exact ⟨_, S1, F1, m1, [], [], (ys, S2), okD, stD, ⟨upd_same, fD, mD⟩, .nil, rfl, Nat.zero_le _, e, A⟩
  · rintro i n H2 ⟨S2, F2, m2, acc, ys, r, ok2, st2, hacc, racc, rfl, hi, e2, A2⟩
    obtain ⟨go, stop⟩ := wk i H2 F2 m2 S2 st2 ok2
    by_cases hlt : i < xs.length
    · obtain ⟨g1, g2⟩ := go hlt
      refine .inr ⟨g1, fun H => ∃ S F m acc ys r, SOk K mg H F m S ∧ Stp H1 F1 m1 H F m ∧ (H Da = some (.lst acc) ∧ F Da = none ∧ Da ∉ m) ∧ RepL K F m acc ys ∧
        loopC t c f (wipeE ρ vs) (xs.drop (i + 1)) ys.length S = some r ∧ Aft K mg (RO K mg) (fun c d H' => W c d σ H') H1 F1 m1 (some (.ok (.own (.lst (ys ++ r.1))) r.2)) Q,
        fun H' ⟨S, F, m, acc, ys, r, a1, a2, a3, a4, a5, a6⟩ => ⟨xs.length - (i + 1), by omega, S, F, m, acc, ys, r, a1, a2, a3, a4, rfl, hlt, a5, a6⟩, fun x H3 y => ?_⟩
      obtain ⟨F3, d, hd, st3, ok3, r3⟩ := g2 x H3 y
      rw [List.drop_eq_getElem_cons hlt] at e2
      have hd' : xs[i] = d := by
        rw [List.getElem?_eq_getElem hlt] at hd
        exact Option.some.inj hd
      rw [hd'] at e2
      unfold loopC at e2
      split at e2
      · cases e2
      · rename_i ρ4 e4
        have slw := (sl.mono st2.fr st2.pre).wipe vs
        refine ⟨wipeE ρ vs, F3, m2, d, ρ4, slw.mono st3.fr (Pre.refl _), ok3.sub, r3, e4, fun σ4 sl4 w4 => ⟨?_, ?_⟩⟩
        · rw [w4 vs hv]
          have : ∀ (ws us : List Nat) (σ : L2.St), (∀ j ∈ ws, j ∈ us) → L2.wipe (L2.wipe σ ws) us = L2.wipe σ us := fun ws us σ hw => by
            induction ws with
            | nil => rfl
            | cons w ws ih =>
              show L2.wipe ((L2.wipe σ ws).set w none) us = _
              rw [wipe_set us _ w none (hw w List.mem_cons_self)]
              exact ih fun j hj => hw j (List.mem_cons_of_mem _ hj)
          exact this vs vs σ fun _ hj => hj
        · have acc3 := own_keep st3 hacc.1 hacc.2.1 hacc.2.2
          refine ⟨ρ4, S2, F3, m2, sl4, ok3, ?_⟩
          split at e2
          · rename_i S5 e5
            rw [e5]
            intro b H5 F5 m5 st5 ok5 hb
            have hb' : b = true := hb
            subst hb'
            rw [if_pos rfl]
            have acc5 := own_keep st5 acc3.1 acc3.2.1 acc3.2.2
            refine ⟨ρ4, S5, F5, m5, sl4.mono st5.fr st5.pre, ok5, ?_⟩
            unfold stl at e2
            match e6 : f ρ4 S5, e2 with
            | none, e2 => cases e2
            | some (.er x S6), e2 => cases e2
            | some (.ok o S6), e2 =>
              intro v H6 F6 m6 st6 ok6 r6
              obtain ⟨F7, m7, st7, ok7, r7⟩ := settle_ok st6 ok6 r6
              have acc7 := own_keep st7 acc5.1 acc5.2.1 acc5.2.2
              have e2 : (if ys.length < sizeLine then (loopC t c f (wipeE ρ vs) (xs.drop (i + 1)) (ys.length + 1) (settle o S6).2).map (fun p => ((settle o S6).1 :: p.1, p.2)) else none) = some r := e2
              by_cases hk : ys.length < sizeLine
              · rw [if_pos hk] at e2
                cases e8 : loopC t c f (wipeE ρ vs) (xs.drop (i + 1)) (ys.length + 1) (settle o S6).2 with
                | none => rw [e8] at e2; cases e2
                | some r' =>
                  rw [e8] at e2
                  cases e2
                  refine ⟨acc, acc7.1, by rw [racc.length]; exact hk, ?_⟩
                  have st17 : Stp H1 F1 m1 H6 F7 m7 := ((st2.trans st3).trans st5).trans st7
                  have keep : ∀ a u, a ≠ Da → H6 a = some u → upd H6 Da (.lst (acc ++ [v])) a = some u := fun a u h q => by rw [upd_ne h]; exact q
                  refine ⟨(settle o S6).2, F7, m7, acc ++ [v], ys ++ [(settle o S6).1], r', ⟨fun a u q => keep a u (fun z => by rw [z, acc7.2.1] at q; cases q) (ok7.sub a u q), ok7.len, ok7.nd, ok7.off, fun n a u h1 h2 => ?_⟩, ?_, ⟨upd_same, acc7.2.1, acc7.2.2⟩, ?_, ?_, ?_⟩
                  · exact ObR.mono (Same.refl _) (Pre.refl _) (fun u q => keep a u (fun z => acc7.2.2 (z ▸ List.mem_of_getElem? h1)) q) u (ok7.obj n a u h1 h2)
                  · refine ⟨st17.fr, st17.pr, st17.nw, fun a u q hn => keep a u (fun z => by rw [z, hDa] at q; cases q) (st17.kp a u q hn), fun a q => ?_⟩
                    by_cases ha : a = Da
                    · rw [ha, upd_same] at q; cases q
                    · rw [upd_ne ha] at q
                      exact st17.dm a q
                  · exact (RepL.mono (((st3.fr.trans st5.fr)).trans st7.fr) ((st3.pre.trans st5.pre).trans st7.pre) ys racc).append (.cons r7 .nil)
                  · rw [List.length_append, List.length_singleton]
                    exact e8
                  · rw [List.append_assoc]
                    exact A2
              · rw [if_neg hk] at e2
                cases e2
          · rename_i S5 e5
            rw [e5]
            intro b H5 F5 m5 st5 ok5 hb
            have hb' : b = false := hb
            subst hb'
            rw [if_neg (by simp)]
            exact ⟨S5, F5, m5, acc, ys, r, ok5, (st2.trans st3).trans st5, own_keep st5 acc3.1 acc3.2.1 acc3.2.2, RepL.mono (st3.fr.trans st5.fr) (st3.pre.trans st5.pre) ys racc, e2, A2⟩
          · cases e2
    · have e : i = xs.length := by omega
      subst e
      rw [List.drop_length] at e2
      cases e2
      refine .inl ⟨stop (Nat.le_refl _), A2 (.ref Da) H2 F2 m2 st2 ok2 ⟨Da, rfl, hDa, hacc.2.1, hacc.2.2, acc, hacc.1, ?_⟩⟩
      rw [List.append_nil]
      exact racc
theorem Stand.blk {X : Cx} {W : WX'} {k : Nat} (Z : Stand X W k) {s : Shared} {H : Hp} {scope : Scope} {cenv : Env} {fp : List Addr} : Stand (X.blk s H scope cenv fp) W0 k :=
  ⟨Z.room, Z.guard, takes0, Z.calm⟩
section
variable {X : Cx} {W : WX'} {elt tg iter : Expr} {ifs : List Expr} {scope : Scope} {own : List (Str × Nat)} {pos : Pos} {g : Dn (List D)} {t : Tn} {c : Dn Bool} {f : Dn Out} {js : List Nat}
theorem d_comp (hc : X.calm = true) (hN : X.N.Nodup) (hi : Pi X W tg iter g) (ok : BlkOk X.N X.env.scope scope own)
    (hg : ∀ (s : Shared) (H : Hp) (C : Addr) (cl : List (Str × Addr)) (fp : List Addr), PG (X.blk s H scope (compEnvC scope cl C X.env) fp) tg (Tt X.K js t)) (ht : ∀ (s : Shared) (H : Hp) (C : Addr) (cl : List (Str × Addr)) (fp : List Addr), Pts (X.blk s H scope (compEnvC scope cl C X.env) fp) W0 ifs c)
    (he : ∀ (s : Shared) (H : Hp) (C : Addr) (cl : List (Str × Addr)) (fp : List Addr), Pe (X.blk s H scope (compEnvC scope cl C X.env) fp) W0 elt f) (hj : ∀ j ∈ js, j ∈ own.map (·.2)) (hs : ∀ x, foldedSetIterable iter X.env x = pure x := by intro _; rfl) :
    Pe X W (.ListComp elt [⟨tg, iter, ifs, 0⟩] scope pos) (dComp g t c f (own.map (·.2))) :=
  pe_imp (pe_lc hc hN hi ok hg ht he hs) fun _ _ _ q => tg_comp hj q
/-- name = [..]: frozen, or into the store -/
theorem s_comp {i : Nat} {y : Str} {py spos : Pos} (hc : X.calm = true) (hN : X.N.Nodup) (hy : X.N[i]? = some y) (hyl : X.env.scope.names.lookup y = some .local)
    (hsw : swapsWith (.ListComp elt [⟨tg, iter, ifs, 0⟩] scope pos) (some (.Name y py)) spos.line X.env = pure true) (hi : Pi X W tg iter g) (ok : BlkOk X.N X.env.scope scope own)
    (hg : ∀ (s : Shared) (H : Hp) (C : Addr) (cl : List (Str × Addr)) (fp : List Addr), PG (X.blk s H scope (compEnvC scope cl C X.env) fp) tg (Tt X.K js t)) (ht : ∀ (s : Shared) (H : Hp) (C : Addr) (cl : List (Str × Addr)) (fp : List Addr), Pts (X.blk s H scope (compEnvC scope cl C X.env) fp) W0 ifs c)
    (he : ∀ (s : Shared) (H : Hp) (C : Addr) (cl : List (Str × Addr)) (fp : List Addr), Pe (X.blk s H scope (compEnvC scope cl C X.env) fp) W0 elt f) (hj : ∀ j ∈ js, j ∈ own.map (·.2)) (hs : ∀ x, foldedSetIterable iter X.env x = pure x := by intro _; rfl) :
    Ps X W (.Assign [.Name y py] (.ListComp elt [⟨tg, iter, ifs, 0⟩] scope pos) spos) (sAsg i (dComp g t c f (own.map (·.2)))) := by
  refine ps_imp (ps_setLc (i := i) (tt := Tg X.K X.mg RB W0 c) (te := Tg X.K X.mg (RO X.K X.mg) W0 f) hc hN hy hyl hsw hi ok hg ht he hs) fun Dd σ H z => ?_
  have z2 : Tg X.K X.mg (RO X.K X.mg) W (dComp g t c f (own.map (·.2))) σ H fun v H1 => Dd.nx (σ.set i (some v)) H1 := by
    refine tg_stl ?_
    exact ts1 (R1 := RD X.K) (g := fun ρ (d : D) S1 => some (.nx (ρ.set i (some d)) S1)) z fun v _ H1 ρ S1 F1 m1 d sl ok r A _ _ => A _ H1 F1 m1 (Stp.refl ..) ok (sl.put i r)
  exact tg_comp hj z2
theorem s_compB {i : Nat} {y : Str} {py spos : Pos} (hc : X.calm = true) (hN : X.N.Nodup) (hy : X.N[i]? = some y) (hyl : X.env.scope.names.lookup y = some .local)
    (hsw : swapsWith (.ListComp elt [⟨tg, iter, ifs, 0⟩] scope pos) (some (.Name y py)) spos.line X.env = pure true) (hi : Pi X W tg iter g) (ok : BlkOk X.N X.env.scope scope own)
    (hg : ∀ (s : Shared) (H : Hp) (C : Addr) (cl : List (Str × Addr)) (fp : List Addr), PG (X.blk s H scope (compEnvC scope cl C X.env) fp) tg (Tt X.K js t)) (ht : ∀ (s : Shared) (H : Hp) (C : Addr) (cl : List (Str × Addr)) (fp : List Addr), Pts (X.blk s H scope (compEnvC scope cl C X.env) fp) W0 ifs c)
    (he : ∀ (s : Shared) (H : Hp) (C : Addr) (cl : List (Str × Addr)) (fp : List Addr), Pe (X.blk s H scope (compEnvC scope cl C X.env) fp) W0 elt f) (hj : ∀ j ∈ js, j ∈ own.map (·.2)) (hs : ∀ x, foldedSetIterable iter X.env x = pure x := by intro _; rfl) :
    Ps X W (.Assign [.Name y py] (.ListComp elt [⟨tg, iter, ifs, 0⟩] scope pos) spos) (sAsgB i (dComp g t c f (own.map (·.2)))) := by
  refine ps_imp (ps_setLc (i := i) (tt := Tg X.K X.mg RB W0 c) (te := Tg X.K X.mg (RO X.K X.mg) W0 f) hc hN hy hyl hsw hi ok hg ht he hs) fun Dd σ H z => ?_
  have z2 : Tg X.K X.mg (RO X.K X.mg) W (dComp g t c f (own.map (·.2))) σ H fun v H1 => Dd.nx (σ.set i (some v)) H1 := by
    refine tg_bxd ?_
    exact ts1 (R1 := RD X.K) (g := fun ρ (d : D) S1 => some (.nx (ρ.set i (some d)) S1)) z fun v _ H1 ρ S1 F1 m1 d sl ok r A _ _ => A _ H1 F1 m1 (Stp.refl ..) ok (sl.put i r)
  exact tg_comp hj z2
end
end Sf
/-! Sf8: dicts, while, op=, the body of a def, the law's end. -/
namespace Sf
open L2 PySem PySem.Spec PyProof.Rows

/-! ### dicts -/
def keyD : D → Option Key
  | .int i => some (.inl i)
  | .str s => some (.inr s)
  | _ => none
theorem key_ok {K : PySem.W.Frag} {F : Hp} {m : List Addr} {v : V} {d : D} {k : Key} (r : Rep K F m v d) (h : keyD d = some k) : v = kV k := by
  cases r <;> first | (cases h; rfl) | cases h
def getD' (kvs : List (Key × D)) (k : Key) : Option D := (kvs.find? fun kv => decide (kv.1 = k)).map (·.2)
def putD (kvs : List (Key × D)) (k : Key) (d : D) : List (Key × D) :=
  if (kvs.any fun kv => decide (kv.1 = k)) = true then kvs.map (fun kv => if kv.1 = k then (kv.1, d) else kv) else kvs ++ [(k, d)]
section
variable {K : PySem.W.Frag} {F : Hp} {m : List Addr}
abbrev PR (K : PySem.W.Frag) (F : Hp) (m : List Addr) : List (Key × V) → List (Key × D) → Prop := Paired (fun p q => p.1 = q.1 ∧ Rep K F m p.2 q.2)
theorem pr_get : ∀ {ks : List (Key × V)} {ls : List (Key × D)} (k : Key), PR K F m ks ls → (valV ks k = none ∧ getD' ls k = none) ∨ ∃ v d, valV ks k = some v ∧ getD' ls k = some d ∧ Rep K F m v d
  | _, _, k, .nil => .inl ⟨rfl, rfl⟩
  | p :: _, q :: _, k, .cons h t => by
    by_cases e : p.1 = k
    · have e' : q.1 = k := h.1 ▸ e
      refine .inr ⟨p.2, q.2, ?_, ?_, h.2⟩
      · unfold valV
        rw [List.find?_cons_of_pos (by simpa using e)]
        rfl
      · unfold getD'
        rw [List.find?_cons_of_pos (by simpa using e')]
        rfl
    · have e' : ¬ q.1 = k := h.1 ▸ e
      have ih := pr_get k t
      unfold valV getD' at ih ⊢
      rw [List.find?_cons_of_neg (by simpa using e), List.find?_cons_of_neg (by simpa using e')]
      exact ih
theorem pr_any : ∀ {ks : List (Key × V)} {ls : List (Key × D)} (k : Key), PR K F m ks ls → (ks.any fun kv => decide (kv.1 = k)) = ls.any fun kv => decide (kv.1 = k)
  | _, _, k, .nil => rfl
  | p :: _, q :: _, k, .cons h t => by
    rw [List.any_cons, List.any_cons, pr_any k t, h.1]
theorem pr_map {v : V} {d : D} (r : Rep K F m v d) : ∀ {ks : List (Key × V)} {ls : List (Key × D)} (k : Key), PR K F m ks ls → PR K F m (ks.map fun kv => if kv.1 = k then (kv.1, v) else kv) (ls.map fun kv => if kv.1 = k then (kv.1, d) else kv)
  | _, _, k, .nil => .nil
  | p :: _, q :: _, k, .cons h t => by
    refine .cons ?_ (pr_map r k t)
    show (if p.1 = k then (p.1, v) else p).1 = (if q.1 = k then (q.1, d) else q).1 ∧ Rep K F m (if p.1 = k then (p.1, v) else p).2 (if q.1 = k then (q.1, d) else q).2
    by_cases e : p.1 = k
    · have e' : q.1 = k := h.1 ▸ e
      rw [if_pos e, if_pos e']
      exact ⟨h.1, r⟩
    · have e' : ¬ q.1 = k := h.1 ▸ e
      rw [if_neg e, if_neg e']
      exact h
theorem pr_app : ∀ {ks : List (Key × V)} {ls : List (Key × D)} {ks' : List (Key × V)} {ls' : List (Key × D)}, PR K F m ks ls → PR K F m ks' ls' → PR K F m (ks ++ ks') (ls ++ ls')
  | _, _, _, _, .nil, h => h
  | _, _, _, _, .cons a t, h => .cons a (pr_app t h)
theorem pr_put {ks : List (Key × V)} {ls : List (Key × D)} {v : V} {d : D} (k : Key) (h : PR K F m ks ls) (r : Rep K F m v d) : PR K F m (putK ks k v) (putD ls k d) := by
  unfold putK putD
  rw [pr_any k h]
  split
  · exact pr_map r k h
  · exact pr_app h (.cons ⟨rfl, r⟩ .nil)
theorem pr_length {ks : List (Key × V)} {ls : List (Key × D)} (h : PR K F m ks ls) : ks.length = ls.length := Paired.length h
end
/-- the dict that is seen -/
def viewD (S : Sto) : D → Option (List (Key × D))
  | .emp => some []
  | .ref n => match S[n]? with
    | some (.dct kvs) => some kvs
    | _ => none
  | _ => none
theorem viewD_ok {K : PySem.W.Frag} {mg : Str → Option Value} {H F : Hp} {m : List Addr} {S : Sto} (ok : SOk K mg H F m S) {v : V} {d : D} {ls : List (Key × D)} (r : Rep K F m v d) (h : viewD S d = some ls) : ∃ a ks, v = .ref a ∧ H a = some (.dK ks) ∧ PR K F m ks ls := by
  cases r with
  | emp h1 =>
    cases h
    exact ⟨_, [], rfl, ok.sub _ _ h1, .nil⟩
  | @ref a n h1 =>
    simp only [viewD] at h
    cases e : S[n]? with
    | none => rw [e] at h; cases h
    | some o =>
      rw [e] at h
      cases o with
      | dct kvs =>
        cases h
        obtain ⟨ks, h2, h3⟩ := ok.at h1 e
        exact ⟨_, ks, rfl, h2, h3⟩
      | _ => cases h
  | _ => cases h
/-- d[k] -/
def dgD : O2 := fun S a b => match viewD S a, keyD b with
  | some kvs, some k => (getD' kvs k).map .val
  | _, _ => none
theorem op_dgD {X : Cx} (hu : X.A.units + 1 < cLine) : IxR X (rOf X.K X.mg dgD) := by
  intro value slice pins s σ H x y v u Q I rx ry ⟨S, F, m, a, b, w, ok, ra, rb, e, q⟩ hs
  unfold dgD at e
  split at e
  · rename_i kvs k e1 e2
    obtain ⟨p, ks, rfl, h1, h2⟩ := viewD_ok ok ra e1
    have := key_ok rb e2
    subst this
    rcases pr_get k h2 with ⟨_, h3⟩ | ⟨v', d, h3, h4, h5⟩
    · rw [h3] at e; cases e
    · rw [h4] at e
      cases e
      cases rx
      have g : DGet H p (kV k) (some v') := by rw [← h3]; exact DGet.k h1
      exact tail_any (dict_typeIs I g) PySem.F.slot_dict_getitem.lookup (d_getItem hu I g ry fun w' s' I' rw' => ⟨v', H, I', rw', rof_val ok q h5⟩) hs
  · cases e
theorem d_dg {X : Cx} {W : WX'} {a b : Expr} {f g : Dn Out} {pos : Pos} (hu : X.A.units + 1 < cLine) (ha : Pe X W a f) (hb : Pe X W b g) (hs : PlainIx b := by exact fun _ _ => rfl) : Pe X W (.Subscript a b pos) (d2 dgD f g) :=
  pe_imp (pe_ix (op_dgD hu) ha.d hb.d hs) fun _ _ _ q => tg_2 q
/-- k in d -/
def dinB (S : Sto) (a b : D) : Option Bool := match viewD S b, keyD a with
  | some kvs, some k => some (getD' kvs k).isSome
  | _, _ => none
def dinD : O2 := fun S a b => (dinB S a b).map fun c => .val (.bl c)
def dnotinD : O2 := fun S a b => (dinB S a b).map fun c => .val (.bl (!c))
theorem dinB_ok {K : PySem.W.Frag} {mg : Str → Option Value} {H F : Hp} {m : List Addr} {S : Sto} (ok : SOk K mg H F m S) {x y : V} {a b : D} {c : Bool} (ra : Rep K F m x a) (rb : Rep K F m y b) (h : dinB S a b = some c) :
    ∃ p o, y = .ref p ∧ DGet H p x o ∧ o.isSome = c := by
  unfold dinB at h
  split at h
  · rename_i kvs k e1 e2
    cases h
    obtain ⟨p, ks, rfl, h1, h2⟩ := viewD_ok ok rb e1
    have := key_ok ra e2
    subst this
    refine ⟨p, _, rfl, DGet.k h1, ?_⟩
    rcases pr_get k h2 with ⟨h3, h4⟩ | ⟨v', d, h3, h4, h5⟩
    · rw [h3, h4]
      rfl
    · rw [h3, h4]
      rfl
  · cases h
section
variable {X : Cx}
theorem op_dinD (hu : X.A.units + 1 < cLine) : OpR X (compareOp .In) (rOf X.K X.mg dinD) := by
  refine opB_of fun pins s σ H F m S x y v u a b r Q I rx ry ok ra rb e => ?_
  unfold dinD at e
  cases e1 : dinB S a b with
  | none => rw [e1] at e; cases e
  | some c =>
    rw [e1] at e
    cases e
    refine ⟨c, rfl, fun q => ?_⟩
    obtain ⟨p, o, rfl, g, hc⟩ := dinB_ok ok ra rb e1
    cases ry
    exact d_in hu I g rx fun s' I' => ⟨.bl c, H, I', by rw [hc]; rfl, q⟩
theorem op_dnotinD (hu : X.A.units + 1 < cLine) : OpR X (compareOp .NotIn) (rOf X.K X.mg dnotinD) := by
  refine opB_of fun pins s σ H F m S x y v u a b r Q I rx ry ok ra rb e => ?_
  unfold dnotinD at e
  cases e1 : dinB S a b with
  | none => rw [e1] at e; cases e
  | some c =>
    rw [e1] at e
    cases e
    refine ⟨!c, rfl, fun q => ?_⟩
    obtain ⟨p, o, rfl, g, hc⟩ := dinB_ok ok ra rb e1
    cases ry
    exact d_notIn hu I g rx fun s' I' => ⟨.bl (!c), H, I', by rw [hc]; rfl, q⟩
end
/-- d[k] = e -/
def dputS (S : Sto) (a b d : D) : Option Sto := match a, keyD b with
  | .ref n, some k => match S[n]? with
    | some (.dct kvs) => if kvs.length < sizeLine then some (S.set n (.dct (putD kvs k d))) else none
    | _ => none
  | _, _ => none
def sDput (f g h : Dn Out) : Sn := fun ρ S => bnS (stl h ρ S) ρ fun d S1 => bnS (stl f ρ S1) ρ fun a S2 => bnS (stl g ρ S2) ρ fun b S3 => match dputS S3 a b d with
  | some S4 => some (.nx ρ S4)
  | none => none
theorem tsc {K : PySem.W.Frag} {mg : Str → Option Value} {α β : Type} {R1 : Rel α β} {W : WX'} {σ : L2.St} {H : Hp} {f : Dn α} {g : En → α → Sto → Option Fl} {Dd : Ends} {Q' : β → Hp → Prop} (C : Hp → List Addr → Prop)
    (mono : ∀ F m F' m', Same F F' → Pre m m' → C F m → C F' m')
    (h : ∃ ρ S F m, C F m ∧ SlR K F m σ ρ ∧ SOk K mg H F m S ∧ AftS K mg W H F m (bnS (f ρ S) ρ (g ρ)) Dd)
    (k : ∀ x H0 H1 ρ S1 F1 m1 a, C F1 m1 → SlR K F1 m1 σ ρ → SOk K mg H1 F1 m1 S1 → R1 H0 H1 F1 m1 x a → AftS K mg W H1 F1 m1 (g ρ a S1) Dd → Q' x H1) : Tg K mg R1 W f σ H Q' := by
  obtain ⟨ρ, S, F, m, hC, sl, ok, A⟩ := h
  refine ⟨ρ, S, F, m, sl, ok, ?_⟩
  match f ρ S, A with
  | none, A => exact A
  | some (.ok a S'), A =>
    intro x H1 F1 m1 st ok1 r1
    exact k x H H1 ρ S' F1 m1 a (mono _ _ _ _ st.fr st.pre hC) (sl.mono st.fr st.pre) ok1 r1 (AftS.shift st A)
  | some (.er x S'), A => exact fun c d H' F' m' st k q => A c d σ H' F' m' st k (sl.mono st.fr st.pre) q
theorem s_dput {X : Cx} {W : WX'} {o i value : Expr} {f g h : Dn Out} {pos pos' : Pos} (hu : X.A.units + 1 < cLine) (ho : Pe X W o f) (hi : Pe X W i g) (hv : Pe X W value h) (hs : swapsWith value (some (.Subscript o i pos')) pos.line X.env = pure false := by rfl) :
    Ps X W (.Assign [.Subscript o i pos'] value pos) (sDput f g h) := by
  refine ps_imp (ps_dput hu ho.d hi.d hv.d hs) fun Dd σ H z => ?_
  obtain ⟨ρ0, S0, F0, m0, sl0, ok0, A0⟩ := z
  refine tsc (R1 := RD X.K) (g := fun ρ d S1 => bnS (stl f ρ S1) ρ fun a S2 => bnS (stl g ρ S2) ρ fun b S3 => match dputS S3 a b d with
    | some S4 => some (.nx ρ S4)
    | none => none) (fun _ _ => True) (fun _ _ _ _ _ _ h => h) ⟨ρ0, S0, F0, m0, trivial, sl0, ok0, A0⟩ fun v _ H1 ρ1 S1 F1 m1 d _ sl1 ok1 rv A1 => ?_
  refine tsc (R1 := RD X.K) (g := fun ρ a S2 => bnS (stl g ρ S2) ρ fun b S3 => match dputS S3 a b d with
    | some S4 => some (.nx ρ S4)
    | none => none) (fun F m => Rep X.K F m v d) (fun F m F' m' e p r => Rep.mono e p d r) ⟨ρ1, S1, F1, m1, rv, sl1, ok1, A1⟩ fun x _ H2 ρ2 S2 F2 m2 a rv sl2 ok2 rx A2 => ?_
  refine tsc (R1 := RD X.K) (g := fun ρ b S3 => match dputS S3 a b d with
    | some S4 => some (.nx ρ S4)
    | none => none) (fun F m => Rep X.K F m v d ∧ Rep X.K F m x a) (fun F m F' m' e p r => ⟨Rep.mono e p d r.1, Rep.mono e p a r.2⟩) ⟨ρ2, S2, F2, m2, ⟨rv, rx⟩, sl2, ok2, A2⟩ fun y _ H3 ρ3 S3 F3 m3 b rr sl3 ok3 ry A3 => ?_
  match e : dputS S3 a b d, A3 with
  | none, A3 => exact A3.elim
  | some S4, A3 =>
    unfold dputS at e
    split at e
    · rename_i n k e1
      split at e
      · rename_i kvs e2
        split at e
        · rename_i hl
          cases e
          have := key_ok ry e1
          subst this
          cases rr.2 with
          | @ref p n h1 =>
            obtain ⟨ks, h2, h3⟩ := ok3.at h1 e2
            obtain ⟨k4, st4⟩ := ok3.put (u := .dK (putK ks k v)) (ob := .dct (putD kvs k d)) h1 ⟨_, upd_same, pr_put k h3 rr.1⟩
            exact ⟨p, _, rfl, DPut.k h2 (by rw [pr_length h3]; exact hl), A3 σ _ _ _ st4 k4 sl3⟩
        · cases e
      · cases e
    · cases e
/-- {"a": e, ..}, unlike text keys -/
def vals : List (Dn Out) → Dn (List D)
  | [] => aNil
  | f :: r => aCons f (vals r)
def dDisp (l : List (Str × Dn Out)) : Dn Out := fun ρ S => bnd (vals (l.map (·.2)) ρ S) fun ds S1 => some (.ok (.own (.dct ((l.map fun p => (Sum.inr p.1 : Key)).zip ds))) S1)
theorem pairs_ok {K : PySem.W.Frag} {mg : Str → Option Value} {W : WX'} {σ : L2.St} {p : Addr} {o : HO} : ∀ (l : List (Str × Dn Out)) {H : Hp} {Q : List (V × V) → Hp → Prop} {ρ : En} {S : Sto} {F : Hp} {m : List Addr}, SlR K F m σ ρ → SOk K mg H F m S →
    (H p = some o ∧ F p = none ∧ p ∉ m) →
    (match vals (l.map (·.2)) ρ S with
      | none => False
      | some (.er x S') => ∀ c d H' F' m', Stp H F m H' F' m' → SOk K mg H' F' m' S' → XnR K mg H' F' m' c d x → W c d σ H'
      | some (.ok ds S') => ∀ vs H' F' m', Stp H F m H' F' m' → SOk K mg H' F' m' S' → RepL K F' m' vs ds → (H' p = some o ∧ F' p = none ∧ p ∉ m') → Q ((l.map fun q => V.str q.1).zip vs) H') →
    tPairs (l.map fun q => (tC (.str q.1), Tg K mg (RD K) W (stl q.2))) σ H Q
  | [], H, Q, ρ, S, F, m, sl, ok, hp, h => h [] H F m (Stp.refl ..) ok .nil hp
  | (k, f) :: l, H, Q, ρ, S, F, m, sl, ok, hp, h => by
    show Tg K mg (RD K) W (stl f) σ H fun y H2 => tPairs _ σ H2 fun ps H3 => Q ((V.str k, y) :: ps) H3
    refine ⟨ρ, S, F, m, sl, ok, ?_⟩
    have h : match bnd (stl f ρ S) fun d S1 => bnd (vals (l.map (·.2)) ρ S1) fun ds S2 => some (.ok (d :: ds) S2) with
      | none => False
      | some (.er x S') => ∀ c d H' F' m', Stp H F m H' F' m' → SOk K mg H' F' m' S' → XnR K mg H' F' m' c d x → W c d σ H'
      | some (.ok ds S') => ∀ vs H' F' m', Stp H F m H' F' m' → SOk K mg H' F' m' S' → RepL K F' m' vs ds → (H' p = some o ∧ F' p = none ∧ p ∉ m') → Q ((V.str k :: l.map fun q => V.str q.1).zip vs) H' := h
    match stl f ρ S, h with
    | none, h => exact h
    | some (.er x S'), h => exact h
    | some (.ok d S'), h =>
      intro y H1 F1 m1 st ok1 ry
      refine pairs_ok l (sl.mono st.fr st.pre) ok1 (own_keep st hp.1 hp.2.1 hp.2.2) ?_
      have h : match bnd (vals (l.map (·.2)) ρ S') fun ds S2 => some (Rz.ok (d :: ds) S2) with
        | none => False
        | some (.er x S') => ∀ c d H' F' m', Stp H F m H' F' m' → SOk K mg H' F' m' S' → XnR K mg H' F' m' c d x → W c d σ H'
        | some (.ok ds S') => ∀ vs H' F' m', Stp H F m H' F' m' → SOk K mg H' F' m' S' → RepL K F' m' vs ds → (H' p = some o ∧ F' p = none ∧ p ∉ m') → Q ((V.str k :: l.map fun q => V.str q.1).zip vs) H' := h
      generalize vals (l.map (·.2)) ρ S' = rv at h ⊢
      match rv, h with
      | none, h => exact h
      | some (.er x S2), h => exact fun c d H' F' m' s k q => h c d H' F' m' (st.trans s) k q
      | some (.ok ds S2), h => exact fun vs H' F' m' s k q hp' => h (y :: vs) H' F' m' (st.trans s) k (.cons (Rep.mono s.fr s.pre d ry) q) hp'
theorem merge_new : ∀ (kvs acc : List (Key × V)), (kvs.map (·.1)).Nodup → (∀ p ∈ kvs, ∀ q ∈ acc, q.1 ≠ p.1) → mergeK acc kvs = acc ++ kvs
  | [], acc, _, _ => by simp [mergeK]
  | p :: r, acc, nd, hn => by
    have e : putK acc p.1 p.2 = acc ++ [p] := by
      unfold putK
      have : (acc.any fun kv => decide (kv.1 = p.1)) = false := by
        rw [List.any_eq_false]
        intro q hq
        simpa using hn p List.mem_cons_self q hq
      rw [this]
      rfl
    show mergeK (putK acc p.1 p.2) r = _
    rw [e]
    rw [List.map_cons, List.nodup_cons] at nd
    rw [merge_new r (acc ++ [p]) nd.2 fun q hq z hz => ?_, List.append_assoc]
    · rfl
    · rcases List.mem_append.mp hz with hz | hz
      · exact hn q (List.mem_cons_of_mem _ hq) z hz
      · rw [List.mem_singleton.mp hz]
        exact fun e => nd.1 (e ▸ List.mem_map_of_mem hq)
theorem pr_zip {K : PySem.W.Frag} {F : Hp} {m : List Addr} : ∀ (ks : List Key) {vs : List V} {ds : List D}, RepL K F m vs ds → PR K F m (ks.zip vs) (ks.zip ds)
  | [], _, _, _ => .nil
  | k :: ks, _, _, .nil => .nil
  | k :: ks, _, _, .cons h t => .cons ⟨rfl, h⟩ (pr_zip ks t)
theorem d_disp {X : Cx} {W : WX'} {pos : Pos} {keys : List (Option Expr)} {values : List Expr} (l : List (Str × Dn Out)) (h : PPs X pos keys values (l.map fun q => (tC (.str q.1), Tg X.K X.mg (RD X.K) W (stl q.2)))) (hall : keys.all (·.isSome) = true) (hl : keys.length = values.length) (h0 : keys ≠ [])
    (h15 : keys.length ≤ 15) (hll : l.length ≤ 15) (nd : (l.map fun p => (Sum.inr p.1 : Key)).Nodup) : Pe X W (.Dict keys values pos) (dDisp l) := by
  refine pe_imp (pe_disp h hall hl h0 h15) fun σ H Q q => ?_
  obtain ⟨ρ, S, F, m, sl, ok, A⟩ := q
  intro p hp
  obtain ⟨okD, stD⟩ := ok.new (o := .dK []) hp
  refine pairs_ok (o := .dK []) l sl okD ⟨upd_same, ok.fnone hp, ok.notin hp⟩ ?_
  unfold dDisp at A
  generalize vals (l.map (·.2)) ρ S = rv at A ⊢
  match rv, A with
  | none, A => exact A
  | some (.er x S'), A => exact fun c d H' F' m' s k q => A c d H' F' m' (stD.trans s) k q
  | some (.ok ds S'), A =>
    intro vs H2 F2 m2 st2 ok2 rvs hp2
    have ez : ∀ (l : List (Str × Dn Out)) (vs : List V), (l.map fun q => V.str q.1).zip vs = ((l.map fun p => (Sum.inr p.1 : Key)).zip vs).map fun kv => (kV kv.1, kv.2) := fun l => by
      induction l with
      | nil => intro vs; rfl
      | cons a l ih =>
        intro vs
        cases vs with
        | nil => rfl
        | cons v vs =>
          exact congrArg (List.cons (V.str a.1, v)) (ih vs)
    refine ⟨hp2.1, _, ez l vs, ?_, ?_⟩
    · rw [List.length_zip, List.length_map]
      omega
    · have nd' : (((l.map fun p => (Sum.inr p.1 : Key)).zip vs).map (·.1)).Nodup := by
        have : ∀ (ks : List Key) (vs : List V), (ks.zip vs).map (·.1) = ks.take vs.length := fun ks => by
          induction ks with
          | nil => intro vs; simp
          | cons a ks ih =>
            intro vs
            cases vs with
            | nil => rfl
            | cons v vs => simp [ih]
        rw [this]
        exact nd.sublist (List.take_sublist _ _)
      rw [merge_new _ [] nd' (fun _ _ q hq => absurd hq (by simp)), List.nil_append]
      have keep : ∀ a u, a ≠ p → H2 a = some u → upd H2 p (.dK ((l.map fun p => (Sum.inr p.1 : Key)).zip vs)) a = some u := fun a u h q => by rw [upd_ne h]; exact q
      have st : Stp H F m H2 F2 m2 := stD.trans st2
      refine A (.ref p) _ F2 m2 ⟨st.fr, st.pr, st.nw, fun a u q hn => keep a u (fun z => by rw [z, hp] at q; cases q) (st.kp a u q hn), fun a q => ?_⟩
        ⟨fun a u q => keep a u (fun z => by rw [z, hp2.2.1] at q; cases q) (ok2.sub a u q), ok2.len, ok2.nd, ok2.off, fun n a u h1 h2 => ObR.mono (Same.refl _) (Pre.refl _) (fun u q => keep a u (fun z => hp2.2.2 (z ▸ List.mem_of_getElem? h1)) q) u (ok2.obj n a u h1 h2)⟩
        ⟨p, rfl, hp, hp2.2.1, hp2.2.2, _, upd_same, pr_zip _ rvs⟩
      by_cases ha : a = p
      · rw [ha]; exact hp
      · rw [upd_ne ha] at q
        exact st.dm a q
theorem d_dnew {X : Cx} {W : WX'} {pos : Pos} : Pe X W (.Dict [] [] pos) (fun _ S => some (.ok (.own (.dct [])) S)) := by
  refine pe_imp pe_dnewK fun σ H Q q => ?_
  obtain ⟨ρ, S, F, m, sl, ok, A⟩ := q
  intro p hp
  obtain ⟨k, st⟩ := ok.new (o := .dK []) hp
  exact A (.ref p) _ _ _ st k ⟨p, rfl, hp, ok.fnone hp, ok.notin hp, [], upd_same, .nil⟩
end Sf
/-! Sf9: a def keeps its denotation; the law's end. -/
namespace Sf
open L2 PySem PySem.Spec PyProof.Rows

def startE (n : Nat) (ds : List D) : En := ds.map some ++ List.replicate (n - ds.length) none
/-- what a body computes -/
def defD (n : Nat) (f : Sn) : MD := fun ds S => match f (startE n ds) S with
  | some (.nx _ S') => some (.ok (.val .non) S')
  | some (.rt o S') => some (.ok o S')
  | some (.er x _ S') => some (.er x S')
  | _ => none
theorem slr_start {K : PySem.W.Frag} {F : Hp} {m : List Addr} {N : List Str} {vs : List V} {ds : List D} (r : RepL K F m vs ds) : SlR K F m (L2.start N vs) (startE N.length ds) := by
  refine ⟨by unfold L2.start startE; rw [List.length_append, List.length_append, List.length_map, List.length_map, List.length_replicate, List.length_replicate, r.length], fun i d q => ?_⟩
  unfold startE at q
  by_cases hi : i < ds.length
  · rw [List.getElem?_append_left (by rw [List.length_map]; exact hi), List.getElem?_map] at q
    cases e : ds[i]? with
    | none => rw [e] at q; cases q
    | some d' =>
      rw [e] at q
      cases q
      obtain ⟨v, h1, h2⟩ := r.get e
      refine ⟨v, ?_, h2⟩
      unfold L2.start
      rw [List.getElem?_append_left (by rw [List.length_map, r.length]; exact hi), List.getElem?_map, h1]
      rfl
  · rw [List.getElem?_append_right (by rw [List.length_map]; omega), List.getElem?_replicate] at q
    split at q <;> cases q

abbrev bodyW (E : XK) : WX' := fun c d _ H' => E c d H'
theorem fn_g {P : Program} {w : World} {K : PySem.W.Frag} {mg : Str → Option Value} {base : Heap} {x qual : Str} {st : Stmt} {f : Addr} {fd : FuncData} {N ps : List Str} {k : Nat} {g : Sn} (F : L2.Fun K x qual st f fd) (S : FnScope N ps (L2.defScope st))
    (hbody : ∀ (cdv : Value) (A : Around) (outer : List Env) (s : Shared) (H : Hp) (E : XK), Stand (cxOf (L2.CX P w) P w K mg base N qual (L2.defScope st) f cdv A outer s H E) (bodyW E) k →
      Pss (cxOf (L2.CX P w) P w K mg base N qual (L2.defScope st) f cdv A outer s H E) (bodyW E) (L2.defBody st) g) : FnG P w K mg base (k + 1) f fd ps (defD N.length g) := by
  obtain ⟨oc, od, kV, doc, pm, an, cdv, ct, osl, rfl, look, code⟩ := F.ex
  refine ⟨fun A outer s H args us vs Q E room guard e0 bind rel ⟨len, ds, S0, F0, m0, rp, ok, aft⟩ => ?_⟩
  have inH : K.In s.heap := e0.mod.kin.keeps fun b o z => (e0.bs b o z).1
  have noLim : s.heap.NoLimit := e0.mod.nolimit.keeps fun b o z => (e0.bs b o z).1
  have kinds : ∀ y ∈ ps.zip us, (L2.defScope st).names.lookup y.1 = some .local ∨ ((L2.defScope st).names.lookup y.1 = some .cell ∧ ((cellsFrom (s.heap.objs.size + 1) (L2.defScope st).names []).lookup y.1).isSome = true) := fun y hy => by
    obtain ⟨n, v⟩ := y
    rcases S.par n (List.of_mem_zip hy).1 with z | z
    · exact .inl z
    · exact .inr ⟨z, PySem.W.cellsFrom_some _ _ _ (.inl z)⟩
  refine codeAny_call_function room.depth (inH _ _ look) rfl S.co S.gen rfl (PySem.W.codeRec_of inH code) (bind _ _ _ _ ?_)
  refine wpAny_newFunctionEnv_cells S.kind kinds fun env henv s1 inC => ?_
  subst henv
  refine ⟨noLim.keeps inC.toInCall.keep, codeAny_func ?_⟩
  have Z : Stand (cxOf (L2.CX P w) P w K mg base N qual (L2.defScope st) f cdv A outer s H E) (bodyW E) k := ⟨room.deeper _, guard, L2.takes_of rfl rfl rfl rfl, rfl⟩
  have I := inv_start (CX := L2.CX P w) (E := E) S room.hd e0 len rel inC
  have body := (hbody cdv A outer s H E Z).run [] s1 (L2.start N vs) H { nx := fun _ H' => Q .non H', rt := Q } I
  have wish : Ts K mg (bodyW E) g { nx := fun _ H' => Q .non H', rt := Q } (L2.start N vs) H := by
    refine ⟨startE N.length ds, S0, F0, m0, slr_start rp, ok, ?_⟩
    unfold defD at aft
    match g (startE N.length ds) S0, aft with
    | none, aft => exact aft
    | some (.nx ρ' S'), aft => exact fun σ' H' F' m' st k q => aft .non H' F' m' st k .non
    | some (.rt o S'), aft => exact fun v H' F' m' st k q => aft v H' F' m' st k q
    | some (.bk ρ' S'), aft => exact aft.elim
    | some (.ct ρ' S'), aft => exact aft.elim
    | some (.er x ρ' S'), aft => exact fun c d σ' H' F' m' st k _ q => aft c d H' F' m' st k q
  refine wpAny_mono (body wish) (fun fl s' ends => ?_) fun e s' z => z
  match fl, ends with
  | .ret u, ⟨v, σ', H', J, rv, q⟩ => exact ⟨v, H', J.os, J.bare, J.base, J.hok, rv, q⟩
  | .next, ⟨σ', H', J, q⟩ => exact ⟨V.non, H', J.os, J.bare, J.base, J.hok, rfl, q⟩
  | .brk, ⟨_, _, _, q⟩ => exact q.elim
  | .cont, ⟨_, _, _, q⟩ => exact q.elim

/-- a def that may be called by its name -/
structure Cl (P : Program) (w : World) (K : PySem.W.Frag) (mg : Str → Option Value) (base : Heap) (k : Nat) (x : Str) (n : Nat) (m : MD) : Prop where
  ex : ∃ (f : Addr) (fd : FuncData) (ps : List Str), FnG P w K mg base k f fd ps m ∧ ps.length = n ∧ mg x = some (.ref f) ∧ PySem.W.keepIn K (.ref f) = true ∧ Binds K fd ps []
/-- what stands of a def behind the top -/
structure Dk (K : PySem.W.Frag) (mg : Str → Option Value) (x : Str) (st : Stmt) (ps : List Str) : Prop where
  ex : ∃ (f : Addr) (fd : FuncData), L2.Fun K x x st f fd ∧ mg x = some (.ref f) ∧ Binds K fd ps []
section
variable {P : Program} {w : World} {K : PySem.W.Frag} {mg : Str → Option Value} {base : Heap} {k j : Nat} {x : Str} {st : Stmt} {ps N : List Str} {g : Sn} {n : Nat} {m : MD}
theorem Cl.up (c : Cl P w K mg base k x n m) (h : k ≤ j) : Cl P w K mg base j x n m :=
  let ⟨f, fd, ps, G, r⟩ := c.ex
  ⟨f, fd, ps, G.up h, r⟩
/-- no fuel left -/
theorem cl_bot (d : Dk K mg x st ps) : Cl P w K mg base k x ps.length (fun _ _ => none) := by
  obtain ⟨f, fd, F, hm, hb⟩ := d.ex
  exact ⟨f, fd, ps, ⟨fun _ _ _ _ _ _ _ _ _ _ _ _ _ _ ⟨_, _, _, _, _, _, _, z⟩ => z.elim⟩, rfl, hm, F.kp, hb⟩
theorem cl_of (d : Dk K mg x st ps) (S : FnScope N ps (L2.defScope st))
    (hbody : ∀ (f : Addr) (cdv : Value) (A : Around) (outer : List Env) (s : Shared) (H : Hp) (E : XK), Stand (cxOf (L2.CX P w) P w K mg base N x (L2.defScope st) f cdv A outer s H E) (bodyW E) k →
      Pss (cxOf (L2.CX P w) P w K mg base N x (L2.defScope st) f cdv A outer s H E) (bodyW E) (L2.defBody st) g) : Cl P w K mg base (k + 1) x ps.length (defD N.length g) := by
  obtain ⟨f, fd, F, hm, hb⟩ := d.ex
  exact ⟨f, fd, ps, fn_g F S fun cdv A outer s H E Z => hbody f cdv A outer s H E Z, rfl, hm, F.kp, hb⟩
end
section
variable {X : Cx} {W : WX'} {x : Str} {e : Expr} {es : List Expr} {g : Dn (List D)} {p pos : Pos} {k j n : Nat} {m : MD}
theorem d_c (c : Cl X.prog X.w X.K X.mg X.base k x n m) (Z : Stand X W j) (hj : k ≤ j) (hg : Gl X x) (ha : Pa X W (e :: es) g)
    (hdb : (x == ("__debug__" : Str)) = false := by decide) (he : starEach (e :: es) X.env = (false, eval e X.env) :: starEach es X.env := by rfl) (hpl : (backTo pos (starEach es X.env)).any (·.1) = false := by rfl) :
    Pe X W (.Call (.Name x p) (e :: es) [] pos) (dFn n m g) := by
  obtain ⟨f, fd, ps, G, rfl, hm, hk, hb⟩ := c.ex
  exact d_fn G Z hg hm hk hb ha hj hdb he hpl
theorem d_c0 (c : Cl X.prog X.w X.K X.mg X.base k x n m) (Z : Stand X W j) (hj : k ≤ j) (hg : Gl X x) (hdb : (x == ("__debug__" : Str)) = false := by decide) :
    Pe X W (.Call (.Name x p) [] [] pos) (dFn n m aNil) := by
  obtain ⟨f, fd, ps, G, rfl, hm, hk, hb⟩ := c.ex
  exact d_fn0 G Z hg hm hk hb hj hdb
end

/-- what stands at sys.modules is a dict -/
def SysB (base : Heap) : Prop := ∃ o es ep, base.get? sysModules = some o ∧ o.data = .dict es ep
theorem repl_ints {K : PySem.W.Frag} {F : Hp} {m : List Addr} : ∀ ns : List Int, RepL K F m (ns.map V.int) (ns.map D.int)
  | [] => .nil
  | n :: ns => .cons (.int n) (repl_ints ns)
/-- a law's promise over this layer, from its denotation -/
theorem law_g {P : Program} {w : World} {K : PySem.W.Frag} {mg mb : Str → Option Value} {k : Nat} {fa a : Addr} {x : Str} {m : MD} {s1 : Shared} {vs : List Value} {ns : List Int}
    (inK : K.In s1.heap) (glob : s1.heap.Ns mainGlobals mg) (blt : s1.heap.Ns builtinsNs mb) (boot : ∀ y : Str, y ≠ "__name__" → mb y = bootBuiltins y) (noLim : s1.heap.NoLimit) (noGen : s1.gens = #[])
    (obj : s1.heap.get? a = some { cls := .type "list", data := .seq vs.toArray }) (hIn : IntsAre vs ns) (short : ns.length ≤ sizeLine) (room : Room k callerA)
    (sys : SysB s1.heap) (G : ∀ base : Heap, K.In base → base.Ns mainGlobals mg → SysB base → Cl P w K mg base k x 1 m) (hmg : mg x = some (.ref fa))
    (ans : ∃ S', m [.fls (ns.map .int)] [] = some (.ok (.val (.bl true)) S')) :
    codeAny (model P w) callerA (.call (.ref fa) ⟨[.ref a], []⟩) (fun r s' => r = .ok (.ret (.bool true)) ∧ OldK s1.heap s'.heap ∧ s'.os = s1.os ∧ AllBare s'.gens) s1 := by
  have rv := vals_ints hIn
  have lenV := hIn.length
  have main : ∀ H : Hp, (∀ b, H b = none ∨ ∃ o xs, H b = some (.frz o (.lst xs))) → SqL K H a (ns.map V.int) → HOk P w H s1.heap → (∀ b, H b ≠ none → b = a) → (H a ≠ none → K.lookup a = none) →
      codeAny (model P w) callerA (.call (.ref fa) ⟨[.ref a], []⟩) (fun r s' => r = .ok (.ret (.bool true)) ∧ OldK s1.heap s'.heap ∧ s'.os = s1.os ∧ AllBare s'.gens) s1 := by
    intro H only seq hok hA hK
    have isA : ∀ {b : Addr} {u : HO}, H b = some u → b = a := fun {b u} z => hA b (by rw [z]; simp)
    have down : ∀ {b : Addr} {o : Obj}, s1.heap.get? b = some o → H b = none → (hidT s1.heap H).get? b = some o := fun z n => hidT_get z n
    have dictN : ∀ {b : Addr} {o : Obj} {es : Array DictEntry} {ep : Nat}, s1.heap.get? b = some o → o.data = .dict es ep → H b = none := fun {b o es ep} z d => by
      cases q : H b with
      | none => rfl
      | some u =>
        have hb := isA q
        subst hb
        rw [obj] at z
        cases z
        cases d
    have nsDown : ∀ {b : Addr} {mm : Str → Option Value}, s1.heap.Ns b mm → (hidT s1.heap H).Ns b mm := fun {b mm} ⟨o, es, ep, z, d, r⟩ => ⟨o, es, ep, down z (dictN z d), d, r⟩
    have kDown : K.In (hidT s1.heap H) := fun b o z => down (inK b o z) (by
      cases q : H b with
      | none => rfl
      | some u =>
        have hb := isA q
        subst hb
        rw [hK (by rw [q]; simp)] at z
        cases z)
    have md : Mod K mg (hidT s1.heap H) := ⟨kDown, nsDown glob, ⟨mb, nsDown blt, boot⟩, let ⟨mc, h1, h2⟩ := noLim; ⟨mc, nsDown h1, h2⟩⟩
    have e0 : Env0 P w K mg (hidT s1.heap H) callerA [] s1 H := ⟨rfl, md, fun b o z => of_hidT z, Nat.le_of_eq (hidT_size _ _), trivial, fun b hb => absurd (show b ∈ ([] : List Addr) from hb) (by simp), hok, .of_eq noGen⟩
    obtain ⟨S', ans⟩ := ans
    obtain ⟨f, fd, ps, G1, len1, hmf, hkf, bind⟩ := (G _ kDown (nsDown glob) (let ⟨o, es, ep, h1, h2⟩ := sys; ⟨o, es, ep, down h1 (dictN h1 h2), h2⟩)).ex
    obtain rfl : fa = f := by
      rw [hmg] at hmf
      cases hmf
      rfl
    have sp : GSp K mg ps.length m [.ref a] H (fun v _ => v = .bl true) (fun _ _ _ => False) := by
      refine ⟨len1.symm, [.fls (ns.map .int)], [], H, [], .cons (.fls seq (repl_ints ns)) .nil, ⟨Same.refl _, rfl, List.nodup_nil, fun b hb => absurd hb (by simp), fun n b o h1 _ => by simp at h1⟩, ?_⟩
      rw [ans]
      intro v H' F' m' _ _ r
      cases r
      rfl
    refine codeAny_mono (G1.go callerA [] s1 H ⟨[.ref a], []⟩ [.ref a] [.ref a] _ _ room rfl e0 (bind s1 [.ref a] inK len1.symm) (.cons rfl .nil) sp) fun r s' h => ?_
    match r, h with
    | .error e, h =>
      obtain ⟨_, _, _, _, _, _, _, _, _, _, _, _, q⟩ := h
      exact q.elim
    | .ok .next, h => exact h.elim
    | .ok .brk, h => exact h.elim
    | .ok .cont, h => exact h.elim
    | .ok (.ret u), ⟨v, H', os, bare, un, hok', rr, q⟩ =>
      have q' : v = .bl true := q
      subst q'
      have hu : u = Value.bool true := rr
      subst hu
      refine ⟨rfl, OldK.of_keep fun b o z => ?_, os, bare⟩
      rcases only b with n | ⟨ob, xs, fz⟩
      · exact un.keep b o z n (fun q => absurd (show b ∈ ([] : List Addr) from q) (by simp)) (by simp)
      · have fz' := un.frzs b ob _ fz
        have g1 := (hok b _ fz).1
        have g2 := (hok' b _ fz').1
        rw [z] at g1
        cases g1
        exact g2
  cases hk : K.lookup a with
  | some o =>
    have z := inK a o hk
    rw [obj] at z
    cases z
    exact main (fun _ => none) (fun _ => .inl rfl) (.inr ⟨_, vs.toArray, _, hk, rfl, rfl, rfl, by rw [List.size_toArray, lenV]; exact short, by simpa using rv⟩) (fun b u q => by cases (show (none : Option HO) = some u from q)) (fun b q => absurd rfl q) (fun q => absurd rfl q)
  | none =>
    have at_ : ∀ b, (if b = a then some (HO.frz { cls := .type "list", data := .seq vs.toArray } (.lst (ns.map V.int))) else none) ≠ none → b = a := fun b q => by
      by_cases hb : b = a
      · exact hb
      · rw [if_neg hb] at q
        exact absurd rfl q
    refine main (fun b => if b = a then some (HO.frz { cls := .type "list", data := .seq vs.toArray } (.lst (ns.map V.int))) else none) (fun b => ?_) (.inl (.inr ⟨_, if_pos rfl⟩)) (fun b u q => ?_) at_ fun _ => hk
    · by_cases hb : b = a
      · exact .inr ⟨_, _, if_pos hb⟩
      · exact .inl (if_neg hb)
    · have hb := at_ b (fun z => by cases z.symm.trans q)
      subst hb
      have q' := (if_pos rfl).symm.trans q
      cases q'
      exact ⟨obj, by rw [List.length_map]; exact short, vs, _, rv, obj⟩
/-- the goal behind k_fill -/
theorem walk_g {l : PySem.W.OpenLaw} {n k : Nat} {q : Program} {loose : List Str} {XP : (Str → Option Value) → Heap → Prop} {YP : World → Heap → Prop} {d : DefRec} {K : Params → PySem.W.Frag} {m : MD}
    (hn : l.most = some n) (hn2 : n ≤ sizeLine) (himp : importsNone q = true) (hdf : d.params.defaults = []) (hr : Room k callerA) (hY : ∀ (w : World) (h : Heap), YP w h → (K w.params).In h)
    (G : ∀ (w : World) (mg : Str → Option Value) (h : Heap), (K w.params).In h → h.Ns mainGlobals mg → ∀ base : Heap, (K w.params).In base → base.Ns mainGlobals mg → SysB base → Cl l.prog w (K w.params) mg base k d.name 1 m)
    (ans : ∀ ns : List Int, ns.length ≤ n → ∃ S', m [.fls (ns.map .int)] [] = some (.ok (.val (.bl true)) S')) :
    PySem.W.WalkO q loose XP YP l.row.toRowW d [] (fun f vs => PySem.call f vs) := by
  refine Att.attach_call hn hdf fun w s0 s1 mg mb fa o pm cd doc a vs ns Gr Y ho hd hcd hmg hobj hints hlen hg => ?_
  have inK := hY w _ Y
  obtain ⟨mm, ⟨o, es, ep, h1, h2, _⟩, _⟩ := (Gr.T.seer himp).mods
  exact law_g inK Gr.T.g Gr.T.b Gr.T.builtins Gr.T.nolimit hg hobj hints (Nat.le_trans hlen hn2) hr ⟨o, es, ep, h1, h2⟩ (G w mg _ inK Gr.T.g) hmg (ans ns hlen)
end Sf
/-! Sf10: minus, reversed slices, equality with empties, pairs stored at once, written dicts, repr with empty dicts. -/
namespace Sf
open L2 PySem PySem.Spec PyProof.Rows

/-! ### -e -/
def negK (d : D) (S : Sto) : Option (Rz Out) := match d with
  | .int i => some (.ok (.val (.int (-i))) S)
  | _ => none
def dNeg (f : Dn Out) : Dn Out := fun ρ S => bnd (stl f ρ S) negK
section
variable {X : Cx} {W : WX'} {e : Expr} {f : Dn Out} {pos : Pos}
theorem d_neg (h : Pe X W e f) : Pe X W (.UnaryOp .USub e pos) (dNeg f) := by
  refine pe_imp (pe_un un_neg h.d) fun σ H Q q => ?_
  refine tg1 (R2 := RO X.K X.mg) (g := fun _ => negK) sh_O q fun x _ H1 ρ S1 F1 m1 d sl ok1 rx A => ?_
  match d, rx, A with
  | .int i, rx, A =>
    cases rx
    exact ⟨i, rfl, A _ H1 F1 m1 (Stp.refl ..) ok1 (.int (-i))⟩
  | .non, _, A => exact A.elim
  | .bl _, _, A => exact A.elim
  | .str _, _, A => exact A.elim
  | .tup _, _, A => exact A.elim
  | .lst _, _, A => exact A.elim
  | .fls _, _, A => exact A.elim
  | .emp, _, A => exact A.elim
  | .ref _, _, A => exact A.elim

/-! ### xs[::-1] -/
def revK (d : D) (S : Sto) : Option (Rz Out) := match view S d with
  | some ds => some (.ok (.own (.lst ds.reverse)) S)
  | none => none
def dRevL (f : Dn Out) : Dn Out := fun ρ S => bnd (stl f ρ S) revK
theorem d_revL {k : Nat} {p1 p2 p3 : Pos} (h : Pe X W e f) : Pe X W (.Subscript e (.Slice none none (some (.UnaryOp .USub (.Constant (.int 1) k p1) p2)) p3) pos) (dRevL f) := by
  refine pe_imp (pe_revL h.d) fun σ H Q q => ?_
  refine tg1 (R2 := RO X.K X.mg) (g := fun _ => revK) sh_O q fun x _ H1 ρ S1 F1 m1 d sl ok1 rx A => ?_
  unfold revK at A
  match e : view S1 d, A with
  | none, A => exact A.elim
  | some ds, A =>
    obtain ⟨a, xs, rfl, hs, hr⟩ := view_ok ok1 rx e
    refine ⟨a, xs, rfl, hs, fun p hp => ?_⟩
    obtain ⟨k, st⟩ := ok1.new (o := .lst xs.reverse) hp
    exact A (.ref p) _ _ _ st k ⟨p, rfl, hp, ok1.fnone hp, ok1.notin hp, xs.reverse, upd_same, hr.reverse⟩
end

/-! ### == where one side is empty -/
theorem viewT_inv {d : D} {xs : List D} (h : viewT d = some xs) : d = .tup xs := by
  cases d <;> first | (cases h; rfl) | cases h
def eqE (S : Sto) (a b : D) : Option Bool :=
  match viewT (topd S a), viewT (topd S b) with
  | some xs, some ys => if xs.isEmpty || ys.isEmpty then some (xs.isEmpty && ys.isEmpty) else none
  | _, _ => match view S a, view S b with
    | some xs, some ys => if xs.length ≠ ys.length then some false else none
    | _, _ => none
def eqX : O2 := fun S a b => match eqD S a b with
  | some r => some r
  | none => (eqE S a b).map fun c => .val (.bl c)
def neX : O2 := fun S a b => match neD S a b with
  | some r => some r
  | none => match view S a, view S b with
    | some xs, some ys => if xs.length ≠ ys.length then some (.val (.bl true)) else none
    | _, _ => none
section
variable {X : Cx}
theorem op_eqX (hu : X.A.units + 64 < cLine) : OpR X (compareOp .Eq) (rOf X.K X.mg eqX) := by
  intro pins s σ H x y v u Q I rx ry ⟨S, F, m, a, b, r, ok, ra, rb, e, q⟩
  unfold eqX at e
  split at e
  · rename_i r' e'
    exact op_eqD' hu pins s σ H x y v u Q I rx ry ⟨S, F, m, a, b, r, ok, ra, rb, by rw [e', e], q⟩
  · cases e1 : eqE S a b with
    | none => rw [e1] at e; cases e
    | some c =>
      rw [e1] at e
      cases e
      have q1 := q (.bl c) H F m (Stp.refl ..) ok (.bl c)
      unfold eqE at e1
      split at e1
      · rename_i xs ys ea eb
        split at e1
        · rename_i hc
          cases e1
          obtain ⟨F1, s1, r1⟩ := topd_rep ok ra
          obtain ⟨F2, s2, r2⟩ := topd_rep ok rb
          rw [viewT_inv ea] at r1
          rw [viewT_inv eb] at r2
          cases r1 with
          | tup h1 t1 =>
            cases r2 with
            | tup h2 t2 =>
              cases rx; cases ry
              obtain ⟨i1, v1, ⟨o1, ho1, hc1, n1, hd1⟩, _⟩ := I.tuple (same_t s1 h1)
              obtain ⟨i2, v2, ⟨o2, ho2, hc2, n2, hd2⟩, _⟩ := I.tuple (same_t s2 h2)
              have l1 : i1.length = xs.length := by rw [← v1.length, t1.length]
              have l2 : i2.length = ys.length := by rw [← v2.length, t2.length]
              have hmin : min i1.length i2.length = 0 := by
                rw [l1, l2]
                rcases Bool.or_eq_true_iff.mp hc with z | z
                · rw [List.isEmpty_iff.mp z]; simp
                · rw [List.isEmpty_iff.mp z]; simp
              refine SeqAt.eq_tupleAt (e := fun _ => true) ⟨o1, ho1, hc1, n1, hd1⟩ ⟨o2, ho2, hc2, n2, hd2⟩ (by omega) (fun j g1 g2 => ?_) ?_
              · exfalso
                rw [List.size_toArray] at g1 g2
                omega
              · refine ⟨.bl _, H, I, rfl, ?_⟩
                have : ((List.range (min i1.toArray.size i2.toArray.size)).all (fun _ => true) && i1.toArray.size == i2.toArray.size) = (xs.isEmpty && ys.isEmpty) := by
                  rw [List.size_toArray, List.size_toArray, hmin, l1, l2]
                  rcases Bool.or_eq_true_iff.mp hc with z | z
                  · rw [List.isEmpty_iff.mp z]
                    cases ys <;> rfl
                  · rw [List.isEmpty_iff.mp z]
                    cases xs <;> rfl
                rw [this]
                exact q1
        · cases e1
      · split at e1
        · rename_i xs ys ea eb
          split at e1
          · rename_i hc
            cases e1
            obtain ⟨p1, v1, rfl, h1, t1⟩ := view_ok ok ra ea
            obtain ⟨p2, v2, rfl, h2, t2⟩ := view_ok ok rb eb
            cases rx; cases ry
            obtain ⟨i1, w1, ht1, _⟩ := I.list h1
            obtain ⟨i2, w2, ht2, _⟩ := I.list h2
            refine SeqAt.eq_list_lengthsAt ht1.isList ht2.isList ?_ (by omega) ⟨.bl false, H, I, rfl, q1⟩
            rw [List.size_toArray, List.size_toArray, ← w1.length, ← w2.length, t1.length, t2.length]
            exact bne_iff_ne.mpr hc
          · cases e1
        · cases e1
theorem op_neX (hu : X.A.units + 64 < cLine) : OpR X (compareOp .NotEq) (rOf X.K X.mg neX) := by
  intro pins s σ H x y v u Q I rx ry ⟨S, F, m, a, b, r, ok, ra, rb, e, q⟩
  unfold neX at e
  split at e
  · rename_i r' e'
    exact op_neD' hu pins s σ H x y v u Q I rx ry ⟨S, F, m, a, b, r, ok, ra, rb, by rw [e', e], q⟩
  · split at e
    · rename_i xs ys ea eb
      split at e
      · rename_i hc
        cases e
        have q1 := q (.bl true) H F m (Stp.refl ..) ok (.bl true)
        obtain ⟨p1, v1, rfl, h1, t1⟩ := view_ok ok ra ea
        obtain ⟨p2, v2, rfl, h2, t2⟩ := view_ok ok rb eb
        cases rx; cases ry
        obtain ⟨i1, w1, ht1, _⟩ := I.list h1
        obtain ⟨i2, w2, ht2, _⟩ := I.list h2
        refine SeqAt.RcNeAt.lists_lengths ht1.isList ht2.isList ?_ (by omega) X.prog X.w X.xe _ ⟨.bl true, H, I, rfl, q1⟩
        rw [List.size_toArray, List.size_toArray, ← w1.length, ← w2.length, t1.length, t2.length]
        exact bne_iff_ne.mpr hc
      · cases e
    · cases e
end

/-! ### a, b = x, y at once -/
def sPar (i j : Nat) (g : Dn (List D)) : Sn := fun ρ S => bnS (g ρ S) ρ fun ds S1 => match ds with
  | [a, b] => some (.nx ((ρ.set i (some a)).set j (some b)) S1)
  | _ => none
def sPar3 (i j l : Nat) (g : Dn (List D)) : Sn := fun ρ S => bnS (g ρ S) ρ fun ds S1 => match ds with
  | [a, b, c] => some (.nx (((ρ.set i (some a)).set j (some b)).set l (some c)) S1)
  | _ => none
theorem s_par {X : Cx} {W : WX'} {i j : Nat} {x y : Str} {a b : Expr} {g : Dn (List D)} {px py pt pos : Pos} {kt k2 pt2} (hc : X.calm = true) (nd : X.N.Nodup) (hi : X.N[i]? = some x) (hj : X.N[j]? = some y) (hij : i ≠ j)
    (hx : X.env.scope.names.lookup x = some .local) (hy : X.env.scope.names.lookup y = some .local) (ha : Pa X W [a, b] g)
    (hw : swappedStores [.Tuple [.Name x px, .Name y py] kt pt] (.Tuple [a, b] k2 pt2) X.env = pure (some [x, y]))
    (hs : swapsWithSole [.Tuple [.Name x px, .Name y py] kt pt] (.Tuple [a, b] k2 pt2) pos.line X.env = pure false := by rfl) :
    Ps X W (.Assign [.Tuple [.Name x px, .Name y py] kt pt] (.Tuple [a, b] k2 pt2) pos) (sPar i j g) := by
  refine ps_imp (ps_par hc nd hi hj hij hx hy ha hw hs) fun Dd σ H z => ?_
  refine ts1 (R1 := RL X.K) (g := fun ρ ds S1 => match ds with
    | [a, b] => some (Fl.nx ((ρ.set i (some a)).set j (some b)) S1)
    | _ => none) z fun vs _ H1 ρ S1 F1 m1 ds sl ok r A _ _ => ?_
  match ds, r, A with
  | [a, b], .cons r1 (.cons r2 .nil), A => exact ⟨_, _, rfl, A _ H1 F1 m1 (Stp.refl ..) ok ((sl.put i r1).put j r2)⟩
  | [], _, A => exact A.elim
  | [_], _, A => exact A.elim
  | _ :: _ :: _ :: _, _, A => exact A.elim
theorem s_par3 {X : Cx} {W : WX'} {i j l : Nat} {x y z : Str} {a b c : Expr} {g : Dn (List D)} {px py pz pt pos : Pos} {kt k2 pt2} (hc : X.calm = true) (nd : X.N.Nodup) (hi : X.N[i]? = some x) (hj : X.N[j]? = some y) (hl : X.N[l]? = some z) (hij : i ≠ j) (hil : i ≠ l) (hjl : j ≠ l)
    (hx : X.env.scope.names.lookup x = some .local) (hy : X.env.scope.names.lookup y = some .local) (hz : X.env.scope.names.lookup z = some .local) (ha : Pa X W [a, b, c] g)
    (hw : swappedStores [.Tuple [.Name x px, .Name y py, .Name z pz] kt pt] (.Tuple [a, b, c] k2 pt2) X.env = pure (some [x, y, z]))
    (hs : swapsWithSole [.Tuple [.Name x px, .Name y py, .Name z pz] kt pt] (.Tuple [a, b, c] k2 pt2) pos.line X.env = pure false := by rfl) :
    Ps X W (.Assign [.Tuple [.Name x px, .Name y py, .Name z pz] kt pt] (.Tuple [a, b, c] k2 pt2) pos) (sPar3 i j l g) := by
  refine ps_imp (ps_par3 hc nd hi hj hl hij hil hjl hx hy hz ha hw hs) fun Dd σ H z => ?_
  refine ts1 (R1 := RL X.K) (g := fun ρ ds S1 => match ds with
    | [a, b, c] => some (Fl.nx (((ρ.set i (some a)).set j (some b)).set l (some c)) S1)
    | _ => none) z fun vs _ H1 ρ S1 F1 m1 ds sl ok r A _ _ => ?_
  match ds, r, A with
  | [a, b, c], .cons r1 (.cons r2 (.cons r3 .nil)), A => exact ⟨_, _, _, rfl, A _ H1 F1 m1 (Stp.refl ..) ok (((sl.put i r1).put j r2).put l r3)⟩
  | [], _, A => exact A.elim
  | [_], _, A => exact A.elim
  | [_, _], _, A => exact A.elim
  | _ :: _ :: _ :: _ :: _, _, A => exact A.elim

/-! ### a written dict -/
/-- an entry of a written dict, its data -/
def EntD (K : PySem.W.Frag) (e : DictEntry) (p : Str × D) : Prop := (∃ t, e.key = .str p.1 t) ∧ ∃ v, RelV v e.val ∧ ∀ F m, Rep K F m v p.2
structure WD (K : PySem.W.Frag) (w : World) (d : Addr) (tbl : List (Str × D)) : Prop where
  ex : ∃ (es : Array DictEntry) (n : Nat), K.lookup d = some ⟨.type "dict", none, .dict es n, #[]⟩ ∧ PySem.W.KeysLit w.params es.toList ∧ (d == sysModules) = false ∧ Paired (EntD K) es.toList tbl
theorem find_wd {K : PySem.W.Frag} (z : Str) : ∀ {es : List DictEntry} {tbl : List (Str × D)}, Paired (EntD K) es tbl →
    match tbl.lookup z with
    | none => es.find? (fun d => Value.isStrOf z d.key) = none
    | some d => ∃ e v, es.find? (fun d => Value.isStrOf z d.key) = some e ∧ RelV v e.val ∧ ∀ F m, Rep K F m v d
  | _, _, .nil => rfl
  | e :: es, (k, d) :: tbl, .cons h t => by
    obtain ⟨⟨tk, hk⟩, v, rv, rp⟩ := h
    have ih := find_wd z t
    have hb : Value.isStrOf z e.key = decide (k = z) := by
      have hk' : e.key = .str k tk := hk
      rw [hk']
      show (k == z) = _
      by_cases h : k = z
      · subst h; simp
      · simp [h]
    rw [List.lookup_cons, List.find?_cons, hb]
    by_cases hz : z = k
    · subst hz
      rw [beq_self_eq_true, decide_eq_true rfl]
      exact ⟨e, v, rfl, rv, rp⟩
    · rw [beq_eq_false_iff_ne.mpr hz, decide_eq_false (fun q => hz q.symm)]
      exact ih
def kgetK (tbl : List (Str × D)) (ds : List D) (S : Sto) : Option (Rz Out) := match ds with
  | [.str z, d] => some (.ok (.val ((tbl.lookup z).getD d)) S)
  | _ => none
def dKget (tbl : List (Str × D)) (g : Dn (List D)) : Dn Out := fun ρ S => bnd (g ρ S) (kgetK tbl)
theorem d_kget {X : Cx} {W : WX'} {x : Str} {d : Addr} {tbl : List (Str × D)} {e : Expr} {es : List Expr} {g : Dn (List D)} {p apos cpos : Pos} (T : WD X.K X.w d tbl) (hg : Gl X x) (hm : X.mg x = some (.ref d)) (ha : Pa X W (e :: es) g)
    (hbase : attributeBase (.Name x p) "get" X.env (eval (.Name x p) X.env) = eval (.Name x p) X.env := by rfl)
    (hfew : ((backTo cpos (starEach (e :: es) X.env)).all (fun x => !x.1) && (backToKw cpos (keywordEach [] X.env)).all (fun x => x.1.isSome)
      && decide ((e :: es).length + ([] : List Keyword).length + (if ([] : List Keyword).isEmpty then 0 else 1) < 30)) = true := by rfl)
    (hline : (apos.endLine == cpos.line) = true := by rfl) (hs : starEach (e :: es) X.env = (false, eval e X.env) :: starEach es X.env := by rfl) (hplain : (backTo cpos (starEach es X.env)).any (·.1) = false := by rfl) (hdb : (x == ("__debug__" : Str)) = false := by decide) :
    Pe X W (.Call (.Attribute (.Name x p) "get" apos) (e :: es) [] cpos) (dKget tbl g) := by
  obtain ⟨es0, n, look, lit, low, pr⟩ := T.ex
  refine ⟨fun pins s σ H Q I h => ?_⟩
  have hmap := fun (s1 : Shared) (k : X.K.In s1.heap) => PySem.W.mapOf_K (prog := X.prog) (w := X.w) k look lit
  refine wpAny_Call_method_late hbase hfew hline rfl (ld_glob I hg hm ?_ hdb)
  refine ⟨"dict", "dict.get", F.plainAttrs_dict, F.slot_dict_get, F.type_dict_get, (hmap s I.kIn).typeIs, (hmap s I.kIn).noDict, ?_⟩
  have key : Tg X.K X.mg (RL X.K) W g σ H fun vs H1 => ∃ z y, vs = [.str z, y] ∧ ∀ v, ((∃ d, tbl.lookup z = some d ∧ ∀ F m, Rep X.K F m v d) ∨ (tbl.lookup z = none ∧ v = y)) → Q v H1 := by
    refine tg1 (R2 := RO X.K X.mg) (g := fun _ => kgetK tbl) sh_O h fun vs _ H1 ρ S1 F1 m1 ds sl ok1 rx A => ?_
    unfold kgetK at A
    split at A
    · rename_i z d
      match rx with
      | .cons (.str _) (.cons r2 .nil) =>
        refine ⟨z, _, rfl, fun v hv => A v H1 F1 m1 (Stp.refl ..) ok1 ?_⟩
        rcases hv with ⟨d', hl, hr⟩ | ⟨hl, rfl⟩
        · rw [hl]
          exact hr F1 m1
        · rw [hl]
          exact r2
    · exact A.elim
  have hA := ha.run cpos pins s σ H _ I key
  rw [hs] at hA ⊢
  refine Calls.callWith_builtin (by show (false || (backTo cpos (starEach es X.env)).any (·.1)) = false; rw [hplain] <;> rfl) (Calls.evalArgs_plain ?_)
  refine thn hA fun us s2 ⟨vs, H2, I2, r2, z, y, e2, q2⟩ => ?_
  subst e2
  obtain ⟨u0, u3, rfl, r1, r3⟩ : ∃ u0 u3, us = [u0, u3] ∧ RelV (.str z) u0 ∧ RelV y u3 := by
    cases r2 with
    | cons r1 r2 =>
      cases r2 with
      | cons r3 r4 =>
        cases r4
        exact ⟨_, _, rfl, r1, r3⟩
  · obtain ⟨t, rfl⟩ := r1
    have fw := find_wd (K := X.K) z pr
    have fb : findBy Value.isStrOf es0 z = (es0.toList.find? (fun d => Value.isStrOf z d.key)).map (·.val) := by
      unfold findBy
      rw [← Array.find?_toList]
    have fin : ∃ v, RelV v ((findBy Value.isStrOf es0 z).getD u3) ∧ Q v H2 := by
      rw [fb]
      cases hl : tbl.lookup z with
      | none =>
        rw [hl] at fw
        have fw : es0.toList.find? (fun d => Value.isStrOf z d.key) = none := fw
        rw [fw]
        exact ⟨y, r3, q2 y (.inr ⟨hl, rfl⟩)⟩
      | some d' =>
        rw [hl] at fw
        obtain ⟨e, v, he, rv, rp⟩ := fw
        rw [he]
        exact ⟨v, rv, q2 v (.inl ⟨d', hl, rp⟩)⟩
    obtain ⟨v, rv, qv⟩ := fin
    have mt := meets_dict_get_default (PySem.strKind X.prog X.w) d (PySem.strKind_is X.prog X.w z t) low u3
    exact call_meetsIn F.slot_dict_get (hmap s2 I2.kIn).typeIs F.entry_dict_get (F.args_dict_get_3 _ _ _) mt ⟨_, hmap s2 I2.kIn, ⟨v, H2, I2.tok _, rv, qv⟩⟩

/-! ### repr of data that may hold empty dicts -/
section
variable {X : Cx} {F : Hp} {m : List Addr} {pins : List (Addr × Obj)} {σ : L2.St} {H : Hp} {s : Shared} {S : Sto}
theorem sys_off (Z : SysB X.base) (I : Inv X pins σ H s) {a : Addr} {o : Obj} {its : Array Value} {n : Nat} (h : s.heap.get? a = some o) (hd : o.data = .seq its n) : a ≠ sysModules := fun e => by
  subst e
  obtain ⟨o', es, ep, h1, h2⟩ := Z
  have z := I.bk _ _ h1
  rw [h] at z
  cases z
  rw [hd] at h2
  cases h2
mutual
theorem rep_readsZ (Z : SysB X.base) (I : Inv X pins σ H s) (sub : Same F H) : ∀ (d : D) (v : V) (u : Value), Rep X.K F m v d → d.plain = true → RelV v u → ∃ as, Reads s.heap u d.py as ∧ sysModules ∉ as
  | .non, _, _, h, _, r => by
    cases h; cases r
    exact ⟨_, Reads.none, by simp⟩
  | .bl b, _, _, h, _, r => by
    cases h; cases r
    exact ⟨_, Reads.bool b, by simp⟩
  | .int i, _, _, h, _, r => by
    cases h
    obtain ⟨t, rfl⟩ := r
    exact ⟨_, Reads.int i t, by simp⟩
  | .str x, _, _, h, _, r => by
    cases h
    obtain ⟨t, rfl⟩ := r
    exact ⟨_, Reads.str x t, by simp⟩
  | .tup ds, _, _, h, p, r => by
    cases h with
    | tup hs ha =>
      cases r
      obtain ⟨its, rv, ⟨o, ho, hc, n, hd⟩, _⟩ := I.tuple (same_t sub hs)
      obtain ⟨as, hr, off⟩ := repl_readsZ Z I sub ds _ its ha p rv
      exact ⟨_, Reads.tuple ho hc hd hr, off⟩
  | .lst ds, _, _, h, p, r => by
    cases h with
    | lst hs ha =>
      cases r
      obtain ⟨its, rv, ⟨o, n, ho, hc, _, hd⟩, _⟩ := I.list (SqL.of (sub _ _ hs))
      obtain ⟨as, hr, off⟩ := repl_readsZ Z I sub ds _ its ha p rv
      exact ⟨_, Reads.list ho hc hd hr, fun z => (List.mem_cons.mp z).elim (fun q => sys_off Z I ho hd q.symm) off⟩
  | .fls ds, _, _, h, p, r => by
    cases h with
    | fls hs ha =>
      cases r
      obtain ⟨its, rv, ⟨o, n, ho, hc, _, hd⟩, _⟩ := I.list (same_l sub hs)
      obtain ⟨as, hr, off⟩ := repl_readsZ Z I sub ds _ its ha p rv
      exact ⟨_, Reads.list ho hc hd hr, fun z => (List.mem_cons.mp z).elim (fun q => sys_off Z I ho hd q.symm) off⟩
  | .emp, _, _, h, _, r => by
    cases h with
    | emp hs =>
      cases r
      obtain ⟨_, low, vs, rel, o, es, ep, ho, hx, hd, he⟩ := dk_of I.hok (sub _ _ hs)
      cases rel
      have e0 : es.toList = [] := by
        match es.toList, he.2.1 with
        | [], _ => rfl
        | _ :: _, z => cases z
      refine ⟨_, Reads.dict ho hx.1 hd (by rw [e0]; exact .nil) (by rw [e0]; exact .nil), fun z => ?_⟩
      rcases List.mem_cons.mp z with q | q
      · rw [← q, beq_self_eq_true] at low
        cases low
      · simp at q
  | .ref _, _, _, _, p, _ => by cases p
theorem repl_readsZ (Z : SysB X.base) (I : Inv X pins σ H s) (sub : Same F H) : ∀ (ds : List D) (vs : List V) (us : List Value), RepL X.K F m vs ds → plainL ds = true → Vals vs us → ∃ as, ReadsAll s.heap us (pyL ds) as ∧ sysModules ∉ as
  | [], _, _, h, _, r => by
    cases h; cases r
    exact ⟨_, ReadsAll.nil, by simp⟩
  | d :: ds, _, _, h, p, r => by
    cases h with
    | cons h1 h2 =>
      cases r with
      | cons r1 r2 =>
        simp only [plainL, Bool.and_eq_true] at p
        obtain ⟨as, q1, o1⟩ := rep_readsZ Z I sub d _ _ h1 p.1 r1
        obtain ⟨bs, q2, o2⟩ := repl_readsZ Z I sub ds _ _ h2 p.2 r2
        exact ⟨_, ReadsAll.cons q1 q2, fun z => (List.mem_append.mp z).elim o1 o2⟩
end
end
def reprX : OC := fun S ds => match ds with
  | [d] => if d.flat = false ∧ (topd S d).plain = true ∧ (topd S d).py.showable = true ∧ (topd S d).py.depth ≤ 60 ∧ (topd S d).py.shown.length ≤ sizeLine then some (.val (.str (topd S d).py.shown)) else
    match d with
    | .int i => if i.natAbs.log2 < 1920 then some (.val (.str (toString i))) else none
    | _ => none
  | _ => none
theorem cl_reprX {X : Cx} (Z : SysB X.base) (hg : X.A.guards = some []) (hu : X.A.units + 64 < cLine) : CallR X (.builtin "repr") (rCl X.K X.mg reprX) := by
  intro pins s σ H xs us Q I rx ⟨S, F, m, ds, u, ok, r, e, q⟩
  unfold reprX at e
  split at e
  · cases r with
    | cons r1 r2 =>
      cases r2
      obtain ⟨u1, rfl, ru⟩ := vals1 rx
      split at e
      · rename_i hc
        cases e
        obtain ⟨h0, h1, h2, h4, h5⟩ := hc
        have hq := rof_val ok q (.str _)
        obtain ⟨F', s1, r3⟩ := topd_rep ok r1
        obtain ⟨as, q1, off⟩ := rep_readsZ Z I s1 _ _ _ r3 h1 ru
        obtain ⟨a, rfl⟩ : ∃ a, u1 = Value.ref a := by
          cases r1 <;> first | exact ⟨_, ru⟩ | cases h0
        exact PySem.repr_of_reads' q1 h2 (fun _ => off) hg (by omega) (fun _ _ z => z) (fun h' t tk hk => ⟨.str _, H, I.kept hk, ⟨t, rfl⟩, hq⟩) h5
      · split at e
        · split at e
          · rename_i hl
            cases e
            cases r1
            exact SkE.call_repr_int pins s σ H _ _ Q I rx ⟨_, rfl, hl, rof_val ok q (.str _)⟩
          · cases e
        · cases e
  · cases e
end Sf
/-! Sf11: short words for the printed derivations. -/
namespace Sf
open L2 PySem PySem.Spec PyProof.Rows

theorem bt_len : bootBuiltins "len" = some (.builtin "len") := by decide +kernel
theorem bt_all : bootBuiltins "all" = some (.builtin "all") := by decide +kernel
theorem bt_any : bootBuiltins "any" = some (.builtin "any") := by decide +kernel
theorem bt_sum : bootBuiltins "sum" = some (.builtin "sum") := by decide +kernel
theorem bt_max : bootBuiltins "max" = some (.builtin "max") := by decide +kernel
theorem bt_min : bootBuiltins "min" = some (.builtin "min") := by decide +kernel
theorem bt_abs : bootBuiltins "abs" = some (.builtin "abs") := by decide +kernel
theorem bt_repr : bootBuiltins "repr" = some (.builtin "repr") := by decide +kernel
theorem bt_int : bootBuiltins "int" = some (.type "int") := by decide +kernel
theorem bt_str : bootBuiltins "str" = some (.type "str") := by decide +kernel
theorem bt_list : bootBuiltins "list" = some (.type "list") := by decide +kernel
theorem bt_tuple : bootBuiltins "tuple" = some (.type "tuple") := by decide +kernel

theorem bt_bool : bootBuiltins "bool" = some (.type "bool") := by decide +kernel
theorem bt_dict : bootBuiltins "dict" = some (.type "dict") := by decide +kernel
theorem bt_isinstance : bootBuiltins "isinstance" = some (.builtin "isinstance") := by decide +kernel
/-- a look at the names of a def -/
def scB (N P : List Str) (sc : Scope) : Bool :=
  (decide (sc.kind = .function) && (!sc.isCoroutine && !sc.isGenerator)) && ((decide N.Nodup && decide (N.take P.length = P)) &&
    (P.all (fun y => sc.names.lookup y == some .local || sc.names.lookup y == some .cell) && sc.names.all (fun y => !(y.2 == .free))))
theorem sc_by {N P : List Str} {sc : Scope} (h : scB N P sc = true) : FnScope N P sc := by
  unfold scB at h
  rw [Bool.and_eq_true, Bool.and_eq_true, Bool.and_eq_true, Bool.and_eq_true, Bool.and_eq_true, Bool.and_eq_true] at h
  obtain ⟨⟨h1, h2, h3⟩, ⟨h4, h5⟩, h6, h7⟩ := h
  refine ⟨of_decide_eq_true h1, by simpa using h2, by simpa using h3, of_decide_eq_true h4, of_decide_eq_true h5, fun y hy => ?_, fun y hy e => ?_⟩
  · have := List.all_eq_true.mp h6 y hy
    rw [Bool.or_eq_true] at this
    exact this.imp eq_of_beq eq_of_beq
  · have := List.all_eq_true.mp h7 y hy
    rw [e] at this
    cases this
def GS (mg : Str → Option Value) (x s : Str) : Prop := ∃ t, mg x = some (.str s t)
def GI (mg : Str → Option Value) (x : Str) (i : Int) : Prop := ∃ t, mg x = some (.int i t)
section
variable {X : Cx} {W : WX'} {x s : Str} {i : Int} {pos : Pos}
theorem d_gS (h : GS X.mg x s) (hg : Gl X x) (hd : (x == ("__debug__" : Str)) = false := by decide) : Pe X W (.Name x pos) (dC (.str s)) := by
  obtain ⟨t, h⟩ := h
  exact d_glob (v := .str s) hg h ⟨t, rfl⟩ (fun _ _ => .str s) hd
theorem d_gI (h : GI X.mg x i) (hg : Gl X x) (hd : (x == ("__debug__" : Str)) = false := by decide) : Pe X W (.Name x pos) (dC (.int i)) := by
  obtain ⟨t, h⟩ := h
  exact d_glob (v := .int i) hg h ⟨t, rfl⟩ (fun _ _ => .int i) hd
end
theorem dk_mk {K : PySem.W.Frag} {mg : Str → Option Value} {h : Heap} {x : Str} {st : Stmt} {ps : List Str} {f : Addr} {oc kV doc pm cdv ct : Value} {od an : Option Addr} {osl : Array (Option Value)} (inK : K.In h) (glob : h.Ns mainGlobals mg)
    (bind : ∀ (kV doc pm : Value) (an : Option Addr) (cdv ct : Value) (us : List Value), us.length = ps.length → bindArgs (PySem.W.fnOf x x (L2.defArgs st) (L2.defBody st) (L2.defScope st) .none kV doc pm an cdv ct) ⟨us, []⟩ = pure (ps.zip us))
    (nm : PySem.W.nsIn K mainGlobals x = some (some (.ref f))) (look : K.lookup f = some ⟨oc, od, .func (PySem.W.fnOf x x (L2.defArgs st) (L2.defBody st) (L2.defScope st) .none kV doc pm an cdv ct), osl⟩)
    (code : PySem.W.codeIn K cdv x = true) (keep : PySem.W.keepIn K (.ref f) = true) : Dk K mg x st ps :=
  ⟨f, _, fun_mk look code keep, PySem.W.mg_of inK glob nm, (fun_mk look code keep).binds bind⟩
theorem entI {K : PySem.W.Frag} {e : DictEntry} {x : Str} {i : Int} {t u : Tok} (hk : e.key = .str x t) (hv : e.val = .int i u) : EntD K e (x, .int i) :=
  ⟨⟨t, hk⟩, .int i, ⟨u, hv⟩, fun _ _ => .int i⟩
theorem gs_mk {K : PySem.W.Frag} {mg : Str → Option Value} {h : Heap} {x s : Str} {t : Tok} (inK : K.In h) (glob : h.Ns mainGlobals mg) (nm : PySem.W.nsIn K mainGlobals x = some (some (.str s t))) : GS mg x s := ⟨t, PySem.W.mg_of inK glob nm⟩
theorem gi_mk {K : PySem.W.Frag} {mg : Str → Option Value} {h : Heap} {x : Str} {i : Int} {t : Tok} (inK : K.In h) (glob : h.Ns mainGlobals mg) (nm : PySem.W.nsIn K mainGlobals x = some (some (.int i t))) : GI mg x i := ⟨t, PySem.W.mg_of inK glob nm⟩
end Sf
/-! Sf12: str.index, text * int, dict.get. -/
namespace Sf
open L2 PySem PySem.Spec PyProof.Rows
section
variable {X : Cx}
def sindexD : OM := fun S a ds => match a, ds with
  | .str x, [.str y] => match Builtin.Str.occurrences x y 0 x.length 1 with
    | i :: _ => some (.val (.int (i : Nat)), S)
    | [] => none
  | _, _ => none
theorem mt_sindexD : MtR X "str.index" (rMt X.K X.mg sindexD) := by
  refine MtR.imp mt_sindex fun x xs H Q h => ?_
  obtain ⟨S, F, m, a, ds, u, S', ok, ra, rds, e, q⟩ := h
  unfold sindexD at e
  split at e
  · split at e
    · rename_i i r ho
      cases e
      cases ra
      cases rds with
      | cons r1 r2 =>
        cases r2
        cases r1
        exact ⟨_, _, i, r, rfl, rfl, ho, q _ H F m (Stp.refl ..) ok (.int _)⟩
    · cases e
  · cases e
def mulX : O2 := fun S a b => match a, b with
  | .str x, .int n => if 0 ≤ n ∧ n ≤ 1000000 ∧ x.length ≤ 16 then some (.val (.str (Txt.mul x n))) else none
  | a, b => mulD S a b
theorem mul_fits {x : Str} {n : Int} (h : 0 ≤ n ∧ n ≤ 1000000 ∧ x.length ≤ 16) : MulOk x n := by
  obtain ⟨h1, h2, h3⟩ := h
  refine ⟨?_, fun g1 g2 => ?_, fun g1 g2 => ?_⟩
  · rw [Bool.or_eq_false_iff]
    exact ⟨decide_eq_false (by omega), decide_eq_false (by omega)⟩
  · have : (16 : Int) ≤ (2 ^ 63 - 1) / n := by
      refine (Int.le_ediv_iff_mul_le (by omega)).mpr ?_
      omega
    omega
  · have h4 : x.length * n.toNat ≤ 16 * 1000000 := Nat.mul_le_mul h3 (by omega)
    show decide _ = false
    exact decide_eq_false (by show ¬ _ > (16777216 : Nat); omega)
theorem op_mulX : OpR X (binaryOp .Mult) (rOf X.K X.mg mulX) := by
  intro pins s σ H x y v u Q I rx ry ⟨S, F, m, a, b, r, ok, ra, rb, e, q⟩
  unfold mulX at e
  split at e
  · split at e
    · rename_i z n hc
      cases e
      cases ra; cases rb
      obtain ⟨t, rfl⟩ := rx
      obtain ⟨t2, rfl⟩ := ry
      exact SB.mul (mul_fits hc) fun t' k => ⟨.str _, H, I.tok _, ⟨_, rfl⟩, q _ H F m (Stp.refl ..) ok (.str _)⟩
    · cases e
  · exact op_mulD pins s σ H x y v u Q I rx ry ⟨S, F, m, _, _, r, ok, ra, rb, e, q⟩
/-- d.get(k), d.get(k, x) -/
def getB (kvs : List (Key × D)) (b d : D) : Option D := (keyD b).map fun k => (getD' kvs k).getD d
def dgetD : OM := fun S a ds => match viewD S a, ds with
  | some kvs, [b] => (getB kvs b .non).map fun d => (.val d, S)
  | some kvs, [b, x] => (getB kvs b x).map fun d => (.val d, S)
  | _, _ => none
theorem mt_dgetD (hu : X.A.units + 1 < cLine) : MtR X "dict.get" (rMt X.K X.mg dgetD) := by
  intro pins s σ H x xs v us Q I rx rxs ⟨S, F, m, a, ds, u, S', ok, ra, rds, e, q⟩
  unfold dgetD at e
  split at e
  · rename_i kvs b e1
    obtain ⟨p, ks, rfl, h1, h2⟩ := viewD_ok ok ra e1
    unfold getB at e
    cases ek : keyD b with
    | none => rw [ek] at e; cases e
    | some k =>
      rw [ek] at e
      cases e
      cases rds with
      | cons r1 r2 =>
        cases r2
        cases rxs with
        | cons g1 g2 =>
          cases g2
          cases rx
          have hk := key_ok r1 ek
          rcases pr_get k h2 with ⟨l1, l2⟩ | ⟨v0, d0, l1, l2, l3⟩
          · refine d_get1 (o := none) hu I (.inl ⟨ks, k, Rd.of h1, hk, l1.symm⟩) g1 fun w' s' I' rw' => ?_
            simp only [l2] at q
            exact ⟨.non, H, I', rw', q _ H F m (Stp.refl ..) ok .non⟩
          · refine d_get1 (o := some v0) hu I (.inl ⟨ks, k, Rd.of h1, hk, l1.symm⟩) g1 fun w' s' I' rw' => ?_
            simp only [l2] at q
            exact ⟨v0, H, I', rw', q _ H F m (Stp.refl ..) ok l3⟩
  · rename_i kvs b x0 e1
    obtain ⟨p, ks, rfl, h1, h2⟩ := viewD_ok ok ra e1
    unfold getB at e
    cases ek : keyD b with
    | none => rw [ek] at e; cases e
    | some k =>
      rw [ek] at e
      cases e
      cases rds with
      | cons r1 r2 =>
        cases r2 with
        | cons r3 r4 =>
          cases r4
          cases rxs with
          | cons g1 g2 =>
            cases g2 with
            | cons g3 g4 =>
              cases g4
              cases rx
              have hk := key_ok r1 ek
              rcases pr_get k h2 with ⟨l1, l2⟩ | ⟨v0, d0, l1, l2, l3⟩
              · refine d_get2 (o := none) hu I (.inl ⟨ks, k, Rd.of h1, hk, l1.symm⟩) g1 g3 fun w' s' I' rw' => ?_
                simp only [l2] at q
                exact ⟨_, H, I', rw', q _ H F m (Stp.refl ..) ok r3⟩
              · refine d_get2 (o := some v0) hu I (.inl ⟨ks, k, Rd.of h1, hk, l1.symm⟩) g1 g3 fun w' s' I' rw' => ?_
                simp only [l2] at q
                exact ⟨v0, H, I', rw', q _ H F m (Stp.refl ..) ok l3⟩
  · cases e
end
end Sf
/-! Sf13: == of lists of texts, whatever the texts. -/
namespace Sf
open L2 PySem PySem.Spec PyProof.Rows
def eqSB (S : Sto) (a b : D) : Option Bool := match (view S a).bind strsD, (view S b).bind strsD with
  | some xs, some ys => some (decide (xs = ys))
  | _, _ => none
def eqY : O2 := fun S a b => match eqSB S a b with
  | some c => some (.val (.bl c))
  | none => eqX S a b
def neY : O2 := fun S a b => match eqSB S a b with
  | some c => some (.val (.bl (!c)))
  | none => neX S a b
theorem vals_strs : ∀ {xs : List Str} {its : List Value}, Vals (xs.map V.str) its → ∀ (j : Nat) (h : j < its.length), ∃ t, its[j] = .str (xs.getD j "") t
  | [], _, .nil, j, h => absurd h (by simp)
  | x :: xs, _, .cons r t, 0, h => by
    obtain ⟨k, e⟩ := r
    exact ⟨k, e⟩
  | x :: xs, _, .cons r t, j + 1, h => by
    obtain ⟨k, e⟩ := vals_strs t j (by simpa using h)
    exact ⟨k, by simpa using e⟩
theorem all_str : ∀ (xs ys : List Str), xs.length = ys.length → ((List.range xs.length).all fun j => xs.getD j "" == ys.getD j "") = decide (xs = ys)
  | [], [], _ => rfl
  | x :: xs, y :: ys, h => by
    have ih := all_str xs ys (by simpa using h)
    rw [List.length_cons, List.range_succ_eq_map, List.all_cons, List.all_map]
    have e : ((List.range xs.length).all ((fun j => (x :: xs).getD j "" == (y :: ys).getD j "") ∘ Nat.succ)) = decide (xs = ys) := by
      rw [← ih]
      congr 1
    rw [e]
    show (x == y && decide (xs = ys)) = decide (x :: xs = y :: ys)
    by_cases h1 : x = y
    · subst h1
      by_cases h2 : xs = ys
      · subst h2
        simp
      · simp [h2]
    · simp [h1]
section
variable {X : Cx}
theorem eqSB_go {K : PySem.W.Frag} {mg : Str → Option Value} {H F : Hp} {m : List Addr} {S : Sto} (ok : SOk K mg H F m S) {x y : V} {a b : D} {c : Bool} (ra : Rep K F m x a) (rb : Rep K F m y b) (e : eqSB S a b = some c) :
    ∃ (p q : Addr) (xs ys : List Str), x = .ref p ∧ y = .ref q ∧ SqL K H p (xs.map V.str) ∧ SqL K H q (ys.map V.str) ∧ c = decide (xs = ys) := by
  unfold eqSB at e
  split at e
  · rename_i xs ys h1 h2
    cases e
    obtain ⟨ds, v1, s1⟩ := Option.bind_eq_some_iff.mp h1
    obtain ⟨es, v2, s2⟩ := Option.bind_eq_some_iff.mp h2
    obtain ⟨p, vs, rfl, l1, r1⟩ := view_ok ok ra v1
    obtain ⟨q, ws, rfl, l2, r2⟩ := view_ok ok rb v2
    have e1 := strsD_ok r1 s1
    have e2 := strsD_ok r2 s2
    subst e1 e2
    exact ⟨p, q, xs, ys, rfl, rfl, l1, l2, rfl⟩
  · cases e
theorem str_eqs {pins : List (Addr × Obj)} {σ : L2.St} {H : Hp} {s : Shared} {p q : Addr} {xs ys : List Str} (I : Inv X pins σ H s) (l1 : SqL X.K H p (xs.map V.str)) (l2 : SqL X.K H q (ys.map V.str)) :
    ∃ i1 i2 : List Value, s.heap.IsList p i1.toArray ∧ s.heap.IsList q i2.toArray ∧ i1.length = xs.length ∧ i2.length = ys.length ∧
      ∀ j (h1 : j < i1.toArray.size) (h2 : j < i2.toArray.size), SeqAt.EqAt X.A.in1 s i1.toArray[j] i2.toArray[j] (xs.getD j "" == ys.getD j "") := by
  obtain ⟨i1, w1, t1, _⟩ := I.list l1
  obtain ⟨i2, w2, t2, _⟩ := I.list l2
  refine ⟨i1, i2, t1.isList, t2.isList, by rw [← w1.length, List.length_map], by rw [← w2.length, List.length_map], fun j h1 h2 => ?_⟩
  rw [List.size_toArray] at h1 h2
  obtain ⟨k1, e1⟩ := vals_strs w1 j h1
  obtain ⟨k2, e2⟩ := vals_strs w2 j h2
  have g1 : i1.toArray[j] = .str (xs.getD j "") k1 := e1
  have g2 : i2.toArray[j] = .str (ys.getD j "") k2 := e2
  rw [g1, g2]
  exact SeqAt.EqAt.str_str (xs.getD j "") k1 (ys.getD j "") k2
theorem op_eqY (hu : X.A.units + 64 < cLine) : OpR X (compareOp .Eq) (rOf X.K X.mg eqY) := by
  intro pins s σ H x y v u Q I rx ry ⟨S, F, m, a, b, r, ok, ra, rb, e, q⟩
  unfold eqY at e
  split at e
  · rename_i c hc
    cases e
    have q1 := q (.bl c) H F m (Stp.refl ..) ok (.bl c)
    obtain ⟨p1, p2, xs, ys, rfl, rfl, l1, l2, rfl⟩ := eqSB_go ok ra rb hc
    cases rx; cases ry
    obtain ⟨i1, i2, t1, t2, n1, n2, he⟩ := str_eqs I l1 l2
    by_cases hl : xs.length = ys.length
    · refine SeqAt.eq_listAt (e := fun j => xs.getD j "" == ys.getD j "") t1 t2 (by rw [List.size_toArray, List.size_toArray, n1, n2, hl]) (by omega) he ⟨.bl _, H, I, rfl, ?_⟩
      rw [List.size_toArray, n1, all_str xs ys hl]
      exact q1
    · refine SeqAt.eq_list_lengthsAt t1 t2 (by rw [List.size_toArray, List.size_toArray, n1, n2]; exact bne_iff_ne.mpr hl) (by omega) ⟨.bl false, H, I, rfl, ?_⟩
      rw [decide_eq_false (fun z => hl (by rw [z]))] at q1
      exact q1
  · exact op_eqX hu pins s σ H x y v u Q I rx ry ⟨S, F, m, a, b, r, ok, ra, rb, e, q⟩
theorem op_neY (hu : X.A.units + 64 < cLine) : OpR X (compareOp .NotEq) (rOf X.K X.mg neY) := by
  intro pins s σ H x y v u Q I rx ry ⟨S, F, m, a, b, r, ok, ra, rb, e, q⟩
  unfold neY at e
  split at e
  · rename_i c hc
    cases e
    have q1 := q (.bl (!c)) H F m (Stp.refl ..) ok (.bl (!c))
    obtain ⟨p1, p2, xs, ys, rfl, rfl, l1, l2, rfl⟩ := eqSB_go ok ra rb hc
    cases rx; cases ry
    obtain ⟨i1, i2, t1, t2, n1, n2, he⟩ := str_eqs I l1 l2
    by_cases hl : xs.length = ys.length
    · refine SeqAt.RcNeAt.lists (e := fun j => xs.getD j "" == ys.getD j "") t1 t2 (by rw [List.size_toArray, List.size_toArray, n1, n2, hl]) (by omega) he X.prog X.w X.xe _ ⟨.bl _, H, I, rfl, ?_⟩
      rw [List.size_toArray, n1, all_str xs ys hl]
      exact q1
    · refine SeqAt.RcNeAt.lists_lengths t1 t2 (by rw [List.size_toArray, List.size_toArray, n1, n2]; exact bne_iff_ne.mpr hl) (by omega) X.prog X.w X.xe _ ⟨.bl true, H, I, rfl, ?_⟩
      rw [decide_eq_false (fun z => hl (by rw [z]))] at q1
      exact q1
  · exact op_neX hu pins s σ H x y v u Q I rx ry ⟨S, F, m, a, b, r, ok, ra, rb, e, q⟩
end
end Sf
/-! Sf14: while; an index that is a truth; dict.update; reversed tuples. -/
namespace Sf
open L2 PySem PySem.Spec PyProof.Rows
/-! ### while, so many turns at most -/
def loopW (c : Dn Bool) (p : Sn) : Nat → Sn
  | 0 => fun _ _ => none
  | n + 1 => fun ρ S => bnS (c ρ S) ρ fun b S1 => if b = true then
      (match p ρ S1 with
        | some (.nx ρ' S') => loopW c p n ρ' S'
        | some (.ct ρ' S') => loopW c p n ρ' S'
        | some (.bk ρ' S') => some (.nx ρ' S')
        | o => o) else some (.nx ρ S1)
theorem s_while {X : Cx} {W : WX'} {t : Expr} {c : Dn Bool} {body : List Stmt} {p : Sn} {pos : Pos} (n : Nat) (hp : PassesOwn (model X.prog X.w) X.A X.env X.xe) (hc : Pt X W t c) (hb : Pss X W body p) : Ps X W (.While t body [] pos) (loopW c p n) := by
  refine ps_imp (ps_while hp hc hb) fun Dd σ H z => ?_
  refine ⟨fun m σ H => Ts X.K X.mg W (loopW c p m) Dd σ H, ⟨n, z⟩, fun m σ H z => ?_⟩
  cases m with
  | zero =>
    obtain ⟨ρ, S, F, m, sl, ok, A⟩ := z
    exact A.elim
  | succ m =>
    refine ts1 (R1 := RB) (g := fun ρ (b : Bool) S1 => if b = true then
      (match p ρ S1 with
        | some (.nx ρ' S') => loopW c p m ρ' S'
        | some (.ct ρ' S') => loopW c p m ρ' S'
        | some (.bk ρ' S') => some (.nx ρ' S')
        | o => o) else some (.nx ρ S1)) z fun b _ H1 ρ S1 F1 m1 d sl ok r A _ _ => ?_
    cases r
    cases b with
    | false =>
      rw [if_neg Bool.false_ne_true] at A ⊢
      exact A σ H1 F1 m1 (Stp.refl ..) ok sl
    | true =>
      rw [if_pos rfl] at A ⊢
      refine ⟨fun σ' H' => Ts X.K X.mg W (loopW c p m) Dd σ' H', fun σ' H' h => ⟨m, Nat.lt_succ_self m, h⟩, ρ, S1, F1, m1, sl, ok, ?_⟩
      match p ρ S1, A with
      | none, A => exact A
      | some (.nx ρ' S'), A => exact fun σ' H' F' m' st k q => ⟨ρ', S', F', m', q, k, AftS.shift st A⟩
      | some (.ct ρ' S'), A => exact fun σ' H' F' m' st k q => ⟨ρ', S', F', m', q, k, AftS.shift st A⟩
      | some (.bk ρ' S'), A => exact A
      | some (.rt o S'), A => exact A
      | some (.er x ρ' S'), A => exact A

/-! ### an index that is a truth -/
section
variable {X : Cx}
theorem sub_bool {s : Shared} {A : Around} {E : Value → Shared → Prop} {M : Model} {k : Bool} {Q : Option Int → Shared → Prop} (h : Q (some (if k = true then 1 else 0)) s) :
    wpAny M A (Builtin.List.listSubscript? (.bool k)) Q E s := by
  unfold Builtin.List.listSubscript?
  refine wpAny_bind (wpAny_specialOf (T := "bool") (show s.TypeIs (.bool k) "bool" from rfl) PySem.F.slot_bool_index.lookup ?_)
  show wpAny M A (asIndex (.bool k) >>= _) Q E s
  cases k with
  | true => exact wpAny_bind (wpAny_of_eq (a := (1 : Int)) rfl (wpAny_pure h))
  | false => exact wpAny_bind (wpAny_of_eq (a := (0 : Int)) rfl (wpAny_pure h))
theorem getItem_listB {l : Addr} {items : Array Value} {k : Bool} {x : Value} {s : Shared} {A : Around} {E : Value → Shared → Prop} {prog : Program} {w : World} {Q : Value → Shared → Prop} (hl : s.heap.IsList l items)
    (hx : items[(if k = true then 1 else 0 : Nat)]? = some x) (h : Q x s) : wpAny (model prog w) A (getItem (.ref l) (.bool k)) Q E s := by
  obtain ⟨o, ho, hc, ne, hd⟩ := id hl
  unfold getItem
  try with_reducible refine wpAny_holding ?_
  first | refine wpAny_bind (wpAny_pure ?_) | skip
  refine wpAny_bind (wpAny_sequenceKey hl.typeIs (by decide) ?_)
  refine wpAny_bind (wpAny_callSpecial?_slot (name := Str.ofString "__getitem__") hl.typeIs slot_list_getitem
    (wpAny_call_entry slot_list_getitem hl.typeIs entry_list_getitem ?_ (args_list_getitem _ _)))
  show wpAny _ _ (Builtin.List.listSubscript? (.bool k) >>= _) _ _ s
  refine wpAny_bind (sub_bool ?_)
  cases k with
  | true =>
    rw [if_pos rfl] at hx ⊢
    show wpAny _ _ ((seqItemAt l 1 >>= fun r => pure (r.map (1, ·))) >>= _) _ _ s
    refine wpAny_bind (wpAny_bind (wpAny_seqItemAt ho hd (wpAny_pure ?_)))
    rw [hx]
    first
      | exact wpAny_bind (wpAny_pure (wpAny_pure ⟨x, rfl, wpAny_pure h⟩))
      | exact wpAny_pure ⟨x, rfl, wpAny_pure h⟩
  | false =>
    rw [if_neg Bool.false_ne_true] at hx ⊢
    show wpAny _ _ ((seqItemAt l 0 >>= fun r => pure (r.map (0, ·))) >>= _) _ _ s
    refine wpAny_bind (wpAny_bind (wpAny_seqItemAt ho hd (wpAny_pure ?_)))
    rw [hx]
    first
      | exact wpAny_bind (wpAny_pure (wpAny_pure ⟨x, rfl, wpAny_pure h⟩))
      | exact wpAny_pure ⟨x, rfl, wpAny_pure h⟩
def rIxB (K : PySem.W.Frag) : R2 := fun x y H Q => ∃ p xs k v, x = .ref p ∧ y = .bl k ∧ SqL K H p xs ∧ xs[(if k = true then 1 else 0 : Nat)]? = some v ∧ Q v H
theorem ix_listB : IxR X (rIxB X.K) := by
  intro value slice pins s σ H x y v u Q I rx ry h hs
  obtain ⟨p, xs, k, z, rfl, rfl, hq, he, q⟩ := h
  cases rx
  cases ry
  obtain ⟨its, r, pl, hz⟩ := I.list hq
  obtain ⟨w, ew, rw'⟩ := r.get he
  have fin : EP X pins σ Q w s := ⟨z, H, I, rw', q⟩
  exact subscriptTail_builtinR (x := w) pl.isList.typeIs slot_list_getitem.lookup
    (getItem_listB (Q := fun r s' => r = w ∧ EP X pins σ Q r s') pl.isList (by simpa using ew) ⟨rfl, fin⟩) hs
def ixB : O2 := fun S a b => match b with
  | .bl k => match view S a with
    | some ds => (ds[(if k = true then 1 else 0 : Nat)]?).map .val
    | none => none
  | _ => none
theorem op_ixB : IxR X (rOf X.K X.mg ixB) := by
  refine IxR.imp ix_listB fun x y H Q h => ?_
  obtain ⟨S, F, m, a, b, u, ok, ra, rb, e, q⟩ := h
  unfold ixB at e
  split at e
  · rename_i k
    split at e
    · rename_i ds e0
      cases e1 : ds[(if k = true then 1 else 0 : Nat)]? with
      | none => rw [e1] at e; cases e
      | some d =>
        rw [e1] at e
        cases e
        cases rb
        obtain ⟨p, xs, rfl, h1, h2⟩ := view_ok ok ra e0
        obtain ⟨v, h3, h4⟩ := h2.get e1
        exact ⟨p, xs, k, v, rfl, rfl, h1, h3, rof_val ok q h4⟩
    · cases e
  · cases e
theorem d_ixB {W : WX'} {a b : Expr} {f g : Dn Out} {pos : Pos} (ha : Pe X W a f) (hb : Pe X W b g) (hs : PlainIx b := by exact fun _ _ => rfl) : Pe X W (.Subscript a b pos) (d2 ixB f g) :=
  pe_imp (pe_ix op_ixB ha.d hb.d hs) fun _ _ _ q => tg_2 q
end

/-! ### dict.update by a dict -/
section
variable {X : Cx}
theorem kv_merge {ks : List (Key × V)} {vs : List (Key × Value)} (r : KV ks vs) : ∀ {us : List (Key × V)} {ws : List (Key × Value)}, KV us ws → KV (us.foldl (fun acc p => putK acc p.1 p.2) ks) (merged vs ws)
  | _, _, .nil => r
  | _, _, .cons (a := p) (b := q) h t => by
    have e : p.1 = q.1 := h.1
    have := kv_merge (KV.put r p.1 h.2) t
    rw [e] at this
    show KV (List.foldl _ (putK ks p.1 p.2) _) (List.foldl _ (stored vs q.1 q.2) _)
    rw [e]
    exact this
theorem pr_merge {K : PySem.W.Frag} {F : Hp} {m : List Addr} {ks : List (Key × V)} {ls : List (Key × D)} (r : PR K F m ks ls) : ∀ {us : List (Key × V)} {ws : List (Key × D)}, PR K F m us ws →
    PR K F m (us.foldl (fun acc p => putK acc p.1 p.2) ks) (ws.foldl (fun acc p => putD acc p.1 p.2) ls)
  | _, _, .nil => r
  | _, _, .cons (a := p) (b := q) h t => by
    have := pr_merge (pr_put p.1 r h.2) t
    show PR K F m (List.foldl _ (putK ks p.1 p.2) _) (List.foldl _ (putD ls q.1 q.2) _)
    rw [← h.1]
    exact this
theorem merge_len : ∀ (us ks : List (Key × V)), (us.foldl (fun acc p => putK acc p.1 p.2) ks).length ≤ ks.length + us.length
  | [], ks => Nat.le_refl _
  | p :: us, ks => by
    have h1 := merge_len us (putK ks p.1 p.2)
    have h2 := length_putK ks p.1 p.2
    rw [List.foldl_cons, List.length_cons]
    omega
def updD : OM := fun S a ds => match a, ds with
  | .ref n, [.ref j] => match S[n]?, S[j]? with
    | some (.dct kvs), some (.dct us) => if n ≠ j ∧ kvs.length + us.length ≤ sizeLine then some (.val .non, S.set n (.dct (us.foldl (fun acc p => putD acc p.1 p.2) kvs))) else none
    | _, _ => none
  | _, _ => none
theorem mt_updD : MtR X "dict.update" (rMt X.K X.mg updD) := by
  intro pins s σ H x xs v us Q I rx rxs ⟨S, F, m, a, ds, u, S', ok, ra, rds, e, q⟩
  unfold updD at e
  split at e
  · rename_i n j
    split at e
    · rename_i kvs ls e1 e2
      split at e
      · rename_i hz
        cases e
        cases ra with
        | @ref p _ h1 =>
          cases rds with
          | cons r1 r2 =>
            cases r2
            cases r1 with
            | @ref p2 _ h2 =>
              obtain ⟨ks, h3, h4⟩ := ok.at h1 e1
              obtain ⟨ks2, h5, h6⟩ := ok.at h2 e2
              cases rxs with
              | cons g1 g2 =>
                cases g2
                cases rx
                cases g1
                have hne : p ≠ p2 := fun z => by
                  subst z
                  have i1 := (List.getElem?_eq_some_iff.mp h1)
                  have i2 := (List.getElem?_eq_some_iff.mp h2)
                  obtain ⟨l1, i1⟩ := i1
                  obtain ⟨l2, i2⟩ := i2
                  exact hz.1 ((List.getElem_inj ok.nd).mp (i1.trans i2.symm))
                obtain ⟨z1, hd1, vs1, rel1, dd1⟩ := dk_of I.hok h3
                obtain ⟨z2, hd2, vs2, rel2, dd2⟩ := dk_of I.hok h5
                have l1 := pr_length h4
                have l2 := pr_length h6
                have l3 := rel1.length
                have l4 := rel2.length
                obtain ⟨k, st⟩ := ok.put (u := .dK (ks2.foldl (fun acc p => putK acc p.1 p.2) ks)) (ob := .dct (ls.foldl (fun acc p => putD acc p.1 p.2) kvs)) h1 ⟨_, upd_same, pr_merge h4 h6⟩
                refine call_meetsIn PySem.F.slot_dict_update dd1.typeIs PySem.F.entry_dict_update (PySem.F.args_dict_update_2 _ _) (meets_dict_update (mixKind X.prog X.w) p p2 hne hd2) ⟨vs1, vs2, dd1, dd2, by omega, fun h' d1 d2 hs => ?_⟩
                have he : ∃ q, h'.get? p = some q := let ⟨q, _, _, hq, _⟩ := d1; ⟨q, hq⟩
                have hl := merge_len ks2 ks
                exact ⟨.non, _, d_write I (by rw [h3]; exact True.intro) hs he (dk_new (by omega) hd1 (kv_merge rel1 rel2) d1), rfl, q _ _ F m st k .non⟩
      · cases e
    · cases e
  · cases e
end
end Sf
/-! Sf15: repr of any plain data. -/
namespace Sf
open L2 PySem PySem.Spec PyProof.Rows
def reprY : OC := fun S ds => match ds with
  | [d] => if (topd S d).plain = true ∧ (topd S d).py.showable = true ∧ (topd S d).py.depth ≤ 60 ∧ (topd S d).py.shown.length ≤ sizeLine then some (.val (.str (topd S d).py.shown)) else none
  | _ => none
theorem cl_reprY {X : Cx} (Z : SysB X.base) (hg : X.A.guards = some []) (hu : X.A.units + 64 < cLine) : CallR X (.builtin "repr") (rCl X.K X.mg reprY) := by
  intro pins s σ H xs us Q I rx ⟨S, F, m, ds, u, ok, r, e, q⟩
  unfold reprY at e
  split at e
  · rename_i d
    cases r with
    | cons r1 r2 =>
      cases r2
      obtain ⟨u1, rfl, ru⟩ := vals1 rx
      split at e
      · rename_i hc
        cases e
        obtain ⟨h1, h2, h4, h5⟩ := hc
        have hq := rof_val ok q (.str _)
        cases hf : d.flat with
        | false =>
          obtain ⟨F', s1, r3⟩ := topd_rep ok r1
          obtain ⟨as, q1, off⟩ := rep_readsZ Z I s1 _ _ _ r3 h1 ru
          obtain ⟨a, rfl⟩ : ∃ a, u1 = Value.ref a := by
            cases r1 <;> first | exact ⟨_, ru⟩ | cases hf
          exact PySem.repr_of_reads' q1 h2 (fun _ => off) hg (by omega) (fun _ _ z => z) (fun h' t tk hk => ⟨.str _, H, I.kept hk, ⟨t, rfl⟩, hq⟩) h5
        | true =>
          cases r1 with
          | non =>
            cases ru
            exact PySem.P.repr_of_none ⟨.str _, H, I.tok _, ⟨_, rfl⟩, hq⟩
          | bl b =>
            cases ru
            have e : (topd S (.bl b)).py.shown = (if b then ("True" : Str) else "False") := by cases b <;> rfl
            rw [e] at hq
            exact PySem.P.repr_of_bool ⟨.str _, H, I.tok _, ⟨_, rfl⟩, hq⟩
          | int i =>
            obtain ⟨t, rfl⟩ := ru
            have hs : (PyData.int i).showable = true := h2
            exact PySem.P.repr_of_int (of_decide_eq_true (by simpa only [PyData.showable] using hs)) ⟨.str _, H, I.tok _, ⟨_, rfl⟩, hq⟩
          | str x =>
            obtain ⟨t, rfl⟩ := ru
            exact PySem.P.repr_of_str ⟨.str _, H, I.tok _, ⟨_, rfl⟩, hq⟩ h5
          | tup _ _ => cases hf
          | lst _ _ => cases hf
          | fls _ _ => cases hf
          | emp _ => cases hf
          | ref _ => cases hf
      · cases e
  · cases e
end Sf
/-! Sx: reckoning with denotations: each combinator opens only where its first part is known. -/
namespace Sf
open L2 PySem PySem.Spec PyProof.Rows

section
variable {α β : Type} {f g h : Dn Out} {p q : Dn Bool} {a : Dn (List D)} {ρ : En} {S : Sto} {i : Nat} {d e : D} {o o' : O2} {n : Nat} {m : MD} {s t : Sn}
theorem x_bnd (x : α) (k : α → Sto → Option (Rz β)) : bnd (some (.ok x S)) k = k x S := rfl
theorem x_bnS (x : α) (k : α → Sto → Option Fl) : bnS (some (.ok x S)) ρ k = k x S := rfl
theorem x_c : dC d ρ S = some (.ok (.val d) S) := rfl
def varK (x : Option (Option D)) (S : Sto) : Option (Rz Out) := match x with
  | some (some d) => some (.ok (.val d) S)
  | _ => none
theorem x_var : dVar i ρ S = varK (ρ[i]?) S := rfl
theorem x_varK : varK (some (some d)) S = some (.ok (.val d) S) := rfl
def stlK (o : Out) (S : Sto) : Option (Rz D) := some (.ok (Sf.settle o S).1 (Sf.settle o S).2)
theorem x_stl : stl f ρ S = bnd (f ρ S) stlK := rfl
theorem x_stlV : stlK (.val d) S = some (.ok d S) := rfl
theorem x_stlL (ds : List D) : stlK (.own (.lst ds)) S = some (.ok (.lst ds) S) := rfl
theorem x_stlE : stlK (.own (.dct [])) S = some (.ok .emp S) := rfl
theorem x_stlD (kv : Key × D) (l : List (Key × D)) : stlK (.own (.dct (kv :: l))) S = some (.ok (.ref S.length) (S ++ [.dct (kv :: l)])) := rfl
def bxK (o : Out) (S : Sto) : Option (Rz D) := match o with
  | .val d => some (.ok d S)
  | .own ob => some (.ok (.ref S.length) (S ++ [ob]))
theorem x_bxd : bxd f ρ S = bnd (f ρ S) bxK := by unfold bxd; congr 1
theorem x_bxV : bxK (.val d) S = some (.ok d S) := rfl
theorem x_bxK (ob : Ob) : bxK (.own ob) S = some (.ok (.ref S.length) (S ++ [ob])) := rfl
theorem x_okv (u : Out) : okv (some u) S = some (.ok u S) := rfl
theorem x_okm (u : Out) (S' : Sto) : okm (some (u, S')) = some (.ok u S') := rfl
def d2L (o : O2) (a b : D) (S : Sto) : Option (Rz Out) := okv (o S a b) S
def d2K (o : O2) (g : Dn Out) (ρ : En) (a : D) (S : Sto) : Option (Rz Out) := bnd (stl g ρ S) (d2L o a)
theorem x_d2 : d2 o f g ρ S = bnd (stl f ρ S) (d2K o g ρ) := rfl
theorem x_d2K : d2K o g ρ d S = bnd (stl g ρ S) (d2L o d) := rfl
theorem x_d2L : d2L o d e S = okv (o S d e) S := rfl
def tstK (o : Out) (S : Sto) : Option (Rz Bool) := match o with
  | .val (.bl c) => some (.ok c S)
  | _ => none
theorem x_tst : tst f ρ S = bnd (f ρ S) tstK := by unfold tst; congr 1
theorem x_tstK (c : Bool) : tstK (.val (.bl c)) S = some (.ok c S) := rfl
def chN (o' : O2) (b c : D) (S : Sto) : Option (Rz Out) := okv (o' S b c) S
def chM (o' : O2) (h : Dn Out) (ρ : En) (b : D) (r : Option Out) (S : Sto) : Option (Rz Out) := match r with
  | some (.val (.bl true)) => bnd (stl h ρ S) (chN o' b)
  | some (.val (.bl false)) => some (.ok (.val (.bl false)) S)
  | _ => none
def chL (o o' : O2) (h : Dn Out) (ρ : En) (a b : D) (S : Sto) : Option (Rz Out) := chM o' h ρ b (o S a b) S
def chK (o o' : O2) (g h : Dn Out) (ρ : En) (a : D) (S : Sto) : Option (Rz Out) := bnd (stl g ρ S) (chL o o' h ρ a)
theorem x_ch : dChain o o' f g h ρ S = bnd (stl f ρ S) (chK o o' g h ρ) := by
  unfold dChain
  congr 1
theorem x_chK : chK o o' g h ρ d S = bnd (stl g ρ S) (chL o o' h ρ d) := rfl
theorem x_chL : chL o o' h ρ d e S = chM o' h ρ e (o S d e) S := rfl
theorem x_chMt : chM o' h ρ e (some (.val (.bl true))) S = bnd (stl h ρ S) (chN o' e) := rfl
theorem x_chMf : chM o' h ρ e (some (.val (.bl false))) S = some (.ok (.val (.bl false)) S) := rfl
theorem x_chN : chN o' d e S = okv (o' S d e) S := rfl
def andL (g : Dn Out) (ρ : En) (a : D) (r : Option Bool) (S : Sto) : Option (Rz Out) := match r with
  | some true => g ρ S
  | some false => some (.ok (.val a) S)
  | none => none
def andK (g : Dn Out) (ρ : En) (a : D) (S : Sto) : Option (Rz Out) := andL g ρ a (truthD S a) S
theorem x_and : dAnd f g ρ S = bnd (stl f ρ S) (andK g ρ) := by
  unfold dAnd
  congr 1
theorem x_andK : andK g ρ d S = andL g ρ d (truthD S d) S := rfl
theorem x_andT : andL g ρ d (some true) S = g ρ S := rfl
theorem x_andF : andL g ρ d (some false) S = some (.ok (.val d) S) := rfl
def orL (g : Dn Out) (ρ : En) (a : D) (r : Option Bool) (S : Sto) : Option (Rz Out) := match r with
  | some true => some (.ok (.val a) S)
  | some false => g ρ S
  | none => none
def orK (g : Dn Out) (ρ : En) (a : D) (S : Sto) : Option (Rz Out) := orL g ρ a (truthD S a) S
theorem x_or : dOr f g ρ S = bnd (stl f ρ S) (orK g ρ) := by
  unfold dOr
  congr 1
theorem x_orK : orK g ρ d S = orL g ρ d (truthD S d) S := rfl
theorem x_orT : orL g ρ d (some true) S = some (.ok (.val d) S) := rfl
theorem x_orF : orL g ρ d (some false) S = g ρ S := rfl
def notL (r : Option Bool) (S : Sto) : Option (Rz Out) := match r with
  | some k => some (.ok (.val (.bl (!k))) S)
  | none => none
def notK (a : D) (S : Sto) : Option (Rz Out) := notL (truthD S a) S
theorem x_not : dNot f ρ S = bnd (stl f ρ S) notK := by
  unfold dNot
  congr 1
theorem x_notK : notK d S = notL (truthD S d) S := rfl
theorem x_notL (k : Bool) : notL (some k) S = some (.ok (.val (.bl (!k))) S) := rfl
def truL (r : Option Bool) (S : Sto) : Option (Rz Bool) := match r with
  | some k => some (.ok k S)
  | none => none
def truK (a : D) (S : Sto) : Option (Rz Bool) := truL (truthD S a) S
theorem x_tru : dTru f ρ S = bnd (stl f ρ S) truK := by
  unfold dTru
  congr 1
theorem x_truK : truK d S = truL (truthD S d) S := rfl
theorem x_truL (k : Bool) : truL (some k) S = some (.ok k S) := rfl
def bandK (q : Dn Bool) (ρ : En) (c : Bool) (S : Sto) : Option (Rz Bool) := if c = true then q ρ S else some (.ok false S)
theorem x_band : bAnd p q ρ S = bnd (p ρ S) (bandK q ρ) := rfl
theorem x_bandT : bandK q ρ true S = q ρ S := rfl
theorem x_bandF : bandK q ρ false S = some (.ok false S) := rfl
def borK (q : Dn Bool) (ρ : En) (c : Bool) (S : Sto) : Option (Rz Bool) := if c = true then some (.ok true S) else q ρ S
theorem x_bor : bOr p q ρ S = bnd (p ρ S) (borK q ρ) := rfl
theorem x_borT : borK q ρ true S = some (.ok true S) := rfl
theorem x_borF : borK q ρ false S = q ρ S := rfl
def bnotK (c : Bool) (S : Sto) : Option (Rz Bool) := some (.ok (!c) S)
theorem x_bnot : bNot p ρ S = bnd (p ρ S) bnotK := rfl
theorem x_bnotK (c : Bool) : bnotK c S = some (.ok (!c) S) := rfl
def difK (f g : Dn Out) (ρ : En) (c : Bool) (S : Sto) : Option (Rz Out) := if c = true then f ρ S else g ρ S
theorem x_dif : dIf p f g ρ S = bnd (p ρ S) (difK f g ρ) := rfl
theorem x_difT : difK f g ρ true S = f ρ S := rfl
theorem x_difF : difK f g ρ false S = g ρ S := rfl
theorem x_anil : aNil ρ S = some (.ok [] S) := rfl
def aL (d : D) (ds : List D) (S : Sto) : Option (Rz (List D)) := some (.ok (d :: ds) S)
def aK (a : Dn (List D)) (ρ : En) (d : D) (S : Sto) : Option (Rz (List D)) := bnd (a ρ S) (aL d)
theorem x_acons : aCons f a ρ S = bnd (stl f ρ S) (aK a ρ) := rfl
theorem x_aK : aK a ρ d S = bnd (a ρ S) (aL d) := rfl
theorem x_aL (ds : List D) : aL d ds S = some (.ok (d :: ds) S) := rfl
def tupK (ds : List D) (S : Sto) : Option (Rz Out) := if ds.length ≤ sizeLine then some (.ok (.val (.tup ds)) S) else none
theorem x_tup : dTup a ρ S = bnd (a ρ S) tupK := rfl
theorem x_tupK (ds : List D) (hl : ds.length ≤ 1000) : tupK ds S = some (.ok (.val (.tup ds)) S) := if_pos (Nat.le_trans hl (by decide))
def lstK (ds : List D) (S : Sto) : Option (Rz Out) := if ds.length ≤ sizeLine then some (.ok (.own (.lst ds)) S) else none
theorem x_lst : dLst a ρ S = bnd (a ρ S) lstK := rfl
theorem x_lstK (ds : List D) (hl : ds.length ≤ 1000) : lstK ds S = some (.ok (.own (.lst ds)) S) := if_pos (Nat.le_trans hl (by decide))
def clK (o : OC) (ds : List D) (S : Sto) : Option (Rz Out) := okv (o S ds) S
theorem x_cl (o : OC) : dCl o a ρ S = bnd (a ρ S) (clK o) := rfl
theorem x_clK (o : OC) (ds : List D) : clK o ds S = okv (o S ds) S := rfl
def fnK (n : Nat) (m : MD) (ds : List D) (S : Sto) : Option (Rz Out) := if ds.length = n then m ds S else none
theorem x_fn : dFn n m a ρ S = bnd (a ρ S) (fnK n m) := rfl
theorem x_fnK (ds : List D) (hl : ds.length = n) : fnK n m ds S = m ds S := if_pos hl
def isiL (T : String) (r : Option String) (S : Sto) : Option (Rz Out) := match r with
  | some k => some (.ok (.val (.bl (isiB T k))) S)
  | none => none
def isiK (T : String) (d : D) (S : Sto) : Option (Rz Out) := isiL T (kindD S d) S
theorem x_isi (T : String) : dIsi T f ρ S = bnd (stl f ρ S) (isiK T) := by
  unfold dIsi
  congr 1
theorem x_isiK (T : String) : isiK T d S = isiL T (kindD S d) S := rfl
theorem x_isiL (T k : String) : isiL T (some k) S = some (.ok (.val (.bl (isiB T k))) S) := rfl
theorem x_neg : dNeg f ρ S = bnd (stl f ρ S) negK := rfl
theorem x_negK (i : Int) : negK (.int i) S = some (.ok (.val (.int (-i))) S) := rfl
theorem x_revL : dRevL f ρ S = bnd (stl f ρ S) revK := rfl
theorem x_kget (tbl : List (Str × D)) : dKget tbl a ρ S = bnd (a ρ S) (kgetK tbl) := rfl
theorem x_kgetK (tbl : List (Str × D)) (z : Str) : kgetK tbl [.str z, d] S = some (.ok (.val ((tbl.lookup z).getD d)) S) := rfl
def slL (h : Dn (Option Int)) (ρ : En) (d : D) (lo : Option Int) (S : Sto) : Option (Rz Out) := bnd (h ρ S) fun hi S3 => okv (slD S3 d lo hi) S3
def slK (g h : Dn (Option Int)) (ρ : En) (d : D) (S : Sto) : Option (Rz Out) := bnd (g ρ S) (slL h ρ d)
theorem x_sl {g h : Dn (Option Int)} : dSl f g h ρ S = bnd (stl f ρ S) (slK g h ρ) := rfl
theorem x_slK {g h : Dn (Option Int)} : slK g h ρ d S = bnd (g ρ S) (slL h ρ d) := rfl
theorem x_slL {h : Dn (Option Int)} (lo : Option Int) : slL h ρ d lo S = bnd (h ρ S) fun hi S3 => okv (slD S3 d lo hi) S3 := rfl
theorem x_pnone : pNone ρ S = some (.ok none S) := rfl
def psK (d : D) (S : Sto) : Option (Rz (Option Int)) := match d with
  | .int i => some (.ok (some i) S)
  | _ => none
theorem x_psome : pSome f ρ S = bnd (stl f ρ S) psK := by
  unfold pSome
  congr 1
theorem x_psK (i : Int) : psK (.int i) S = some (.ok (some i) S) := rfl
def mtL (o : OM) (a : D) (ds : List D) (S : Sto) : Option (Rz Out) := okm (o S a ds)
def mtK (T : String) (o : OM) (g : Dn (List D)) (ρ : En) (d : D) (S : Sto) : Option (Rz Out) := if tyB T S d = true then bnd (g ρ S) (mtL o d) else none
theorem x_mt (T : String) (o : OM) : dMt T o f a ρ S = bnd (stl f ρ S) (mtK T o a ρ) := rfl
theorem x_mtK (T : String) (o : OM) (ht : tyB T S d = true) : mtK T o a ρ d S = bnd (a ρ S) (mtL o d) := if_pos ht
theorem x_mtL (o : OM) (ds : List D) : mtL o d ds S = okm (o S d ds) := rfl
def itL (r : Option (List D)) (S : Sto) : Option (Rz (List D)) := match r with
  | some xs => some (.ok xs S)
  | none => none
def itAK (r : List D → Option (List D)) (ds : List D) (S : Sto) : Option (Rz (List D)) := itL (r ds) S
theorem x_itA (r : List D → Option (List D)) : itA r a ρ S = bnd (a ρ S) (itAK r) := by
  unfold itA
  congr 1
theorem x_itAK (r : List D → Option (List D)) (ds : List D) : itAK r ds S = itL (r ds) S := rfl
theorem x_itL (xs : List D) : itL (some xs) S = some (.ok xs S) := rfl
def seqK (d : D) (S : Sto) : Option (Rz (List D)) := itL (fixed d) S
theorem x_itSeq : itSeq f ρ S = bnd (stl f ρ S) seqK := by
  unfold itSeq
  congr 1
theorem x_seqK : seqK d S = itL (fixed d) S := rfl
def istrK (d : D) (S : Sto) : Option (Rz (List D)) := match d with
  | .str x => some (.ok (signsL x) S)
  | _ => none
theorem x_itStr : itStr f ρ S = bnd (stl f ρ S) istrK := by
  unfold itStr
  congr 1
theorem x_istrK (x : Str) : istrK (.str x) S = some (.ok (signsL x) S) := rfl
def compL (r : Option (List D × Sto)) : Option (Rz Out) := match r with
  | some (ys, S2) => some (.ok (.own (.lst ys)) S2)
  | none => none
def compK (t : Tn) (c : Dn Bool) (f : Dn Out) (ρ : En) (xs : List D) (S : Sto) : Option (Rz Out) := compL (loopC t c f ρ xs 0 S)
theorem x_comp (t : Tn) (vs : List Nat) : dComp a t p f vs ρ S = bnd (a ρ S) (compK t p f (wipeE ρ vs)) := by
  unfold dComp
  congr 1
theorem x_compK (t : Tn) (xs : List D) : compK t p f ρ xs S = compL (loopC t p f ρ xs 0 S) := rfl
theorem x_compL (ys : List D) (S2 : Sto) : compL (some (ys, S2)) = some (.ok (.own (.lst ys)) S2) := rfl
theorem x_wipe1 (i : Nat) : wipeE ρ [i] = ρ.set i none := rfl
theorem x_wipe2 (i j : Nat) : wipeE ρ [i, j] = (ρ.set j none).set i none := rfl
/-! statements -/
def sqK (g : Sn) (r : Option Fl) : Option Fl := match r with
  | some (.nx ρ' S') => g ρ' S'
  | r => r
theorem x_seq : sSeq s t ρ S = sqK t (s ρ S) := rfl
theorem x_sqN : sqK t (some (.nx ρ S)) = t ρ S := rfl
theorem x_sqR (u : Out) : sqK t (some (.rt u S)) = some (.rt u S) := rfl
theorem x_sqB : sqK t (some (.bk ρ S)) = some (.bk ρ S) := rfl
theorem x_sqC : sqK t (some (.ct ρ S)) = some (.ct ρ S) := rfl
theorem x_next : sNext ρ S = some (.nx ρ S) := rfl
def retK (o : Out) (S : Sto) : Option Fl := some (.rt o S)
theorem x_ret : sRet f ρ S = bnS (f ρ S) ρ retK := rfl
theorem x_retK (u : Out) : retK u S = some (.rt u S) := rfl
theorem x_retN : sRetN ρ S = some (.rt (.val .non) S) := rfl
def asgK (i : Nat) (ρ : En) (d : D) (S : Sto) : Option Fl := some (.nx (ρ.set i (some d)) S)
theorem x_asg : sAsg i f ρ S = bnS (stl f ρ S) ρ (asgK i ρ) := rfl
theorem x_asgB : sAsgB i f ρ S = bnS (bxd f ρ S) ρ (asgK i ρ) := rfl
theorem x_asgK : asgK i ρ d S = some (.nx (ρ.set i (some d)) S) := rfl
def dropK (ρ : En) (_ : Out) (S : Sto) : Option Fl := some (.nx ρ S)
theorem x_drop : sDrop f ρ S = bnS (f ρ S) ρ (dropK ρ) := rfl
theorem x_dropK (u : Out) : dropK ρ u S = some (.nx ρ S) := rfl
def ifK (s t : Sn) (ρ : En) (c : Bool) (S : Sto) : Option Fl := if c = true then s ρ S else t ρ S
theorem x_if : sIf p s t ρ S = bnS (p ρ S) ρ (ifK s t ρ) := rfl
theorem x_ifT : ifK s t ρ true S = s ρ S := rfl
theorem x_ifF : ifK s t ρ false S = t ρ S := rfl
def forK (t : Tn) (s : Sn) (ρ : En) (xs : List D) (S : Sto) : Option Fl := loopS t s xs ρ S
theorem x_for (t : Tn) : sFor a t s ρ S = bnS (a ρ S) ρ (forK t s ρ) := rfl
theorem x_forK (t : Tn) (xs : List D) : forK t s ρ xs S = loopS t s xs ρ S := rfl
def tgtL (r : Option En) (S : Sto) : Option Fl := match r with
  | some ρ' => some (.nx ρ' S)
  | none => none
def tgtK (t : Tn) (ρ : En) (d : D) (S : Sto) : Option Fl := tgtL (t ρ d) S
theorem x_tgt (t : Tn) : sTgt t f ρ S = bnS (stl f ρ S) ρ (tgtK t ρ) := by
  unfold sTgt
  congr 1
theorem x_tgtK (t : Tn) : tgtK t ρ d S = tgtL (t ρ d) S := rfl
theorem x_tgtL (ρ' : En) : tgtL (some ρ') S = some (.nx ρ' S) := rfl
theorem x_tname : tName i ρ d = some (ρ.set i (some d)) := rfl
def parK (i j : Nat) (ρ : En) (ds : List D) (S : Sto) : Option Fl := match ds with
  | [a, b] => some (.nx ((ρ.set i (some a)).set j (some b)) S)
  | _ => none
theorem x_par (i j : Nat) : sPar i j a ρ S = bnS (a ρ S) ρ (parK i j ρ) := by
  unfold sPar
  congr 1
theorem x_parK (i j : Nat) (x y : D) : parK i j ρ [x, y] S = some (.nx ((ρ.set i (some x)).set j (some y)) S) := rfl
def putM (d a b : D) (ρ : En) (S : Sto) : Option Fl := tgtL none S
def dputL (ρ : En) (r : Option Sto) : Option Fl := match r with
  | some S4 => some (.nx ρ S4)
  | none => none
def dputK2 (ρ : En) (d a b : D) (S : Sto) : Option Fl := dputL ρ (dputS S a b d)
def dputK1 (g : Dn Out) (ρ : En) (d a : D) (S : Sto) : Option Fl := bnS (stl g ρ S) ρ (dputK2 ρ d a)
def dputK (f g : Dn Out) (ρ : En) (d : D) (S : Sto) : Option Fl := bnS (stl f ρ S) ρ (dputK1 g ρ d)
theorem x_dput : sDput f g h ρ S = bnS (stl h ρ S) ρ (dputK f g ρ) := by
  unfold sDput
  congr 1
theorem x_dputK : dputK f g ρ d S = bnS (stl f ρ S) ρ (dputK1 g ρ d) := rfl
theorem x_dputK1 : dputK1 g ρ d e S = bnS (stl g ρ S) ρ (dputK2 ρ d e) := rfl
theorem x_dputK2 (b : D) : dputK2 ρ d e b S = dputL ρ (dputS S e b d) := rfl
theorem x_dputL (S4 : Sto) : dputL ρ (some S4) = some (.nx ρ S4) := rfl
def defK (r : Option Fl) : Option (Rz Out) := match r with
  | some (.nx _ S') => some (.ok (.val .non) S')
  | some (.rt o S') => some (.ok o S')
  | some (.er x _ S') => some (.er x S')
  | _ => none
theorem x_def (ds : List D) : defD n s ds S = defK (s (startE n ds) S) := rfl
theorem x_defR (u : Out) : defK (some (.rt u S)) = some (.ok u S) := rfl
theorem x_defN : defK (some (.nx ρ S)) = some (.ok (.val .non) S) := rfl
theorem x_size : sizeLine = 16777216 := rfl
/-! operations -/
theorem y_add (i j : Int) : addD S (.int i) (.int j) = some (.val (.int (i + j))) := rfl
theorem y_sub (i j : Int) : subD S (.int i) (.int j) = some (.val (.int (i - j))) := rfl
theorem y_mul (i j : Int) (hm : mulOk i j = true) : mulD S (.int i) (.int j) = some (.val (.int (i * j))) := if_pos hm
theorem y_mulX (i j : Int) (hm : mulOk i j = true) : mulX S (.int i) (.int j) = some (.val (.int (i * j))) := if_pos hm
theorem y_mod (i j : Int) (hj : j ≠ 0) : modD S (.int i) (.int j) = some (.val (.int (i.fmod j))) := if_pos hj
theorem y_fdiv (i j : Int) (hj : j ≠ 0 ∧ j.natAbs < 1073741824) : fdivD S (.int i) (.int j) = some (.val (.int (i.fdiv j))) := if_pos hj
theorem y_lt (i j : Int) : ltD S (.int i) (.int j) = some (.val (.bl (decide (i < j)))) := rfl
theorem y_le (i j : Int) : leD S (.int i) (.int j) = some (.val (.bl (decide (i ≤ j)))) := rfl
theorem y_gt (i j : Int) : gtD S (.int i) (.int j) = some (.val (.bl (decide (j < i)))) := rfl
theorem y_ge (i j : Int) : geD S (.int i) (.int j) = some (.val (.bl (decide (j ≤ i)))) := rfl
theorem y_eqI (i j : Int) : eqX S (.int i) (.int j) = some (.val (.bl (decide (i = j)))) := rfl
theorem y_eqS (x y : Str) : eqX S (.str x) (.str y) = some (.val (.bl (decide (x = y)))) := rfl
theorem y_neI (i j : Int) : neX S (.int i) (.int j) = some (.val (.bl (!decide (i = j)))) := rfl
theorem y_neS (x y : Str) : neX S (.str x) (.str y) = some (.val (.bl (!decide (x = y)))) := rfl
theorem y_eqYI (i j : Int) : eqY S (.int i) (.int j) = some (.val (.bl (decide (i = j)))) := rfl
theorem y_eqYS (x y : Str) : eqY S (.str x) (.str y) = some (.val (.bl (decide (x = y)))) := rfl
theorem y_neYI (i j : Int) : neY S (.int i) (.int j) = some (.val (.bl (!decide (i = j)))) := rfl
theorem y_neYS (x y : Str) : neY S (.str x) (.str y) = some (.val (.bl (!decide (x = y)))) := rfl
theorem y_ixT (ds : List D) (i : Int) : ixD S (.tup ds) (.int i) = (atI ds i).map .val := rfl
theorem y_ixL (ds : List D) (i : Int) : ixD S (.lst ds) (.int i) = (atI ds i).map .val := rfl
theorem y_trB (b : Bool) : truthD S (.bl b) = some b := rfl
theorem y_k0 : kindD S .non = some "NoneType" := rfl
theorem y_k1 (b : Bool) : kindD S (.bl b) = some "bool" := rfl
theorem y_k2 (i : Int) : kindD S (.int i) = some "int" := rfl
theorem y_k3 (x : Str) : kindD S (.str x) = some "str" := rfl
theorem y_k4 (ds : List D) : kindD S (.tup ds) = some "tuple" := rfl
theorem y_k5 (ds : List D) : kindD S (.lst ds) = some "list" := rfl
theorem y_k6 : kindD S .emp = some "dict" := rfl
theorem y_lenT (ds : List D) : lenD S [.tup ds] = some (.val (.int ds.length)) := rfl
theorem y_lenL (ds : List D) : lenD S [.lst ds] = some (.val (.int ds.length)) := rfl
theorem y_lenS (x : Str) (hx : x.length ≤ sizeLine) : lenD S [.str x] = some (.val (.int x.length)) := if_pos hx
end
/-- the elements of a comprehension of tests -/
theorem loop_bl (ρ : En) (c : D → Bool) (f : Dn Out) (i : Nat) : ∀ (l : List D) (k : Nat) (S : Sto), k + l.length ≤ sizeLine → (∀ x ∈ l, f (ρ.set i (some x)) S = some (.ok (.val (.bl (c x))) S)) →
    loopC (tName i) bYes f ρ l k S = some (l.map fun x => .bl (c x), S)
  | [], k, S, _, _ => rfl
  | x :: l, k, S, hk, h => by
    have h1 := h x List.mem_cons_self
    have hl : (x :: l).length = l.length + 1 := rfl
    have ih := loop_bl ρ c f i l (k + 1) S (by omega) fun y hy => h y (List.mem_cons_of_mem _ hy)
    have hz : k < sizeLine := by omega
    simp only [List.map, loopC, tName, bYes, x_stl, x_bnd, h1, x_stlV, if_pos hz, ih, Option.map]
/-- those that pass a test -/
theorem loop_flt (ρ : En) (c : D → Bool) (p : Dn Bool) (i : Nat) : ∀ (l : List D) (k : Nat) (S : Sto), i < ρ.length → k + l.length ≤ sizeLine → (∀ x ∈ l, p (ρ.set i (some x)) S = some (.ok (c x) S)) →
    loopC (tName i) p (dVar i) ρ l k S = some (l.filter c, S)
  | [], k, S, _, _, _ => rfl
  | x :: l, k, S, hi, hk, h => by
    have h1 := h x List.mem_cons_self
    have hl : (x :: l).length = l.length + 1 := rfl
    have hz : k < sizeLine := by omega
    have hv : dVar i (ρ.set i (some x)) S = some (.ok (.val x) S) := by
      rw [x_var, List.getElem?_set_self hi]
      rfl
    cases hc : c x with
    | true =>
      rw [hc] at h1
      have ih := loop_flt ρ c p i l (k + 1) S hi (by omega) fun y hy => h y (List.mem_cons_of_mem _ hy)
      simp only [loopC, tName, h1, x_stl, x_bnd, hv, x_stlV, if_pos hz, ih, Option.map, List.filter, hc]
    | false =>
      rw [hc] at h1
      have ih := loop_flt ρ c p i l k S hi (by omega) fun y hy => h y (List.mem_cons_of_mem _ hy)
      simp only [loopC, tName, h1, ih, List.filter, hc]
theorem bls_map (l : List D) (c : D → Bool) : blsD (l.map fun x => .bl (c x)) = some (l.map c) := by
  induction l with
  | nil => rfl
  | cons x l ih =>
    simp only [List.map, blsD, ih]
    rfl
theorem y_all (S : Sto) (l : List D) (c : D → Bool) : allD S [.lst (l.map fun x => .bl (c x))] = some (.val (.bl (l.all c))) := by
  simp only [allD, view, Option.bind, bls_map, List.all_map]
  rfl
theorem y_any (S : Sto) (l : List D) (c : D → Bool) : anyD S [.lst (l.map fun x => .bl (c x))] = some (.val (.bl (l.any c))) := by
  simp only [anyD, view, Option.bind, bls_map, List.any_map]
  rfl
end Sf
/-! Sh: data of bounded size; repr of it. -/
namespace Sf
open L2 PySem PySem.Spec PyProof.Rows

/-! isinstance -/
theorem z_int0 : isiB "int" "NoneType" = false := by decide
theorem z_int1 : isiB "int" "bool" = true := by decide
theorem z_int2 : isiB "int" "int" = true := by decide
theorem z_int3 : isiB "int" "str" = false := by decide
theorem z_int4 : isiB "int" "tuple" = false := by decide
theorem z_int5 : isiB "int" "list" = false := by decide
theorem z_int6 : isiB "int" "dict" = false := by decide
theorem z_bool0 : isiB "bool" "NoneType" = false := by decide
theorem z_bool1 : isiB "bool" "bool" = true := by decide
theorem z_bool2 : isiB "bool" "int" = false := by decide
theorem z_bool3 : isiB "bool" "str" = false := by decide
theorem z_bool4 : isiB "bool" "tuple" = false := by decide
theorem z_bool5 : isiB "bool" "list" = false := by decide
theorem z_bool6 : isiB "bool" "dict" = false := by decide
theorem z_str0 : isiB "str" "NoneType" = false := by decide
theorem z_str1 : isiB "str" "bool" = false := by decide
theorem z_str2 : isiB "str" "int" = false := by decide
theorem z_str3 : isiB "str" "str" = true := by decide
theorem z_str4 : isiB "str" "tuple" = false := by decide
theorem z_str5 : isiB "str" "list" = false := by decide
theorem z_str6 : isiB "str" "dict" = false := by decide
theorem z_tuple0 : isiB "tuple" "NoneType" = false := by decide
theorem z_tuple1 : isiB "tuple" "bool" = false := by decide
theorem z_tuple2 : isiB "tuple" "int" = false := by decide
theorem z_tuple3 : isiB "tuple" "str" = false := by decide
theorem z_tuple4 : isiB "tuple" "tuple" = true := by decide
theorem z_tuple5 : isiB "tuple" "list" = false := by decide
theorem z_tuple6 : isiB "tuple" "dict" = false := by decide
theorem z_list0 : isiB "list" "NoneType" = false := by decide
theorem z_list1 : isiB "list" "bool" = false := by decide
theorem z_list2 : isiB "list" "int" = false := by decide
theorem z_list3 : isiB "list" "str" = false := by decide
theorem z_list4 : isiB "list" "tuple" = false := by decide
theorem z_list5 : isiB "list" "list" = true := by decide
theorem z_list6 : isiB "list" "dict" = false := by decide
theorem z_dict0 : isiB "dict" "NoneType" = false := by decide
theorem z_dict1 : isiB "dict" "bool" = false := by decide
theorem z_dict2 : isiB "dict" "int" = false := by decide
theorem z_dict3 : isiB "dict" "str" = false := by decide
theorem z_dict4 : isiB "dict" "tuple" = false := by decide
theorem z_dict5 : isiB "dict" "list" = false := by decide
theorem z_dict6 : isiB "dict" "dict" = true := by decide
mutual
/-- new data, its numbers and signs within bounds -/
def fitB : D → Bool
  | .ref _ => false
  | .fls _ => false
  | .int i => decide (i.natAbs < 10 ^ 400)
  | .str s => s.cps.toList.all fun c => decide (c < 16 ^ 8)
  | .tup ds => fitL ds
  | .lst ds => fitL ds
  | .non => true
  | .bl _ => true
  | .emp => true
def fitL : List D → Bool
  | [] => true
  | d :: ds => fitB d && fitL ds
end
abbrev wt (d : D) : Nat := d.py.weight
abbrev dp (d : D) : Nat := d.py.depth
abbrev wtL (ds : List D) : Nat := PyData.weightAll (pyL ds)
abbrev dpL (ds : List D) : Nat := PyData.depthAll (pyL ds)
theorem log_of {i : Int} (h : i.natAbs < 10 ^ 400) : i.natAbs.log2 < 1920 := by
  by_cases h0 : i.natAbs = 0
  · rw [h0]; decide
  · rw [Nat.log2_lt h0]
    exact Nat.lt_of_lt_of_le h (Nat.le_trans (show 10 ^ 400 ≤ 2 ^ 1900 by decide +kernel) (Nat.pow_le_pow_right (by decide) (by decide)))
mutual
theorem fit_all : ∀ d : D, fitB d = true → d.plain = true ∧ d.py.showable = true ∧ d.py.leavesShort 401 = true
  | .non, _ => ⟨rfl, rfl, rfl⟩
  | .bl _, _ => ⟨rfl, rfl, rfl⟩
  | .emp, _ => ⟨rfl, rfl, rfl⟩
  | .int i, h => by
    have h' : i.natAbs < 10 ^ 400 := of_decide_eq_true (by simpa only [fitB] using h)
    refine ⟨rfl, ?_, ?_⟩
    · simp only [D.py, PyData.showable, decide_eq_true_eq]
      exact log_of h'
    · simp only [D.py, PyData.leavesShort, decide_eq_true_eq]
      have e := int_text_length_le10 (k := 400) (by decide) h'
      show (Str.ofString (toString i)).length ≤ 401
      rw [PySem.ofString_length]
      exact e
  | .str s, h => by
    refine ⟨rfl, rfl, ?_⟩
    simp only [D.py, PyData.leavesShort]
    simpa only [fitB] using h
  | .tup ds, h => by
    obtain ⟨h1, h2, h3⟩ := fitL_all ds (by simpa only [fitB] using h)
    refine ⟨by simpa only [D.plain] using h1, ?_, ?_⟩
    · simpa only [D.py, PyData.showable] using h2
    · simpa only [D.py, PyData.leavesShort] using h3
  | .lst ds, h => by
    obtain ⟨h1, h2, h3⟩ := fitL_all ds (by simpa only [fitB] using h)
    refine ⟨by simpa only [D.plain] using h1, ?_, ?_⟩
    · simpa only [D.py, PyData.showable] using h2
    · simpa only [D.py, PyData.leavesShort] using h3
  | .fls _, h => by simp only [fitB] at h; cases h
  | .ref _, h => by simp only [fitB] at h; cases h
theorem fitL_all : ∀ ds : List D, fitL ds = true → plainL ds = true ∧ PyData.showableAll (pyL ds) = true ∧ PyData.leavesShortAll 401 (pyL ds) = true
  | [], _ => ⟨rfl, rfl, rfl⟩
  | d :: ds, h => by
    simp only [fitL, Bool.and_eq_true] at h
    obtain ⟨a1, a2, a3⟩ := fit_all d h.1
    obtain ⟨b1, b2, b3⟩ := fitL_all ds h.2
    refine ⟨?_, ?_, ?_⟩
    · simp only [plainL, a1, b1, Bool.and_self]
    · simp only [pyL, PyData.showableAll, a2, b2, Bool.and_self]
    · simp only [pyL, PyData.leavesShortAll, a3, b3, Bool.and_self]
end
theorem fitL_cons {d : D} {ds : List D} : fitL (d :: ds) = (fitB d && fitL ds) := by simp only [fitL]
theorem fitL_append : ∀ {as bs : List D}, fitL (as ++ bs) = (fitL as && fitL bs)
  | [], bs => by simp only [List.nil_append, fitL, Bool.true_and]
  | a :: as, bs => by simp only [List.cons_append, fitL, fitL_append (as := as), Bool.and_assoc]
theorem fitL_mem : ∀ {ds : List D}, fitL ds = true → ∀ d ∈ ds, fitB d = true
  | e :: ds, h, d, hd => by
    simp only [fitL, Bool.and_eq_true] at h
    rcases List.mem_cons.mp hd with rfl | hd
    · exact h.1
    · exact fitL_mem h.2 d hd
theorem fitL_of : ∀ {ds : List D}, (∀ d ∈ ds, fitB d = true) → fitL ds = true
  | [], _ => rfl
  | e :: ds, h => by
    simp only [fitL, h e List.mem_cons_self, fitL_of fun d hd => h d (List.mem_cons_of_mem _ hd), Bool.and_self]
theorem wtL_cons (d : D) (ds : List D) : wtL (d :: ds) = wt d + 1 + wtL ds := by simp only [wtL, wt, pyL, PyData.weightAll]
theorem wtL_append : ∀ (as bs : List D), wtL (as ++ bs) = wtL as + wtL bs
  | [], bs => by simp only [List.nil_append, wtL, pyL, PyData.weightAll, Nat.zero_add]
  | a :: as, bs => by rw [List.cons_append, wtL_cons, wtL_cons, wtL_append as]; omega
theorem wtL_len : ∀ ds : List D, ds.length ≤ wtL ds
  | [] => Nat.zero_le _
  | d :: ds => by
    have := wtL_len ds
    rw [wtL_cons, List.length_cons]
    omega
theorem wtL_mem : ∀ {ds : List D} {d : D}, d ∈ ds → wt d + 1 ≤ wtL ds
  | e :: ds, d, h => by
    rw [wtL_cons]
    rcases List.mem_cons.mp h with rfl | h
    · omega
    · have := wtL_mem h
      omega
theorem dpL_cons (d : D) (ds : List D) : dpL (d :: ds) = max (dp d) (dpL ds) := by simp only [dpL, dp, pyL, PyData.depthAll]
theorem dpL_append : ∀ (as bs : List D), dpL (as ++ bs) = max (dpL as) (dpL bs)
  | [], bs => by simp only [List.nil_append, dpL, pyL, PyData.depthAll, Nat.zero_max]
  | a :: as, bs => by rw [List.cons_append, dpL_cons, dpL_cons, dpL_append as]; omega
theorem dpL_mem : ∀ {ds : List D} {d : D}, d ∈ ds → dp d ≤ dpL ds
  | e :: ds, d, h => by
    rw [dpL_cons]
    rcases List.mem_cons.mp h with rfl | h
    · omega
    · have := dpL_mem h
      omega
theorem wt_tup (ds : List D) : wt (.tup ds) = wtL ds := by simp only [wt, wtL, D.py, PyData.weight]
theorem wt_lst (ds : List D) : wt (.lst ds) = wtL ds := by simp only [wt, wtL, D.py, PyData.weight]
theorem dp_tup (ds : List D) : dp (.tup ds) = dpL ds + 1 := by simp only [dp, dpL, D.py, PyData.depth]
theorem dp_lst (ds : List D) : dp (.lst ds) = dpL ds + 1 := by simp only [dp, dpL, D.py, PyData.depth]
theorem wtL_split (ds : List D) (n : Nat) : wtL (ds.take n) + wtL (ds.drop n) = wtL ds := by
  rw [← wtL_append, List.take_append_drop]
theorem dpL_take (ds : List D) (n : Nat) : dpL (ds.take n) ≤ dpL ds := by
  have h : dpL (ds.take n ++ ds.drop n) = dpL ds := by rw [List.take_append_drop]
  rw [dpL_append] at h
  omega
theorem dpL_drop (ds : List D) (n : Nat) : dpL (ds.drop n) ≤ dpL ds := by
  have h : dpL (ds.take n ++ ds.drop n) = dpL ds := by rw [List.take_append_drop]
  rw [dpL_append] at h
  omega
theorem fitL_take {ds : List D} (n : Nat) (h : fitL ds = true) : fitL (ds.take n) = true := fitL_of fun d hd => fitL_mem h d (List.mem_of_mem_take hd)
theorem fitL_drop {ds : List D} (n : Nat) (h : fitL ds = true) : fitL (ds.drop n) = true := fitL_of fun d hd => fitL_mem h d (List.mem_of_mem_drop hd)

/-! == with an empty list or tuple -/
theorem y_eqNil (S : Sto) (ys : List D) : eqX S (.lst ys) (.lst []) = some (.val (.bl ys.isEmpty)) := by
  cases ys with
  | nil => rfl
  | cons y ys =>
    have e : eqB S (.lst (y :: ys)) (.lst []) = if (shp (.lst (y :: ys)) && shp (.lst [])) = true then some false else none := rfl
    unfold eqX eqD
    rw [e]
    by_cases h : (shp (.lst (y :: ys)) && shp (.lst [])) = true
    · rw [if_pos h]
      rfl
    · rw [if_neg h]
      rfl
theorem y_neNil (S : Sto) (ys : List D) : neX S (.lst ys) (.lst []) = some (.val (.bl (!ys.isEmpty))) := by
  cases ys with
  | nil => rfl
  | cons y ys =>
    have e : eqB S (.lst (y :: ys)) (.lst []) = if (shp (.lst (y :: ys)) && shp (.lst [])) = true then some false else none := rfl
    unfold neX neD
    rw [e]
    by_cases h : (shp (.lst (y :: ys)) && shp (.lst [])) = true
    · rw [if_pos h]
      rfl
    · rw [if_neg h]
      rfl
theorem y_eqTup0 (S : Sto) (ys : List D) : eqX S (.tup ys) (.tup []) = some (.val (.bl ys.isEmpty)) := by
  cases ys with
  | nil => rfl
  | cons y ys =>
    have e : eqB S (.tup (y :: ys)) (.tup []) = if (shp (.tup (y :: ys)) && shp (.tup [])) = true then some false else none := rfl
    unfold eqX eqD
    rw [e]
    by_cases h : (shp (.tup (y :: ys)) && shp (.tup [])) = true
    · rw [if_pos h]
      rfl
    · rw [if_neg h]
      rfl

/-- data within bounds -/
structure Fit (w p : Nat) (d : D) : Prop where
  fit : fitB d = true
  wt : wt d ≤ w
  dp : dp d ≤ p
structure FitL (w p : Nat) (ds : List D) : Prop where
  fit : fitL ds = true
  wt : wtL ds ≤ w
  dp : dpL ds ≤ p
theorem Fit.mono {w p w' p' : Nat} {d : D} (h : Fit w p d) (hw : w ≤ w') (hp : p ≤ p') : Fit w' p' d := ⟨h.fit, Nat.le_trans h.wt hw, Nat.le_trans h.dp hp⟩
theorem FitL.mono {w p w' p' : Nat} {d : List D} (h : FitL w p d) (hw : w ≤ w') (hp : p ≤ p') : FitL w' p' d := ⟨h.fit, Nat.le_trans h.wt hw, Nat.le_trans h.dp hp⟩
theorem FitL.nil {w p : Nat} : FitL w p [] := ⟨rfl, Nat.zero_le _, Nat.zero_le _⟩
theorem FitL.cons {w w' p : Nat} {d : D} {ds : List D} (h : Fit w p d) (k : FitL w' p ds) : FitL (w + 1 + w') p (d :: ds) :=
  ⟨by rw [fitL_cons, h.fit, k.fit]; rfl, by rw [wtL_cons]; have := h.wt; have := k.wt; omega, by rw [dpL_cons]; have := h.dp; have := k.dp; omega⟩
theorem FitL.append {w w' p : Nat} {as bs : List D} (h : FitL w p as) (k : FitL w' p bs) : FitL (w + w') p (as ++ bs) :=
  ⟨by rw [fitL_append, h.fit, k.fit]; rfl, by rw [wtL_append]; have := h.wt; have := k.wt; omega, by rw [dpL_append]; have := h.dp; have := k.dp; omega⟩
theorem FitL.tup {w p : Nat} {ds : List D} (h : FitL w p ds) : Fit w (p + 1) (.tup ds) :=
  ⟨by simp only [fitB]; exact h.fit, by rw [wt_tup]; have := h.wt; omega, by rw [dp_tup]; have := h.dp; omega⟩
theorem FitL.lst {w p : Nat} {ds : List D} (h : FitL w p ds) : Fit w (p + 1) (.lst ds) :=
  ⟨by simp only [fitB]; exact h.fit, by rw [wt_lst]; have := h.wt; omega, by rw [dp_lst]; have := h.dp; omega⟩
theorem Fit.ofTup {w p : Nat} {ds : List D} (h : Fit w p (.tup ds)) : FitL w (p - 1) ds := by
  have h1 := h.wt
  have h2 := h.dp
  rw [wt_tup] at h1
  rw [dp_tup] at h2
  exact ⟨by have := h.fit; simp only [fitB] at this; exact this, by omega, by omega⟩
theorem Fit.inTup {w p : Nat} {ds : List D} (h : Fit w p (.tup ds)) : FitL w p ds := h.ofTup.mono (by omega) (by omega)
theorem FitL.mem {w p : Nat} {ds : List D} (h : FitL w p ds) {d : D} (hd : d ∈ ds) : Fit w p d :=
  ⟨fitL_mem h.fit d hd, by have := wtL_mem hd; have := h.wt; omega, by have := dpL_mem hd; have := h.dp; omega⟩
theorem FitL.take {w p : Nat} {ds : List D} (h : FitL w p ds) (n : Nat) : FitL w p (ds.take n) :=
  ⟨fitL_take n h.fit, by have := wtL_split ds n; have := h.wt; omega, by have := dpL_take ds n; have := h.dp; omega⟩
theorem FitL.drop {w p : Nat} {ds : List D} (h : FitL w p ds) (n : Nat) : FitL w p (ds.drop n) :=
  ⟨fitL_drop n h.fit, by have := wtL_split ds n; have := h.wt; omega, by have := dpL_drop ds n; have := h.dp; omega⟩
theorem FitL.len {w p : Nat} {ds : List D} (h : FitL w p ds) : ds.length ≤ w := Nat.le_trans (wtL_len ds) h.wt
theorem Fit.str_len {w p : Nat} {s : Str} (h : Fit w p (.str s)) : s.length ≤ w := by
  have h1 := h.wt
  have e : s.length + 0 ≤ Sf.wt (.str s) := by
    simp only [Sf.wt, D.py, PyData.weight]
    have : s.length = s.cps.size := rfl
    omega
  omega
theorem Fit.kind {w p : Nat} {d : D} (h : Fit w p d) : (∀ n, d ≠ .ref n) ∧ (∀ ds, d ≠ .fls ds) := by
  refine ⟨fun n e => ?_, fun ds e => ?_⟩ <;> (have := h.fit; rw [e] at this; simp only [fitB] at this; cases this)

/-- repr of it -/
theorem Fit.shown {w p : Nat} {d : D} (h : Fit w p d) (hw : w ≤ 40000) : d.py.shown.length ≤ sizeLine := by
  have e := PyData.shown_le 401 (by omega) d.py (fit_all d h.fit).2.2
  have := h.wt
  have e2 : (401 + 2) * d.py.weight ≤ 403 * 40000 := Nat.mul_le_mul (by omega) (Nat.le_trans h.wt hw)
  show _ ≤ 2 ^ 24
  omega
theorem y_repr {w p : Nat} {S : Sto} {d : D} (h : Fit w p d) (hw : w ≤ 40000) (hp : p ≤ 60) : reprY S [d] = some (.val (.str d.py.shown)) := by
  obtain ⟨h1, h2, _⟩ := fit_all d h.fit
  have ht : topd S d = d := by
    cases d <;> first | rfl | exact absurd rfl (h.kind.1 _)
  have e := h.shown hw
  have e2 := Nat.le_trans h.dp hp
  rw [← ht] at h1 h2 e
  have e3 : (topd S d).py.depth ≤ 60 := by rw [ht]; exact e2
  refine Eq.trans (b := if (topd S d).plain = true ∧ (topd S d).py.showable = true ∧ (topd S d).py.depth ≤ 60 ∧ (topd S d).py.shown.length ≤ sizeLine then some (Out.val (.str (topd S d).py.shown)) else _) rfl ?_
  rw [if_pos ⟨h1, h2, e3, e⟩, ht]
theorem y_reprB {w p : Nat} {S : Sto} {n : Nat} {ds : List D} (hS : S[n]? = some (.lst ds)) (h : Fit w p (.lst ds)) (hw : w ≤ 40000) (hp : p ≤ 60) : reprY S [.ref n] = some (.val (.str (D.lst ds).py.shown)) := by
  obtain ⟨h1, h2, _⟩ := fit_all _ h.fit
  have ht : topd S (.ref n) = .lst ds := by
    simp only [topd, hS]
  have e := h.shown hw
  have e2 := Nat.le_trans h.dp hp
  rw [← ht] at h1 h2 e
  have e3 : (topd S (.ref n)).py.depth ≤ 60 := by rw [ht]; exact e2
  refine Eq.trans (b := if (topd S (.ref n)).plain = true ∧ (topd S (.ref n)).py.showable = true ∧ (topd S (.ref n)).py.depth ≤ 60 ∧ (topd S (.ref n)).py.shown.length ≤ sizeLine then some (Out.val (.str (topd S (.ref n)).py.shown)) else _) rfl ?_
  rw [if_pos ⟨h1, h2, e3, e⟩, ht]
end Sf
/-! printed by gen.py: the derivations of this law's defs -/
namespace W10
open Sf L2 PySem PySem.Spec PyProof.Rows
def top (i : Nat) : Stmt := PySem.Challenge.pw_sameface_k10_what_bodies_tell.main.body.getD i (.Pass ⟨0, 0, 0, 0⟩)
structure Txt (w : World) (K : PySem.W.Frag) (mg : Str → Option Value) (base : Heap) : Prop where
  sys : SysB base
  n_abs : mg "abs" = none
  n_bool : mg "bool" = none
  n_int : mg "int" = none
  n_isinstance : mg "isinstance" = none
  n_len : mg "len" = none
  n_list : mg "list" = none
  n_max : mg "max" = none
  n_min : mg "min" = none
  n_range : mg "range" = none
  n_repr : mg "repr" = none
  n_str : mg "str" = none
  n_sum : mg "sum" = none
  n_tuple : mg "tuple" = none
  d_two_together : Dk K mg "two_together" (top 2) ["word", "first", "second"]
  d_value_of : Dk K mg "value_of" (top 1) ["expression", "fields"]
  d_given_by : Dk K mg "given_by" (top 3) ["body", "fields"]
  d_law_begun : Dk K mg "_law_begun" (top 5) ["_law_script", "_law_k"]
  d_law_pick : Dk K mg "_law_pick" (top 6) ["_law_state", "_law_many"]
  d_law_among : Dk K mg "_law_among" (top 7) ["_law_thing", "_law_least", "_law_most"]
  d_law_looked : Dk K mg "_law_looked" (top 8) ["_law_thing", "_law_counts", "_law_many"]
  d_law_expression : Dk K mg "_law_expression" (top 9) ["_law_state", "_law_counts", "_law_deep"]
  d_law_body : Dk K mg "_law_body" (top 10) ["_law_state", "_law_counts", "_law_many", "_law_deep"]
  d_law_value : Dk K mg "_law_value" (top 11) ["_law_thing", "_law_fields"]
  d_law_given : Dk K mg "_law_given" (top 12) ["_law_body_here", "_law_fields"]
  d_law_drawn_fields : Dk K mg "_law_drawn_fields" (top 13) ["_law_state", "_law_counts"]
  d_law_right : Dk K mg "_law_right" (top 14) ["_law_expression_here", "_law_body_here", "_law_fields"]
  d_law_words_right : Dk K mg "_law_words_right" (top 15) []
  d_law : Dk K mg "law" (top 16) ["_law_script"]
section
variable {P : Program} {w : World} {K : PySem.W.Frag} {mg : Str → Option Value} {base : Heap}
theorem sc_two_together : FnScope ["word", "first", "second"] ["word", "first", "second"] (L2.defScope (top 2)) := sc_by (by decide +kernel)
def den_two_together : MD := defD 3
 ((sSeq (sIf (tst (d2 eqX (dVar 0) (dC (.str "plus")))) (sRet (d2 addD (dVar 1) (dVar 2))) sNext)
 (sSeq (sIf (tst (d2 eqX (dVar 0) (dC (.str "less")))) (sRet (d2 subD (dVar 1) (dVar 2))) sNext)
 (sSeq (sIf (tst (d2 eqX (dVar 0) (dC (.str "times")))) (sRet (d2 mulWD (dVar 1) (dVar 2))) sNext)
 (sRet (dIf (tst (d2 eqX (dVar 0) (dC (.str "same")))) (dCl intD (aCons (d2 eqX (dVar 1) (dVar 2)) aNil)) (dCl intD (aCons (d2 ltD (dVar 1) (dVar 2)) aNil))))))))
theorem g_two_together (T : Txt w K mg base) : Cl P w K mg base 1 "two_together" 3 den_two_together := cl_of (k := 0) T.d_two_together sc_two_together fun f cdv A outer s H E Z =>
 (ss_cons
 (s_if (t_cmp (op_eqX Z.hu) (d_var 0) d_str (nomark _)) (ss_one
 (s_ret (d_op op_addD (d_var 1) (d_var 2)))) ss_nil) (ss_cons
 (s_if (t_cmp (op_eqX Z.hu) (d_var 0) d_str (nomark _)) (ss_one
 (s_ret (d_op op_subD (d_var 1) (d_var 2)))) ss_nil) (ss_cons
 (s_if (t_cmp (op_eqX Z.hu) (d_var 0) d_str (nomark _)) (ss_one
 (s_ret (d_op op_mulWD (d_var 1) (d_var 2)))) ss_nil) (ss_one
 (s_ret (d_if (t_cmp (op_eqX Z.hu) (d_var 0) d_str (nomark _)) (d_callTy cl_int (by rfl) T.n_int bt_int (a_cons (d_cmp (op_eqX Z.hu) (d_var 1) (d_var 2) (nomark _)) a_nil)) (d_callTy cl_int (by rfl) T.n_int bt_int (a_cons (d_cmp op_ltD (d_var 1) (d_var 2) (nomark _)) a_nil))))))))
theorem sc_value_of : FnScope ["expression", "fields", "word", "first"] ["expression", "fields"] (L2.defScope (top 1)) := sc_by (by decide +kernel)
def den_value_of : Nat → MD
 | 0 => fun _ _ => none
 | k + 1 => defD 4 ((sSeq (sAsg 2 (d2 ixD (dVar 0) (dC (.int 0))))
 (sSeq (sIf (tst (d2 eqX (dVar 2) (dC (.str "number")))) (sRet (d2 ixD (dVar 0) (dC (.int 1)))) sNext)
 (sSeq (sIf (tst (d2 eqX (dVar 2) (dC (.str "in")))) (sRet (d2 ixD (d2 ixD (dVar 1) (d2 ixD (dVar 0) (dC (.int 1)))) (d2 ixD (dVar 0) (dC (.int 2))))) sNext)
 (sSeq (sAsg 3 (dFn 2 (den_value_of k) (aCons (d2 ixD (dVar 0) (dC (.int 1))) (aCons (dVar 1) aNil))))
 (sSeq (sIf (tst (d2 eqX (dVar 2) (dC (.str "rest")))) (sRet (d2 modD (dVar 3) (d2 ixD (dVar 0) (dC (.int 2))))) sNext)
 (sSeq (sIf (tst (d2 eqX (dVar 2) (dC (.str "if")))) (sRet (dFn 2 (den_value_of k) (aCons (dIf (tst (d2 neX (dVar 3) (dC (.int 0)))) (d2 ixD (dVar 0) (dC (.int 2))) (d2 ixD (dVar 0) (dC (.int 3)))) (aCons (dVar 1) aNil)))) sNext)
 (sRet (dFn 3 den_two_together (aCons (dVar 2) (aCons (dVar 3) (aCons (dFn 2 (den_value_of k) (aCons (d2 ixD (dVar 0) (dC (.int 2))) (aCons (dVar 1) aNil))) aNil))))))))))))
theorem g_value_of (T : Txt w K mg base) : ∀ k, Cl P w K mg base (1 + k) "value_of" 2 (den_value_of k)
 | 0 => cl_bot T.d_value_of
 | k + 1 => by
  have ih := g_value_of T k
  exact cl_of (k := 1 + k) T.d_value_of sc_value_of fun f cdv A outer s H E Z =>
 (ss_cons
 (s_asg (i := 2) sc_value_of.nd (by rfl) (by first | exact Or.inl rfl | exact Or.inr rfl) (d_ix (d_var 0) d_int)) (ss_cons
 (s_if (t_cmp (op_eqX Z.hu) (d_var 2) d_str (nomark _)) (ss_one
 (s_ret (d_ix (d_var 0) d_int))) ss_nil) (ss_cons
 (s_if (t_cmp (op_eqX Z.hu) (d_var 2) d_str (nomark _)) (ss_one
 (s_ret (d_ix (d_ix (d_var 1) (d_ix (d_var 0) d_int)) (d_ix (d_var 0) d_int)))) ss_nil) (ss_cons
 (s_asg (i := 3) sc_value_of.nd (by rfl) (by first | exact Or.inl rfl | exact Or.inr rfl) (d_c ih Z (Nat.le_refl _) (by rfl) (a_cons (d_ix (d_var 0) d_int) (a_cons (d_var 1) a_nil)))) (ss_cons
 (s_if (t_cmp (op_eqX Z.hu) (d_var 2) d_str (nomark _)) (ss_one
 (s_ret (d_op op_modD (d_var 3) (d_ix (d_var 0) d_int)))) ss_nil) (ss_cons
 (s_if (t_cmp (op_eqX Z.hu) (d_var 2) d_str (nomark _)) (ss_one
 (s_ret (d_c ih Z (Nat.le_refl _) (by rfl) (a_cons (d_if (t_cmp (op_neX Z.hu) (d_var 3) d_int (nomark _)) (d_ix (d_var 0) d_int) (d_ix (d_var 0) d_int)) (a_cons (d_var 1) a_nil))))) ss_nil) (ss_one
 (s_ret (d_c (g_two_together T) Z (by omega) (by rfl) (a_cons (d_var 2) (a_cons (d_var 3) (a_cons (d_c ih Z (Nat.le_refl _) (by rfl) (a_cons (d_ix (d_var 0) d_int) (a_cons (d_var 1) a_nil))) a_nil))))))))))))
theorem sc_given_by : FnScope ["body", "fields", "one"] ["body", "fields"] (L2.defScope (top 3)) := sc_by (by decide +kernel)
def den_given_by : MD := defD 3
 ((sSeq (loopW (tst (d2 eqX (d2 ixD (dVar 0) (dC (.int 0))) (dC (.str "when")))) (sAsg 0 (dIf (tst (d2 neX (dFn 2 (den_value_of 12) (aCons (d2 ixD (dVar 0) (dC (.int 1))) (aCons (dVar 1) aNil))) (dC (.int 0)))) (d2 ixD (dVar 0) (dC (.int 2))) (d2 ixD (dVar 0) (dC (.int 3))))) 10)
 (sRet (dIf (tst (d2 eqX (d2 ixD (dVar 0) (dC (.int 0))) (dC (.str "give")))) (dCl tupleD (aCons (dComp (itSeq (d2 ixD (dVar 0) (dC (.int 1)))) (tName 2) bYes (dFn 2 (den_value_of 12) (aCons (dVar 2) (aCons (dVar 1) aNil))) [2]) aNil)) (dC .non)))))
theorem g_given_by (T : Txt w K mg base) : Cl P w K mg base 14 "given_by" 2 den_given_by := cl_of (k := 13) T.d_given_by sc_given_by fun f cdv A outer s H E Z =>
 (ss_cons
 (s_while 10 (L2.passes_of rfl) (t_cmp (op_eqX Z.hu) (d_ix (d_var 0) d_int) d_str (nomark _)) (ss_one
 (s_asg (i := 0) sc_given_by.nd (by rfl) (by first | exact Or.inl rfl | exact Or.inr rfl) (d_if (t_cmp (op_neX Z.hu) (d_c (g_value_of T 12) Z (by decide) (by rfl) (a_cons (d_ix (d_var 0) d_int) (a_cons (d_var 1) a_nil))) d_int (nomark _)) (d_ix (d_var 0) d_int) (d_ix (d_var 0) d_int))))) (ss_one
 (s_ret (d_if (t_cmp (op_eqX Z.hu) (d_ix (d_var 0) d_int) d_str (nomark _)) (d_callTy cl_tuple (by rfl) T.n_tuple bt_tuple (a_cons (d_comp Z.calm sc_given_by.nd (i_seq (d_ix (d_var 0) d_int)) (blkOk_by (own := [("one", 2)]) (by kernel_rfl)) (fun _ _ _ _ _ => (g_name sc_given_by.nd (by rfl) (by first | exact Or.inl rfl | exact Or.inr rfl))) (fun _ _ _ _ _ => ts_nil) (fun _ _ _ _ _ => (d_c (g_value_of T 12) Z.blk (by decide) (by rfl) (a_cons (d_var 2) (a_cons (d_var 1) a_nil)))) (by decide)) a_nil)) d_non))))
theorem sc_law_begun : FnScope ["_law_script", "_law_k", "_law_cell", "_law_mixed"] ["_law_script", "_law_k"] (L2.defScope (top 5)) := sc_by (by decide +kernel)
def den_law_begun : MD := defD 4
 ((sSeq (sAsg 2 (dIf (tst (dChain leD ltD (dC (.int 0)) (dVar 1) (dCl lenD (aCons (dVar 0) aNil)))) (d2 ixD (dVar 0) (dVar 1)) (dC (.int 5))))
 (sSeq (sAsg 3 (d2 addD (d2 addD (d2 modD (dVar 2) (dC (.int 1000000007))) (d2 mulWD (dC (.int 7919)) (dVar 1))) (dC (.int 13))))
 (sSeq (sAsg 3 (d2 modD (d2 mulWD (d2 modD (d2 mulWD (dVar 3) (dVar 3)) (dC (.int 2147483629))) (dC (.int 48271))) (dC (.int 2147483647))))
 (sRet (dDisp [("digits", (dIf (tst (d2 geD (dCl absD (aCons (dVar 2) aNil)) (d2 powD (dC (.int 10)) (dC (.int 18))))) (d2 modD (dCl absD (aCons (dVar 2) aNil)) (d2 mulWD (d2 powD (dC (.int 10)) (dC (.int 60))) (d2 powD (dC (.int 10)) (dC (.int 60))))) (dC (.int 0)))), ("number", (dVar 3))]))))))
theorem g_law_begun (T : Txt w K mg base) : Cl P w K mg base 1 "_law_begun" 2 den_law_begun := cl_of (k := 0) T.d_law_begun sc_law_begun fun f cdv A outer s H E Z =>
 (ss_cons
 (s_asg (i := 2) sc_law_begun.nd (by rfl) (by first | exact Or.inl rfl | exact Or.inr rfl) (d_if (t_chain op_leD op_ltD d_int (d_var 1) (d_callB cl_len (by rfl) T.n_len bt_len (a_cons (d_var 0) a_nil))) (d_ix (d_var 0) (d_var 1)) d_int)) (ss_cons
 (s_asg (i := 3) sc_law_begun.nd (by rfl) (by first | exact Or.inl rfl | exact Or.inr rfl) (d_op op_addD (d_op op_addD (d_op op_modD (d_var 2) d_int) (d_op op_mulWD d_int (d_var 1))) d_int)) (ss_cons
 (s_asg (i := 3) sc_law_begun.nd (by rfl) (by first | exact Or.inl rfl | exact Or.inr rfl) (d_op op_modD (d_op op_mulWD (d_op op_modD (d_op op_mulWD (d_var 3) (d_var 3)) d_int) d_int) d_int)) (ss_one
 (s_ret (d_disp [("digits", (dIf (tst (d2 geD (dCl absD (aCons (dVar 2) aNil)) (d2 powD (dC (.int 10)) (dC (.int 18))))) (d2 modD (dCl absD (aCons (dVar 2) aNil)) (d2 mulWD (d2 powD (dC (.int 10)) (dC (.int 60))) (d2 powD (dC (.int 10)) (dC (.int 60))))) (dC (.int 0)))), ("number", (dVar 3))] (pps_cons pe_str (d_if (t_cmp op_geD (d_callB cl_abs (by rfl) T.n_abs bt_abs (a_cons (d_var 2) a_nil)) (d_op op_powD d_int d_int) (nomark _)) (d_op op_modD (d_callB cl_abs (by rfl) T.n_abs bt_abs (a_cons (d_var 2) a_nil)) (d_op op_mulWD (d_op op_powD d_int d_int) (d_op op_powD d_int d_int))) d_int).d (pps_cons pe_str (d_var 3).d pps_nil)) (by rfl) (by rfl) (by simp) (by decide) (by decide) (by decide +kernel)))))))
theorem sc_law_pick : FnScope ["_law_state", "_law_many", "_law_digits", "_law_number"] ["_law_state", "_law_many"] (L2.defScope (top 6)) := sc_by (by decide +kernel)
def den_law_pick : MD := defD 4
 ((sSeq (sAsg 2 (d2 dgD (dVar 0) (dC (.str "digits"))))
 (sSeq (sIf (tst (d2 gtD (dVar 2) (dC (.int 0)))) (sSeq (sDput (dVar 0) (dC (.str "digits")) (d2 fdivD (dVar 2) (dVar 1)))
 (sRet (d2 modD (dVar 2) (dVar 1)))) sNext)
 (sSeq (sAsg 3 (d2 modD (d2 addD (d2 mulX (d2 dgD (dVar 0) (dC (.str "number"))) (dC (.int 48271))) (dC (.int 11))) (dC (.int 2147483647))))
 (sSeq (sDput (dVar 0) (dC (.str "number")) (dVar 3))
 (sRet (d2 modD (d2 fdivD (d2 modD (d2 mulX (dVar 3) (d2 addD (dVar 3) (dC (.int 7919)))) (dC (.int 2147483629))) (dC (.int 7))) (dVar 1))))))))
theorem g_law_pick (T : Txt w K mg base) : Cl P w K mg base 1 "_law_pick" 2 den_law_pick := cl_of (k := 0) T.d_law_pick sc_law_pick fun f cdv A outer s H E Z =>
 (ss_cons
 (s_asg (i := 2) sc_law_pick.nd (by rfl) (by first | exact Or.inl rfl | exact Or.inr rfl) (d_dg Z.hus (d_var 0) d_str)) (ss_cons
 (s_if (t_cmp op_gtD (d_var 2) d_int (nomark _)) (ss_cons
 (s_dput Z.hus (d_var 0) d_str (d_op op_fdivD (d_var 2) (d_var 1))) (ss_one
 (s_ret (d_op op_modD (d_var 2) (d_var 1))))) ss_nil) (ss_cons
 (s_asg (i := 3) sc_law_pick.nd (by rfl) (by first | exact Or.inl rfl | exact Or.inr rfl) (d_op op_modD (d_op op_addD (d_op op_mulX (d_dg Z.hus (d_var 0) d_str) d_int) d_int) d_int)) (ss_cons
 (s_dput Z.hus (d_var 0) d_str (d_var 3)) (ss_one
 (s_ret (d_op op_modD (d_op op_fdivD (d_op op_modD (d_op op_mulX (d_var 3) (d_op op_addD (d_var 3) d_int)) d_int) d_int) (d_var 1))))))))
theorem sc_law_among : FnScope ["_law_thing", "_law_least", "_law_most"] ["_law_thing", "_law_least", "_law_most"] (L2.defScope (top 7)) := sc_by (by decide +kernel)
def den_law_among : MD := defD 3
 ((sRet (dAnd (dIsi "int" (dVar 0)) (dAnd (dNot (dIsi "bool" (dVar 0))) (dChain leD leD (dVar 1) (dVar 0) (dVar 2))))))
theorem g_law_among (T : Txt w K mg base) : Cl P w K mg base 1 "_law_among" 3 den_law_among := cl_of (k := 0) T.d_law_among sc_law_among fun f cdv A outer s H E Z =>
 (ss_one
 (s_ret (d_and (d_isi (T := "int") (by decide +kernel) (d_var 0) (by rfl) T.n_isinstance (by rfl) T.n_int bt_int bt_isinstance) (d_and (d_not (d_isi (T := "bool") (by decide +kernel) (d_var 0) (by rfl) T.n_isinstance (by rfl) T.n_bool bt_bool bt_isinstance)) (d_one (d_chain op_leD op_leD (d_var 1) (d_var 0) (d_var 2)))))))
theorem sc_law_looked : FnScope ["_law_thing", "_law_counts", "_law_many", "_law_inner", "_law_sizes", "_law_found", "_law_word", "_law_more", "_law_one", "_law_kind"] ["_law_thing", "_law_counts", "_law_many"] (L2.defScope (top 8)) := sc_by (by decide +kernel)
def den_law_looked : Nat → MD
 | 0 => fun _ _ => none
 | k + 1 => defD 10 ((sSeq (sIf (bOr (bNot (dTru (dIsi "tuple" (dVar 0)))) (bOr (tst (d2 eqX (dVar 0) (dTup aNil))) (bNot (dTru (dIsi "str" (d2 ixD (dVar 0) (dC (.int 0)))))))) (sRet (dC .non)) sNext)
 (sSeq (sPar 6 7 (aCons (d2 ixD (dVar 0) (dC (.int 0))) (aCons (dSl (dVar 0) (pSome (dC (.int 1))) pNone) aNil)))
 (sSeq (sAsg 3 (dC .non))
 (sSeq (sIf (bAnd (tst (d2 isD (dVar 2) (dC .non))) (bAnd (tst (d2 eqX (dVar 6) (dC (.str "number")))) (bAnd (tst (d2 eqX (dCl lenD (aCons (dVar 7) aNil)) (dC (.int 1)))) (dTru (dFn 3 den_law_among (aCons (d2 ixD (dVar 7) (dC (.int 0))) (aCons (dC (.int 0)) (aCons (dC (.int 99)) aNil)))))))) (sAsg 3 (dLst aNil)) sNext)
 (sSeq (sIf (bAnd (tst (d2 isD (dVar 2) (dC .non))) (bAnd (tst (d2 eqX (dVar 6) (dC (.str "in")))) (bAnd (tst (d2 eqX (dCl lenD (aCons (dVar 7) aNil)) (dC (.int 2)))) (dTru (dFn 3 den_law_among (aCons (d2 ixD (dVar 7) (dC (.int 0))) (aCons (dC (.int 0)) (aCons (d2 subD (dCl lenD (aCons (dVar 1) aNil)) (dC (.int 1))) aNil)))))))) (sAsg 3 (dIf (dTru (dFn 3 den_law_among (aCons (d2 ixD (dVar 7) (dC (.int 1))) (aCons (dC (.int 0)) (aCons (d2 subD (d2 ixD (dVar 1) (d2 ixD (dVar 7) (dC (.int 0)))) (dC (.int 1))) aNil))))) (dLst aNil) (dC .non))) sNext)
 (sSeq (sIf (bAnd (tst (d2 isD (dVar 2) (dC .non))) (bAnd (tst (d2 eqX (dVar 6) (dC (.str "rest")))) (bAnd (tst (d2 eqX (dCl lenD (aCons (dVar 7) aNil)) (dC (.int 2)))) (dTru (dFn 3 den_law_among (aCons (d2 ixD (dVar 7) (dC (.int 1))) (aCons (dC (.int 2)) (aCons (dC (.int 99)) aNil)))))))) (sAsg 3 (dLst (aCons (dTup (aCons (d2 ixD (dVar 7) (dC (.int 0))) (aCons (dC .non) aNil))) aNil))) sNext)
 (sSeq (sAsg 4 (dDisp [("plus", (dC (.int 2))), ("less", (dC (.int 2))), ("times", (dC (.int 2))), ("same", (dC (.int 2))), ("under", (dC (.int 2))), ("if", (dC (.int 3)))]))
 (sSeq (sIf (bAnd (tst (d2 isD (dVar 2) (dC .non))) (tst (dChain eqX gtD (dMt "dict" dgetD (dVar 4) (aCons (dVar 6) (aCons (dC (.int 0)) aNil))) (dCl lenD (aCons (dVar 7) aNil)) (dC (.int 0))))) (sAsg 3 (dComp (itSeq (dVar 7)) (tName 8) bYes (dTup (aCons (dVar 8) (aCons (dC .non) aNil))) [8])) sNext)
 (sSeq (sIf (bAnd (tst (d2 isNotD (dVar 2) (dC .non))) (bAnd (tst (d2 eqX (dVar 6) (dC (.str "refuse")))) (tst (d2 eqX (dVar 7) (dTup aNil))))) (sAsg 3 (dLst aNil)) sNext)
 (sSeq (sIf (bAnd (tst (d2 isNotD (dVar 2) (dC .non))) (bAnd (tst (d2 eqX (dVar 6) (dC (.str "give")))) (bAnd (tst (d2 eqX (dCl lenD (aCons (dVar 7) aNil)) (dC (.int 1)))) (bAnd (dTru (dIsi "tuple" (d2 ixD (dVar 7) (dC (.int 0))))) (tst (d2 eqX (dCl lenD (aCons (d2 ixD (dVar 7) (dC (.int 0))) aNil)) (dVar 2))))))) (sAsg 3 (dComp (itSeq (d2 ixD (dVar 7) (dC (.int 0)))) (tName 8) bYes (dTup (aCons (dVar 8) (aCons (dC .non) aNil))) [8])) sNext)
 (sSeq (sIf (bAnd (tst (d2 isNotD (dVar 2) (dC .non))) (bAnd (tst (d2 eqX (dVar 6) (dC (.str "when")))) (tst (d2 eqX (dCl lenD (aCons (dVar 7) aNil)) (dC (.int 3)))))) (sAsg 3 (dLst (aCons (dTup (aCons (d2 ixD (dVar 7) (dC (.int 0))) (aCons (dC .non) aNil))) (aCons (dTup (aCons (d2 ixD (dVar 7) (dC (.int 1))) (aCons (dVar 2) aNil))) (aCons (dTup (aCons (d2 ixD (dVar 7) (dC (.int 2))) (aCons (dVar 2) aNil))) aNil))))) sNext)
 (sSeq (sIf (tst (d2 isD (dVar 3) (dC .non))) (sRet (dC .non)) sNext)
 (sSeq (sAsg 5 (dComp (itSeq (dVar 3)) (tTup (tsCons (tName 8) (tsCons (tName 9) tsNil))) bYes (dFn 3 (den_law_looked k) (aCons (dVar 8) (aCons (dVar 1) (aCons (dVar 9) aNil)))) [8, 9]))
 (sSeq (sIf (tst (d2 inD (dC .non) (dVar 5))) (sRet (dC .non)) sNext)
 (sRet (dTup (aCons (d2 addD (dC (.int 1)) (dCl sumD (aCons (dComp (itSeq (dVar 5)) (tName 8) bYes (d2 ixD (dVar 8) (dC (.int 0))) [8]) aNil))) (aCons (d2 addD (dC (.int 1)) (dCl maxD (aCons (d2 addD (dLst (aCons (dC (.int 0)) aNil)) (dComp (itSeq (dVar 5)) (tName 8) bYes (d2 ixD (dVar 8) (dC (.int 1))) [8])) aNil))) aNil)))))))))))))))))))
theorem g_law_looked (T : Txt w K mg base) : ∀ k, Cl P w K mg base (1 + k) "_law_looked" 3 (den_law_looked k)
 | 0 => cl_bot T.d_law_looked
 | k + 1 => by
  have ih := g_law_looked T k
  exact cl_of (k := 1 + k) T.d_law_looked sc_law_looked fun f cdv A outer s H E Z =>
 (ss_cons
 (s_if (t_w (w_or (t_not (t_tru (d_isi (T := "tuple") (by decide +kernel) (d_var 0) (by rfl) T.n_isinstance (by rfl) T.n_tuple bt_tuple bt_isinstance))) (w_or (t_cmp (op_eqX Z.hu) (d_var 0) (d_tup a_nil) (nomark _)) (w_or1 (t_not (t_tru (d_isi (T := "str") (by decide +kernel) (d_ix (d_var 0) d_int) (by rfl) T.n_isinstance (by rfl) T.n_str bt_str bt_isinstance))))))) (ss_one
 (s_ret d_non)) ss_nil) (ss_cons
 (s_par (i := 6) (j := 7) Z.calm sc_law_looked.nd (by rfl) (by rfl) (by decide) (by rfl) (by rfl) (a_cons (d_ix (d_var 0) d_int) (a_cons (d_sl (d_var 0) (p_some d_int) p_none) a_nil)) (by rfl)) (ss_cons
 (s_asg (i := 3) sc_law_looked.nd (by rfl) (by first | exact Or.inl rfl | exact Or.inr rfl) d_non) (ss_cons
 (s_if (t_w (w_and (t_cmp op_isD (d_var 2) d_non (nomark _)) (w_and (t_cmp (op_eqX Z.hu) (d_var 6) d_str (nomark _)) (w_and (t_cmp (op_eqX Z.hu) (d_callB cl_len (by rfl) T.n_len bt_len (a_cons (d_var 7) a_nil)) d_int (nomark _)) (w_and1 (t_tru (d_c (g_law_among T) Z (by omega) (by rfl) (a_cons (d_ix (d_var 7) d_int) (a_cons d_int (a_cons d_int a_nil)))))))))) (ss_one
 (s_asg (i := 3) sc_law_looked.nd (by rfl) (by first | exact Or.inl rfl | exact Or.inr rfl) (d_lst a_nil))) ss_nil) (ss_cons
 (s_if (t_w (w_and (t_cmp op_isD (d_var 2) d_non (nomark _)) (w_and (t_cmp (op_eqX Z.hu) (d_var 6) d_str (nomark _)) (w_and (t_cmp (op_eqX Z.hu) (d_callB cl_len (by rfl) T.n_len bt_len (a_cons (d_var 7) a_nil)) d_int (nomark _)) (w_and1 (t_tru (d_c (g_law_among T) Z (by omega) (by rfl) (a_cons (d_ix (d_var 7) d_int) (a_cons d_int (a_cons (d_op op_subD (d_callB cl_len (by rfl) T.n_len bt_len (a_cons (d_var 1) a_nil)) d_int) a_nil)))))))))) (ss_one
 (s_asg (i := 3) sc_law_looked.nd (by rfl) (by first | exact Or.inl rfl | exact Or.inr rfl) (d_if (t_tru (d_c (g_law_among T) Z (by omega) (by rfl) (a_cons (d_ix (d_var 7) d_int) (a_cons d_int (a_cons (d_op op_subD (d_ix (d_var 1) (d_ix (d_var 7) d_int)) d_int) a_nil))))) (d_lst a_nil) d_non))) ss_nil) (ss_cons
 (s_if (t_w (w_and (t_cmp op_isD (d_var 2) d_non (nomark _)) (w_and (t_cmp (op_eqX Z.hu) (d_var 6) d_str (nomark _)) (w_and (t_cmp (op_eqX Z.hu) (d_callB cl_len (by rfl) T.n_len bt_len (a_cons (d_var 7) a_nil)) d_int (nomark _)) (w_and1 (t_tru (d_c (g_law_among T) Z (by omega) (by rfl) (a_cons (d_ix (d_var 7) d_int) (a_cons d_int (a_cons d_int a_nil)))))))))) (ss_one
 (s_asg (i := 3) sc_law_looked.nd (by rfl) (by first | exact Or.inl rfl | exact Or.inr rfl) (d_lst (a_cons (d_tup (a_cons (d_ix (d_var 7) d_int) (a_cons d_non a_nil))) a_nil)))) ss_nil) (ss_cons
 (s_asg (i := 4) sc_law_looked.nd (by rfl) (by first | exact Or.inl rfl | exact Or.inr rfl) (d_disp [("plus", (dC (.int 2))), ("less", (dC (.int 2))), ("times", (dC (.int 2))), ("same", (dC (.int 2))), ("under", (dC (.int 2))), ("if", (dC (.int 3)))] (pps_cons pe_str d_int.d (pps_cons pe_str d_int.d (pps_cons pe_str d_int.d (pps_cons pe_str d_int.d (pps_cons pe_str d_int.d (pps_cons pe_str d_int.d pps_nil)))))) (by rfl) (by rfl) (by simp) (by decide) (by decide) (by decide +kernel))) (ss_cons
 (s_if (t_w (w_and (t_cmp op_isD (d_var 2) d_non (nomark _)) (w_and1 (t_chain (op_eqX Z.hu) op_gtD (d_mt F.plainAttrs_dict F.slot_dict_get F.type_dict_get (mt_dgetD Z.hus) (d_var 4) (a_cons (d_var 6) (a_cons d_int a_nil))) (d_callB cl_len (by rfl) T.n_len bt_len (a_cons (d_var 7) a_nil)) d_int)))) (ss_one
 (s_comp (i := 3) Z.calm sc_law_looked.nd (by rfl) (by rfl) (by rfl) (i_seq (d_var 7)) (blkOk_by (own := [("_law_one", 8)]) (by kernel_rfl)) (fun _ _ _ _ _ => (g_name sc_law_looked.nd (by rfl) (by first | exact Or.inl rfl | exact Or.inr rfl))) (fun _ _ _ _ _ => ts_nil) (fun _ _ _ _ _ => (d_tup (a_cons (d_var 8) (a_cons d_non a_nil)))) (by decide))) ss_nil) (ss_cons
 (s_if (t_w (w_and (t_cmp op_isNotD (d_var 2) d_non (nomark _)) (w_and (t_cmp (op_eqX Z.hu) (d_var 6) d_str (nomark _)) (w_and1 (t_cmp (op_eqX Z.hu) (d_var 7) (d_tup a_nil) (nomark _)))))) (ss_one
 (s_asg (i := 3) sc_law_looked.nd (by rfl) (by first | exact Or.inl rfl | exact Or.inr rfl) (d_lst a_nil))) ss_nil) (ss_cons
 (s_if (t_w (w_and (t_cmp op_isNotD (d_var 2) d_non (nomark _)) (w_and (t_cmp (op_eqX Z.hu) (d_var 6) d_str (nomark _)) (w_and (t_cmp (op_eqX Z.hu) (d_callB cl_len (by rfl) T.n_len bt_len (a_cons (d_var 7) a_nil)) d_int (nomark _)) (w_and (t_tru (d_isi (T := "tuple") (by decide +kernel) (d_ix (d_var 7) d_int) (by rfl) T.n_isinstance (by rfl) T.n_tuple bt_tuple bt_isinstance)) (w_and1 (t_cmp (op_eqX Z.hu) (d_callB cl_len (by rfl) T.n_len bt_len (a_cons (d_ix (d_var 7) d_int) a_nil)) (d_var 2) (nomark _)))))))) (ss_one
 (s_comp (i := 3) Z.calm sc_law_looked.nd (by rfl) (by rfl) (by rfl) (i_seq (d_ix (d_var 7) d_int)) (blkOk_by (own := [("_law_one", 8)]) (by kernel_rfl)) (fun _ _ _ _ _ => (g_name sc_law_looked.nd (by rfl) (by first | exact Or.inl rfl | exact Or.inr rfl))) (fun _ _ _ _ _ => ts_nil) (fun _ _ _ _ _ => (d_tup (a_cons (d_var 8) (a_cons d_non a_nil)))) (by decide))) ss_nil) (ss_cons
 (s_if (t_w (w_and (t_cmp op_isNotD (d_var 2) d_non (nomark _)) (w_and (t_cmp (op_eqX Z.hu) (d_var 6) d_str (nomark _)) (w_and1 (t_cmp (op_eqX Z.hu) (d_callB cl_len (by rfl) T.n_len bt_len (a_cons (d_var 7) a_nil)) d_int (nomark _)))))) (ss_one
 (s_asg (i := 3) sc_law_looked.nd (by rfl) (by first | exact Or.inl rfl | exact Or.inr rfl) (d_lst (a_cons (d_tup (a_cons (d_ix (d_var 7) d_int) (a_cons d_non a_nil))) (a_cons (d_tup (a_cons (d_ix (d_var 7) d_int) (a_cons (d_var 2) a_nil))) (a_cons (d_tup (a_cons (d_ix (d_var 7) d_int) (a_cons (d_var 2) a_nil))) a_nil)))))) ss_nil) (ss_cons
 (s_if (t_cmp op_isD (d_var 3) d_non (nomark _)) (ss_one
 (s_ret d_non)) ss_nil) (ss_cons
 (s_comp (i := 5) Z.calm sc_law_looked.nd (by rfl) (by rfl) (by rfl) (i_seq (d_var 3)) (blkOk_by (own := [("_law_one", 8), ("_law_kind", 9)]) (by kernel_rfl)) (fun _ _ _ _ _ => (g_tup Z.calm (gs_cons (g_name sc_law_looked.nd (by rfl) (by first | exact Or.inl rfl | exact Or.inr rfl)) (gs_cons (g_name sc_law_looked.nd (by rfl) (by first | exact Or.inl rfl | exact Or.inr rfl)) gs_nil)) (len_cons (len_cons (fun _ _ _ h => len_nil h))))) (fun _ _ _ _ _ => ts_nil) (fun _ _ _ _ _ => (d_c ih Z.blk (Nat.le_refl _) (by rfl) (a_cons (d_var 8) (a_cons (d_var 1) (a_cons (d_var 9) a_nil))))) (by decide)) (ss_cons
 (s_if (t_cmp (op_inD Z.hu1) d_non (d_var 5) (by with_unfolding_all rfl)) (ss_one
 (s_ret d_non)) ss_nil) (ss_one
 (s_ret (d_tup (a_cons (d_op op_addD d_int (d_callB (cl_sum Z.calm) (by rfl) T.n_sum bt_sum (a_cons (d_comp Z.calm sc_law_looked.nd (i_seq (d_var 5)) (blkOk_by (own := [("_law_one", 8)]) (by kernel_rfl)) (fun _ _ _ _ _ => (g_name sc_law_looked.nd (by rfl) (by first | exact Or.inl rfl | exact Or.inr rfl))) (fun _ _ _ _ _ => ts_nil) (fun _ _ _ _ _ => (d_ix (d_var 8) d_int)) (by decide)) a_nil))) (a_cons (d_op op_addD d_int (d_callB (cl_max Z.calm) (by rfl) T.n_max bt_max (a_cons (d_op op_addD (d_lst (a_cons d_int a_nil)) (d_comp Z.calm sc_law_looked.nd (i_seq (d_var 5)) (blkOk_by (own := [("_law_one", 8)]) (by kernel_rfl)) (fun _ _ _ _ _ => (g_name sc_law_looked.nd (by rfl) (by first | exact Or.inl rfl | exact Or.inr rfl))) (fun _ _ _ _ _ => ts_nil) (fun _ _ _ _ _ => (d_ix (d_var 8) d_int)) (by decide))) a_nil))) a_nil)))))))))))))))))))
theorem sc_law_expression : FnScope ["_law_state", "_law_counts", "_law_deep", "_law_way", "_law_word", "_law_thing", "_law_kind", "_law_number", "_law_k"] ["_law_state", "_law_counts", "_law_deep"] (L2.defScope (top 9)) := sc_by (by decide +kernel)
def den_law_expression : Nat → MD
 | 0 => fun _ _ => none
 | k + 1 => defD 9 ((sSeq (sAsg 3 (dFn 2 den_law_pick (aCons (dVar 0) (aCons (dC (.int 10)) aNil))))
 (sSeq (sIf (bOr (tst (d2 eqX (dVar 2) (dC (.int 1)))) (tst (d2 ltD (dVar 3) (dC (.int 3))))) (sSeq (sPar 6 7 (aCons (dFn 2 den_law_pick (aCons (dVar 0) (aCons (dC (.int 5)) aNil))) (aCons (dFn 2 den_law_pick (aCons (dVar 0) (aCons (dC (.int 100)) aNil))) aNil)))
 (sSeq (sIf (bOr (tst (d2 eqX (dVar 1) (dTup aNil))) (bOr (tst (d2 eqX (dVar 6) (dC (.int 0)))) (tst (d2 eqX (dVar 3) (dC (.int 2)))))) (sRet (dTup (aCons (dC (.str "number")) (aCons (d2 ixD (dLst (aCons (dC (.int 0)) (aCons (dC (.int 1)) (aCons (dC (.int 99)) (aCons (d2 modD (dVar 7) (dC (.int 10))) (aCons (dVar 7) aNil)))))) (dVar 6)) aNil)))) sNext)
 (sSeq (sAsg 5 (d2 modD (dVar 7) (dCl lenD (aCons (dVar 1) aNil))))
 (sRet (dTup (aCons (dC (.str "in")) (aCons (dVar 5) (aCons (dFn 2 den_law_pick (aCons (dVar 0) (aCons (d2 ixD (dVar 1) (dVar 5)) aNil))) aNil)))))))) sNext)
 (sSeq (sIf (tst (d2 eqX (dVar 3) (dC (.int 3)))) (sSeq (sPar 6 7 (aCons (dFn 2 den_law_pick (aCons (dVar 0) (aCons (dC (.int 4)) aNil))) (aCons (d2 addD (dC (.int 2)) (dFn 2 den_law_pick (aCons (dVar 0) (aCons (dC (.int 98)) aNil)))) aNil)))
 (sRet (dTup (aCons (dC (.str "rest")) (aCons (dFn 3 (den_law_expression k) (aCons (dVar 0) (aCons (dVar 1) (aCons (d2 subD (dVar 2) (dC (.int 1))) aNil)))) (aCons (d2 ixD (dLst (aCons (dC (.int 2)) (aCons (dC (.int 99)) (aCons (d2 addD (dC (.int 2)) (d2 modD (dVar 7) (dC (.int 8)))) (aCons (dVar 7) aNil))))) (dVar 6)) aNil)))))) sNext)
 (sSeq (sIf (tst (d2 eqX (dVar 3) (dC (.int 4)))) (sRet (d2 addD (dTup (aCons (dC (.str "if")) aNil)) (dCl tupleD (aCons (dComp (itA range1D (aCons (dC (.int 3)) aNil)) (tName 8) bYes (dFn 3 (den_law_expression k) (aCons (dVar 0) (aCons (dVar 1) (aCons (d2 subD (dVar 2) (dC (.int 1))) aNil)))) [8]) aNil)))) sNext)
 (sSeq (sAsg 4 (d2 ixD (dLst (aCons (dC (.str "plus")) (aCons (dC (.str "less")) (aCons (dC (.str "times")) (aCons (dC (.str "same")) (aCons (dC (.str "under")) aNil)))))) (d2 subD (dVar 3) (dC (.int 5)))))
 (sRet (d2 addD (dTup (aCons (dVar 4) aNil)) (dCl tupleD (aCons (dComp (itA range1D (aCons (dC (.int 2)) aNil)) (tName 8) bYes (dFn 3 (den_law_expression k) (aCons (dVar 0) (aCons (dVar 1) (aCons (d2 subD (dVar 2) (dC (.int 1))) aNil)))) [8]) aNil))))))))))
theorem g_law_expression (T : Txt w K mg base) : ∀ k, Cl P w K mg base (1 + k) "_law_expression" 3 (den_law_expression k)
 | 0 => cl_bot T.d_law_expression
 | k + 1 => by
  have ih := g_law_expression T k
  exact cl_of (k := 1 + k) T.d_law_expression sc_law_expression fun f cdv A outer s H E Z =>
 (ss_cons
 (s_asg (i := 3) sc_law_expression.nd (by rfl) (by first | exact Or.inl rfl | exact Or.inr rfl) (d_c (g_law_pick T) Z (by omega) (by rfl) (a_cons (d_var 0) (a_cons d_int a_nil)))) (ss_cons
 (s_if (t_w (w_or (t_cmp (op_eqX Z.hu) (d_var 2) d_int (nomark _)) (w_or1 (t_cmp op_ltD (d_var 3) d_int (nomark _))))) (ss_cons
 (s_par (i := 6) (j := 7) Z.calm sc_law_expression.nd (by rfl) (by rfl) (by decide) (by rfl) (by rfl) (a_cons (d_c (g_law_pick T) Z (by omega) (by rfl) (a_cons (d_var 0) (a_cons d_int a_nil))) (a_cons (d_c (g_law_pick T) Z (by omega) (by rfl) (a_cons (d_var 0) (a_cons d_int a_nil))) a_nil)) (by rfl)) (ss_cons
 (s_if (t_w (w_or (t_cmp (op_eqX Z.hu) (d_var 1) (d_tup a_nil) (nomark _)) (w_or (t_cmp (op_eqX Z.hu) (d_var 6) d_int (nomark _)) (w_or1 (t_cmp (op_eqX Z.hu) (d_var 3) d_int (nomark _)))))) (ss_one
 (s_ret (d_tup (a_cons d_str (a_cons (d_ix (d_lst (a_cons d_int (a_cons d_int (a_cons d_int (a_cons (d_op op_modD (d_var 7) d_int) (a_cons (d_var 7) a_nil)))))) (d_var 6)) a_nil))))) ss_nil) (ss_cons
 (s_asg (i := 5) sc_law_expression.nd (by rfl) (by first | exact Or.inl rfl | exact Or.inr rfl) (d_op op_modD (d_var 7) (d_callB cl_len (by rfl) T.n_len bt_len (a_cons (d_var 1) a_nil)))) (ss_one
 (s_ret (d_tup (a_cons d_str (a_cons (d_var 5) (a_cons (d_c (g_law_pick T) Z (by omega) (by rfl) (a_cons (d_var 0) (a_cons (d_ix (d_var 1) (d_var 5)) a_nil))) a_nil))))))))) ss_nil) (ss_cons
 (s_if (t_cmp (op_eqX Z.hu) (d_var 3) d_int (nomark _)) (ss_cons
 (s_par (i := 6) (j := 7) Z.calm sc_law_expression.nd (by rfl) (by rfl) (by decide) (by rfl) (by rfl) (a_cons (d_c (g_law_pick T) Z (by omega) (by rfl) (a_cons (d_var 0) (a_cons d_int a_nil))) (a_cons (d_op op_addD d_int (d_c (g_law_pick T) Z (by omega) (by rfl) (a_cons (d_var 0) (a_cons d_int a_nil)))) a_nil)) (by rfl)) (ss_one
 (s_ret (d_tup (a_cons d_str (a_cons (d_c ih Z (Nat.le_refl _) (by rfl) (a_cons (d_var 0) (a_cons (d_var 1) (a_cons (d_op op_subD (d_var 2) d_int) a_nil)))) (a_cons (d_ix (d_lst (a_cons d_int (a_cons d_int (a_cons (d_op op_addD d_int (d_op op_modD (d_var 7) d_int)) (a_cons (d_var 7) a_nil))))) (d_var 6)) a_nil))))))) ss_nil) (ss_cons
 (s_if (t_cmp (op_eqX Z.hu) (d_var 3) d_int (nomark _)) (ss_one
 (s_ret (d_op op_addD (d_tup (a_cons d_str a_nil)) (d_callTy cl_tuple (by rfl) T.n_tuple bt_tuple (a_cons (d_comp Z.calm sc_law_expression.nd (i_range1 (by rfl) T.n_range (a_cons d_int a_nil)) (blkOk_by (own := [("_law_k", 8)]) (by kernel_rfl)) (fun _ _ _ _ _ => (g_name sc_law_expression.nd (by rfl) (by first | exact Or.inl rfl | exact Or.inr rfl))) (fun _ _ _ _ _ => ts_nil) (fun _ _ _ _ _ => (d_c ih Z.blk (Nat.le_refl _) (by rfl) (a_cons (d_var 0) (a_cons (d_var 1) (a_cons (d_op op_subD (d_var 2) d_int) a_nil))))) (by decide)) a_nil))))) ss_nil) (ss_cons
 (s_asg (i := 4) sc_law_expression.nd (by rfl) (by first | exact Or.inl rfl | exact Or.inr rfl) (d_ix (d_lst (a_cons d_str (a_cons d_str (a_cons d_str (a_cons d_str (a_cons d_str a_nil)))))) (d_op op_subD (d_var 3) d_int))) (ss_one
 (s_ret (d_op op_addD (d_tup (a_cons (d_var 4) a_nil)) (d_callTy cl_tuple (by rfl) T.n_tuple bt_tuple (a_cons (d_comp Z.calm sc_law_expression.nd (i_range1 (by rfl) T.n_range (a_cons d_int a_nil)) (blkOk_by (own := [("_law_k", 8)]) (by kernel_rfl)) (fun _ _ _ _ _ => (g_name sc_law_expression.nd (by rfl) (by first | exact Or.inl rfl | exact Or.inr rfl))) (fun _ _ _ _ _ => ts_nil) (fun _ _ _ _ _ => (d_c ih Z.blk (Nat.le_refl _) (by rfl) (a_cons (d_var 0) (a_cons (d_var 1) (a_cons (d_op op_subD (d_var 2) d_int) a_nil))))) (by decide)) a_nil))))))))))
theorem sc_law_body : FnScope ["_law_state", "_law_counts", "_law_many", "_law_deep", "_law_way", "_law_found", "_law_ahead", "_law_first", "_law_k"] ["_law_state", "_law_counts", "_law_many", "_law_deep"] (L2.defScope (top 10)) := sc_by (by decide +kernel)
def den_law_body : Nat → MD
 | 0 => fun _ _ => none
 | k + 1 => defD 9 ((sSeq (sAsg 4 (dFn 2 den_law_pick (aCons (dVar 0) (aCons (dC (.int 8)) aNil))))
 (sSeq (sIf (tst (d2 eqX (dVar 4) (dC (.int 0)))) (sRet (dTup (aCons (dC (.str "refuse")) aNil))) sNext)
 (sSeq (sAsg 5 (dTup (aCons (dC (.str "give")) (aCons (dCl tupleD (aCons (dComp (itA range1D (aCons (dVar 2) aNil)) (tName 8) bYes (dFn 3 (den_law_expression 6) (aCons (dVar 0) (aCons (dVar 1) (aCons (dC (.int 3)) aNil)))) [8]) aNil)) aNil))))
 (sSeq (sIf (bAnd (tst (d2 ltD (dVar 4) (dC (.int 4)))) (tst (d2 gtD (dVar 3) (dC (.int 1))))) (sSeq (sAsg 6 (dFn 3 (den_law_expression 6) (aCons (dVar 0) (aCons (dVar 1) (aCons (dC (.int 2)) aNil)))))
 (sSeq (sAsg 7 (dFn 4 (den_law_body k) (aCons (dVar 0) (aCons (dVar 1) (aCons (dVar 2) (aCons (d2 subD (dVar 3) (dC (.int 1))) aNil))))))
 (sAsg 5 (dTup (aCons (dC (.str "when")) (aCons (dVar 6) (aCons (dVar 7) (aCons (dFn 4 (den_law_body k) (aCons (dVar 0) (aCons (dVar 1) (aCons (dVar 2) (aCons (d2 subD (dVar 3) (dC (.int 1))) aNil))))) aNil)))))))) sNext)
 (sSeq (sIf (tst (d2 ltD (d2 ixD (dFn 3 (den_law_looked 12) (aCons (dVar 5) (aCons (dVar 1) (aCons (dVar 2) aNil)))) (dC (.int 0))) (dC (.int 61)))) (sRet (dVar 5)) sNext)
 (sRet (dTup (aCons (dC (.str "give")) (aCons (dCl tupleD (aCons (dComp (itA range1D (aCons (dVar 2) aNil)) (tName 8) bYes (dFn 3 (den_law_expression 6) (aCons (dVar 0) (aCons (dVar 1) (aCons (dC (.int 1)) aNil)))) [8]) aNil)) aNil))))))))))
theorem g_law_body (T : Txt w K mg base) : ∀ k, Cl P w K mg base (13 + k) "_law_body" 4 (den_law_body k)
 | 0 => cl_bot T.d_law_body
 | k + 1 => by
  have ih := g_law_body T k
  exact cl_of (k := 13 + k) T.d_law_body sc_law_body fun f cdv A outer s H E Z =>
 (ss_cons
 (s_asg (i := 4) sc_law_body.nd (by rfl) (by first | exact Or.inl rfl | exact Or.inr rfl) (d_c (g_law_pick T) Z (by omega) (by rfl) (a_cons (d_var 0) (a_cons d_int a_nil)))) (ss_cons
 (s_if (t_cmp (op_eqX Z.hu) (d_var 4) d_int (nomark _)) (ss_one
 (s_ret (d_tup (a_cons d_str a_nil)))) ss_nil) (ss_cons
 (s_asg (i := 5) sc_law_body.nd (by rfl) (by first | exact Or.inl rfl | exact Or.inr rfl) (d_tup (a_cons d_str (a_cons (d_callTy cl_tuple (by rfl) T.n_tuple bt_tuple (a_cons (d_comp Z.calm sc_law_body.nd (i_range1 (by rfl) T.n_range (a_cons (d_var 2) a_nil)) (blkOk_by (own := [("_law_k", 8)]) (by kernel_rfl)) (fun _ _ _ _ _ => (g_name sc_law_body.nd (by rfl) (by first | exact Or.inl rfl | exact Or.inr rfl))) (fun _ _ _ _ _ => ts_nil) (fun _ _ _ _ _ => (d_c (g_law_expression T 6) Z.blk (by omega) (by rfl) (a_cons (d_var 0) (a_cons (d_var 1) (a_cons d_int a_nil))))) (by decide)) a_nil)) a_nil)))) (ss_cons
 (s_if (t_w (w_and (t_cmp op_ltD (d_var 4) d_int (nomark _)) (w_and1 (t_cmp op_gtD (d_var 3) d_int (nomark _))))) (ss_cons
 (s_asg (i := 6) sc_law_body.nd (by rfl) (by first | exact Or.inl rfl | exact Or.inr rfl) (d_c (g_law_expression T 6) Z (by omega) (by rfl) (a_cons (d_var 0) (a_cons (d_var 1) (a_cons d_int a_nil))))) (ss_cons
 (s_asg (i := 7) sc_law_body.nd (by rfl) (by first | exact Or.inl rfl | exact Or.inr rfl) (d_c ih Z (Nat.le_refl _) (by rfl) (a_cons (d_var 0) (a_cons (d_var 1) (a_cons (d_var 2) (a_cons (d_op op_subD (d_var 3) d_int) a_nil)))))) (ss_one
 (s_asg (i := 5) sc_law_body.nd (by rfl) (by first | exact Or.inl rfl | exact Or.inr rfl) (d_tup (a_cons d_str (a_cons (d_var 6) (a_cons (d_var 7) (a_cons (d_c ih Z (Nat.le_refl _) (by rfl) (a_cons (d_var 0) (a_cons (d_var 1) (a_cons (d_var 2) (a_cons (d_op op_subD (d_var 3) d_int) a_nil))))) a_nil))))))))) ss_nil) (ss_cons
 (s_if (t_cmp op_ltD (d_ix (d_c (g_law_looked T 12) Z (by omega) (by rfl) (a_cons (d_var 5) (a_cons (d_var 1) (a_cons (d_var 2) a_nil)))) d_int) d_int (nomark _)) (ss_one
 (s_ret (d_var 5))) ss_nil) (ss_one
 (s_ret (d_tup (a_cons d_str (a_cons (d_callTy cl_tuple (by rfl) T.n_tuple bt_tuple (a_cons (d_comp Z.calm sc_law_body.nd (i_range1 (by rfl) T.n_range (a_cons (d_var 2) a_nil)) (blkOk_by (own := [("_law_k", 8)]) (by kernel_rfl)) (fun _ _ _ _ _ => (g_name sc_law_body.nd (by rfl) (by first | exact Or.inl rfl | exact Or.inr rfl))) (fun _ _ _ _ _ => ts_nil) (fun _ _ _ _ _ => (d_c (g_law_expression T 6) Z.blk (by omega) (by rfl) (a_cons (d_var 0) (a_cons (d_var 1) (a_cons d_int a_nil))))) (by decide)) a_nil)) a_nil))))))))))
theorem sc_law_value : FnScope ["_law_thing", "_law_fields", "_law_word", "_law_some", "_law_known", "_law_one"] ["_law_thing", "_law_fields"] (L2.defScope (top 11)) := sc_by (by decide +kernel)
def den_law_value : Nat → MD
 | 0 => fun _ _ => none
 | k + 1 => defD 6 ((sSeq (sAsg 2 (d2 ixD (dVar 0) (dC (.int 0))))
 (sSeq (sIf (tst (d2 eqX (dVar 2) (dC (.str "number")))) (sRet (d2 ixD (dVar 0) (dC (.int 1)))) sNext)
 (sSeq (sIf (tst (d2 eqX (dVar 2) (dC (.str "in")))) (sRet (d2 ixD (dCl listD (aCons (d2 ixD (dVar 1) (d2 ixD (dVar 0) (dC (.int 1)))) aNil)) (d2 ixD (dVar 0) (dC (.int 2))))) sNext)
 (sSeq (sAsg 3 (dComp (itSeq (dSl (dVar 0) (pSome (dC (.int 1))) pNone)) (tName 5) (dTru (dIsi "tuple" (dVar 5))) (dFn 2 (den_law_value k) (aCons (dVar 5) (aCons (dVar 1) aNil))) [5]))
 (sSeq (sIf (tst (d2 eqX (dVar 2) (dC (.str "rest")))) (sRet (d2 subD (d2 ixD (dVar 3) (dC (.int 0))) (d2 mulWD (d2 fdivD (d2 ixD (dVar 3) (dC (.int 0))) (d2 ixD (dVar 0) (dC (.int 2)))) (d2 ixD (dVar 0) (dC (.int 2)))))) sNext)
 (sSeq (sIf (tst (d2 eqX (dVar 2) (dC (.str "if")))) (sRet (dIf (tst (d2 eqX (d2 ixD (dVar 3) (dC (.int 0))) (dC (.int 0)))) (d2 ixD (dVar 3) (dC (.int 2))) (d2 ixD (dVar 3) (dC (.int 1))))) sNext)
 (sSeq (sAsg 4 (dDisp [("plus", (d2 addD (d2 ixD (dVar 3) (dC (.int 0))) (d2 ixD (dVar 3) (dC (.int 1))))), ("less", (d2 subD (d2 ixD (dVar 3) (dC (.int 0))) (d2 ixD (dVar 3) (dC (.int 1))))), ("times", (d2 mulWD (d2 ixD (dVar 3) (dC (.int 0))) (d2 ixD (dVar 3) (dC (.int 1)))))]))
 (sSeq (sDrop (dMt "dict" updD (dVar 4) (aCons (dDisp [("same", (d2 ixB (dLst (aCons (dC (.int 0)) (aCons (dC (.int 1)) aNil))) (d2 eqX (d2 ixD (dVar 3) (dC (.int 0))) (d2 ixD (dVar 3) (dC (.int 1)))))), ("under", (d2 ixB (dLst (aCons (dC (.int 0)) (aCons (dC (.int 1)) aNil))) (d2 ltD (d2 ixD (dVar 3) (dC (.int 0))) (d2 ixD (dVar 3) (dC (.int 1))))))]) aNil)))
 (sRet (d2 dgD (dVar 4) (dVar 2))))))))))))
theorem g_law_value (T : Txt w K mg base) : ∀ k, Cl P w K mg base (0 + k) "_law_value" 2 (den_law_value k)
 | 0 => cl_bot T.d_law_value
 | k + 1 => by
  have ih := g_law_value T k
  exact cl_of (k := 0 + k) T.d_law_value sc_law_value fun f cdv A outer s H E Z =>
 (ss_cons
 (s_asg (i := 2) sc_law_value.nd (by rfl) (by first | exact Or.inl rfl | exact Or.inr rfl) (d_ix (d_var 0) d_int)) (ss_cons
 (s_if (t_cmp (op_eqX Z.hu) (d_var 2) d_str (nomark _)) (ss_one
 (s_ret (d_ix (d_var 0) d_int))) ss_nil) (ss_cons
 (s_if (t_cmp (op_eqX Z.hu) (d_var 2) d_str (nomark _)) (ss_one
 (s_ret (d_ix (d_callTy cl_list (by rfl) T.n_list bt_list (a_cons (d_ix (d_var 1) (d_ix (d_var 0) d_int)) a_nil)) (d_ix (d_var 0) d_int)))) ss_nil) (ss_cons
 (s_comp (i := 3) Z.calm sc_law_value.nd (by rfl) (by rfl) (by rfl) (i_seq (d_sl (d_var 0) (p_some d_int) p_none)) (blkOk_by (own := [("_law_one", 5)]) (by kernel_rfl)) (fun _ _ _ _ _ => (g_name sc_law_value.nd (by rfl) (by first | exact Or.inl rfl | exact Or.inr rfl))) (fun _ _ _ _ _ => (ts_one (t_tru (d_isi (T := "tuple") (by decide +kernel) (d_var 5) (by rfl) T.n_isinstance (by rfl) T.n_tuple bt_tuple bt_isinstance)))) (fun _ _ _ _ _ => (d_c ih Z.blk (Nat.le_refl _) (by rfl) (a_cons (d_var 5) (a_cons (d_var 1) a_nil)))) (by decide)) (ss_cons
 (s_if (t_cmp (op_eqX Z.hu) (d_var 2) d_str (nomark _)) (ss_one
 (s_ret (d_op op_subD (d_ix (d_var 3) d_int) (d_op op_mulWD (d_op op_fdivD (d_ix (d_var 3) d_int) (d_ix (d_var 0) d_int)) (d_ix (d_var 0) d_int))))) ss_nil) (ss_cons
 (s_if (t_cmp (op_eqX Z.hu) (d_var 2) d_str (nomark _)) (ss_one
 (s_ret (d_if (t_cmp (op_eqX Z.hu) (d_ix (d_var 3) d_int) d_int (nomark _)) (d_ix (d_var 3) d_int) (d_ix (d_var 3) d_int)))) ss_nil) (ss_cons
 (s_asg (i := 4) sc_law_value.nd (by rfl) (by first | exact Or.inl rfl | exact Or.inr rfl) (d_disp [("plus", (d2 addD (d2 ixD (dVar 3) (dC (.int 0))) (d2 ixD (dVar 3) (dC (.int 1))))), ("less", (d2 subD (d2 ixD (dVar 3) (dC (.int 0))) (d2 ixD (dVar 3) (dC (.int 1))))), ("times", (d2 mulWD (d2 ixD (dVar 3) (dC (.int 0))) (d2 ixD (dVar 3) (dC (.int 1)))))] (pps_cons pe_str (d_op op_addD (d_ix (d_var 3) d_int) (d_ix (d_var 3) d_int)).d (pps_cons pe_str (d_op op_subD (d_ix (d_var 3) d_int) (d_ix (d_var 3) d_int)).d (pps_cons pe_str (d_op op_mulWD (d_ix (d_var 3) d_int) (d_ix (d_var 3) d_int)).d pps_nil))) (by rfl) (by rfl) (by simp) (by decide) (by decide) (by decide +kernel))) (ss_cons
 (s_drop (d_mt F.plainAttrs_dict F.slot_dict_update F.type_dict_update mt_updD (d_var 4) (a_cons (d_disp [("same", (d2 ixB (dLst (aCons (dC (.int 0)) (aCons (dC (.int 1)) aNil))) (d2 eqX (d2 ixD (dVar 3) (dC (.int 0))) (d2 ixD (dVar 3) (dC (.int 1)))))), ("under", (d2 ixB (dLst (aCons (dC (.int 0)) (aCons (dC (.int 1)) aNil))) (d2 ltD (d2 ixD (dVar 3) (dC (.int 0))) (d2 ixD (dVar 3) (dC (.int 1))))))] (pps_cons pe_str (d_ixB (d_lst (a_cons d_int (a_cons d_int a_nil))) (d_cmp (op_eqX Z.hu) (d_ix (d_var 3) d_int) (d_ix (d_var 3) d_int) (nomark _))).d (pps_cons pe_str (d_ixB (d_lst (a_cons d_int (a_cons d_int a_nil))) (d_cmp op_ltD (d_ix (d_var 3) d_int) (d_ix (d_var 3) d_int) (nomark _))).d pps_nil)) (by rfl) (by rfl) (by simp) (by decide) (by decide) (by decide +kernel)) a_nil))) (ss_one
 (s_ret (d_dg Z.hus (d_var 4) (d_var 2))))))))))))
theorem sc_law_given : FnScope ["_law_body_here", "_law_fields", "_law_one"] ["_law_body_here", "_law_fields"] (L2.defScope (top 12)) := sc_by (by decide +kernel)
def den_law_given : Nat → MD
 | 0 => fun _ _ => none
 | k + 1 => defD 3 ((sSeq (sIf (tst (d2 eqX (d2 ixD (dVar 0) (dC (.int 0))) (dC (.str "when")))) (sRet (dFn 2 (den_law_given k) (aCons (dIf (tst (d2 neX (dFn 2 (den_law_value 12) (aCons (d2 ixD (dVar 0) (dC (.int 1))) (aCons (dVar 1) aNil))) (dC (.int 0)))) (d2 ixD (dVar 0) (dC (.int 2))) (d2 ixD (dVar 0) (dC (.int 3)))) (aCons (dVar 1) aNil)))) sNext)
 (sSeq (sIf (tst (d2 eqX (d2 ixD (dVar 0) (dC (.int 0))) (dC (.str "refuse")))) (sRet (dC .non)) sNext)
 (sRet (dComp (itSeq (d2 ixD (dVar 0) (dC (.int 1)))) (tName 2) bYes (dFn 2 (den_law_value 12) (aCons (dVar 2) (aCons (dVar 1) aNil))) [2])))))
theorem g_law_given (T : Txt w K mg base) : ∀ k, Cl P w K mg base (12 + k) "_law_given" 2 (den_law_given k)
 | 0 => cl_bot T.d_law_given
 | k + 1 => by
  have ih := g_law_given T k
  exact cl_of (k := 12 + k) T.d_law_given sc_law_given fun f cdv A outer s H E Z =>
 (ss_cons
 (s_if (t_cmp (op_eqX Z.hu) (d_ix (d_var 0) d_int) d_str (nomark _)) (ss_one
 (s_ret (d_c ih Z (Nat.le_refl _) (by rfl) (a_cons (d_if (t_cmp (op_neX Z.hu) (d_c (g_law_value T 12) Z (by omega) (by rfl) (a_cons (d_ix (d_var 0) d_int) (a_cons (d_var 1) a_nil))) d_int (nomark _)) (d_ix (d_var 0) d_int) (d_ix (d_var 0) d_int)) (a_cons (d_var 1) a_nil))))) ss_nil) (ss_cons
 (s_if (t_cmp (op_eqX Z.hu) (d_ix (d_var 0) d_int) d_str (nomark _)) (ss_one
 (s_ret d_non)) ss_nil) (ss_one
 (s_ret (d_comp Z.calm sc_law_given.nd (i_seq (d_ix (d_var 0) d_int)) (blkOk_by (own := [("_law_one", 2)]) (by kernel_rfl)) (fun _ _ _ _ _ => (g_name sc_law_given.nd (by rfl) (by first | exact Or.inl rfl | exact Or.inr rfl))) (fun _ _ _ _ _ => ts_nil) (fun _ _ _ _ _ => (d_c (g_law_value T 12) Z.blk (by omega) (by rfl) (a_cons (d_var 2) (a_cons (d_var 1) a_nil)))) (by decide))))))
theorem sc_law_drawn_fields : FnScope ["_law_state", "_law_counts", "_law_found", "_law_many", "_law_some", "_law_k", "_law_kind", "_law_number"] ["_law_state", "_law_counts"] (L2.defScope (top 13)) := sc_by (by decide +kernel)
def den_law_drawn_fields : MD := defD 8
 ((sSeq (sAsgB 2 (dLst aNil))
 (sSeq (sFor (itSeq (dVar 1)) (tName 3) (sSeq (sAsgB 4 (dLst aNil))
 (sSeq (sFor (itA range1D (aCons (dVar 3) aNil)) (tName 5) (sSeq (sPar 6 7 (aCons (dFn 2 den_law_pick (aCons (dVar 0) (aCons (dC (.int 4)) aNil))) (aCons (dFn 2 den_law_pick (aCons (dVar 0) (aCons (d2 powD (dC (.int 10)) (dC (.int 6))) aNil))) aNil)))
 (sDrop (dMt "list" appD (dVar 4) (aCons (d2 ixD (dLst (aCons (d2 modD (dVar 7) (dC (.int 3))) (aCons (d2 modD (dVar 7) (dC (.int 10))) (aCons (d2 subD (dC (.int 0)) (d2 modD (dVar 7) (dC (.int 20)))) (aCons (d2 mulX (dVar 7) (d2 powD (dC (.int 10)) (dC (.int 9)))) aNil))))) (dVar 6)) aNil)))))
 (sDrop (dMt "list" appD (dVar 2) (aCons (dCl tupleD (aCons (dVar 4) aNil)) aNil))))))
 (sRet (dCl tupleD (aCons (dVar 2) aNil))))))
theorem g_law_drawn_fields (T : Txt w K mg base) : Cl P w K mg base 2 "_law_drawn_fields" 2 den_law_drawn_fields := cl_of (k := 1) T.d_law_drawn_fields sc_law_drawn_fields fun f cdv A outer s H E Z =>
 (ss_cons
 (s_asgB (i := 2) sc_law_drawn_fields.nd (by rfl) (by first | exact Or.inl rfl | exact Or.inr rfl) (d_lst a_nil)) (ss_cons
 (s_for (L2.passes_of rfl) Z.calm (i_seq (d_var 1)) (g_name sc_law_drawn_fields.nd (by rfl) (by first | exact Or.inl rfl | exact Or.inr rfl)) (ss_cons
 (s_asgB (i := 4) sc_law_drawn_fields.nd (by rfl) (by first | exact Or.inl rfl | exact Or.inr rfl) (d_lst a_nil)) (ss_cons
 (s_for (L2.passes_of rfl) Z.calm (i_range1 (by rfl) T.n_range (a_cons (d_var 3) a_nil)) (g_name sc_law_drawn_fields.nd (by rfl) (by first | exact Or.inl rfl | exact Or.inr rfl)) (ss_cons
 (s_par (i := 6) (j := 7) Z.calm sc_law_drawn_fields.nd (by rfl) (by rfl) (by decide) (by rfl) (by rfl) (a_cons (d_c (g_law_pick T) Z (by decide) (by rfl) (a_cons (d_var 0) (a_cons d_int a_nil))) (a_cons (d_c (g_law_pick T) Z (by decide) (by rfl) (a_cons (d_var 0) (a_cons (d_op op_powD d_int d_int) a_nil))) a_nil)) (by rfl)) (ss_one
 (s_drop (d_mt F.plainAttrs_list F.slot_list_append F.type_list_append mt_appD (d_var 4) (a_cons (d_ix (d_lst (a_cons (d_op op_modD (d_var 7) d_int) (a_cons (d_op op_modD (d_var 7) d_int) (a_cons (d_op op_subD d_int (d_op op_modD (d_var 7) d_int)) (a_cons (d_op op_mulX (d_var 7) (d_op op_powD d_int d_int)) a_nil))))) (d_var 6)) a_nil)))))) (ss_one
 (s_drop (d_mt F.plainAttrs_list F.slot_list_append F.type_list_append mt_appD (d_var 2) (a_cons (d_callTy cl_tuple (by rfl) T.n_tuple bt_tuple (a_cons (d_var 4) a_nil)) a_nil))))))) (ss_one
 (s_ret (d_callTy cl_tuple (by rfl) T.n_tuple bt_tuple (a_cons (d_var 2) a_nil))))))
theorem sc_law_right : FnScope ["_law_expression_here", "_law_body_here", "_law_fields", "_law_given_here", "_law_due", "_law_kept"] ["_law_expression_here", "_law_body_here", "_law_fields"] (L2.defScope (top 14)) := sc_by (by decide +kernel)
def den_law_right : MD := defD 6
 ((sSeq (sAsg 3 (dFn 2 (den_law_given 8) (aCons (dVar 1) (aCons (dVar 2) aNil))))
 (sSeq (sAsg 4 (dIf (tst (d2 isD (dVar 3) (dC .non))) (dC .non) (dCl tupleD (aCons (dVar 3) aNil))))
 (sSeq (sAsg 5 (dCl reprY (aCons (dLst (aCons (dVar 0) (aCons (dVar 1) (aCons (dVar 2) aNil)))) aNil)))
 (sSeq (sIf (tst (d2 neX (dCl reprY (aCons (dFn 2 (den_value_of 12) (aCons (dVar 0) (aCons (dVar 2) aNil))) aNil)) (dCl reprY (aCons (dFn 2 (den_law_value 12) (aCons (dVar 0) (aCons (dVar 2) aNil))) aNil)))) (sRet (dC (.bl false))) sNext)
 (sRet (dAnd (d2 eqX (dCl reprY (aCons (dFn 2 den_given_by (aCons (dVar 1) (aCons (dVar 2) aNil))) aNil)) (dCl reprY (aCons (dVar 4) aNil))) (d2 eqX (dCl reprY (aCons (dLst (aCons (dVar 0) (aCons (dVar 1) (aCons (dVar 2) aNil)))) aNil)) (dVar 5)))))))))
theorem g_law_right (T : Txt w K mg base) : Cl P w K mg base 21 "_law_right" 3 den_law_right := cl_of (k := 20) T.d_law_right sc_law_right fun f cdv A outer s H E Z =>
 (ss_cons
 (s_asg (i := 3) sc_law_right.nd (by rfl) (by first | exact Or.inl rfl | exact Or.inr rfl) (d_c (g_law_given T 8) Z (by decide) (by rfl) (a_cons (d_var 1) (a_cons (d_var 2) a_nil)))) (ss_cons
 (s_asg (i := 4) sc_law_right.nd (by rfl) (by first | exact Or.inl rfl | exact Or.inr rfl) (d_if (t_cmp op_isD (d_var 3) d_non (nomark _)) d_non (d_callTy cl_tuple (by rfl) T.n_tuple bt_tuple (a_cons (d_var 3) a_nil)))) (ss_cons
 (s_asg (i := 5) sc_law_right.nd (by rfl) (by first | exact Or.inl rfl | exact Or.inr rfl) (d_callB (cl_reprY T.sys Z.guard Z.hu) (by rfl) T.n_repr bt_repr (a_cons (d_lst (a_cons (d_var 0) (a_cons (d_var 1) (a_cons (d_var 2) a_nil)))) a_nil))) (ss_cons
 (s_if (t_cmp (op_neX Z.hu) (d_callB (cl_reprY T.sys Z.guard Z.hu) (by rfl) T.n_repr bt_repr (a_cons (d_c (g_value_of T 12) Z (by decide) (by rfl) (a_cons (d_var 0) (a_cons (d_var 2) a_nil))) a_nil)) (d_callB (cl_reprY T.sys Z.guard Z.hu) (by rfl) T.n_repr bt_repr (a_cons (d_c (g_law_value T 12) Z (by decide) (by rfl) (a_cons (d_var 0) (a_cons (d_var 2) a_nil))) a_nil)) (nomark _)) (ss_one
 (s_ret d_bl)) ss_nil) (ss_one
 (s_ret (d_and (d_cmp (op_eqX Z.hu) (d_callB (cl_reprY T.sys Z.guard Z.hu) (by rfl) T.n_repr bt_repr (a_cons (d_c (g_given_by T) Z (by decide) (by rfl) (a_cons (d_var 1) (a_cons (d_var 2) a_nil))) a_nil)) (d_callB (cl_reprY T.sys Z.guard Z.hu) (by rfl) T.n_repr bt_repr (a_cons (d_var 4) a_nil)) (nomark _)) (d_one (d_cmp (op_eqX Z.hu) (d_callB (cl_reprY T.sys Z.guard Z.hu) (by rfl) T.n_repr bt_repr (a_cons (d_lst (a_cons (d_var 0) (a_cons (d_var 1) (a_cons (d_var 2) a_nil)))) a_nil)) (d_var 5) (nomark _))))))))))
theorem sc_law_words_right : FnScope ["_law_first", "_law_great", "_law_k", "_law_told", "_law_one", "_law_other", "_law_second", "_law_fields", "_law_due", "_law_whens", "_law_word"] [] (L2.defScope (top 15)) := sc_by (by decide +kernel)
def den_law_words_right : MD := defD 11
 ((sSeq (sTgt (tTup (tsCons (tName 4) (tsCons (tName 5) tsNil))) (dTup (aCons (dTup (aCons (dC (.str "in")) (aCons (dC (.int 0)) (aCons (dC (.int 0)) aNil)))) (aCons (dTup (aCons (dC (.str "in")) (aCons (dC (.int 1)) (aCons (dC (.int 1)) aNil)))) aNil))))
 (sSeq (sFor (itSeq (dTup (aCons (dNeg (dC (.int 3))) (aCons (dNeg (dC (.int 1))) (aCons (dC (.int 0)) (aCons (dC (.int 1)) (aCons (dC (.int 2)) (aCons (dC (.int 99)) aNil)))))))) (tName 0) (sFor (itSeq (dTup (aCons (dNeg (dC (.int 2))) (aCons (dC (.int 0)) (aCons (dC (.int 1)) (aCons (dC (.int 2)) (aCons (dC (.int 98)) (aCons (dC (.int 100)) aNil)))))))) (tName 6) (sSeq (sAsg 7 (dTup (aCons (dTup (aCons (dVar 0) aNil)) (aCons (dTup (aCons (dC (.int 7)) (aCons (dVar 6) aNil))) aNil))))
 (sSeq (sAsgB 3 (dComp (itSeq (dTup (aCons (dC (.str "plus")) (aCons (dC (.str "less")) (aCons (dC (.str "times")) (aCons (dC (.str "same")) (aCons (dC (.str "under")) aNil))))))) (tName 10) bYes (dFn 2 (den_value_of 12) (aCons (dTup (aCons (dVar 10) (aCons (dVar 4) (aCons (dVar 5) aNil)))) (aCons (dVar 7) aNil))) [10]))
 (sSeq (sAsgB 8 (dLst (aCons (d2 addD (dVar 0) (dVar 6)) (aCons (d2 subD (dVar 0) (dVar 6)) (aCons (d2 mulX (dVar 0) (dVar 6)) (aCons (dCl intD (aCons (d2 eqX (dVar 0) (dVar 6)) aNil)) (aCons (dCl intD (aCons (d2 ltD (dVar 0) (dVar 6)) aNil)) aNil)))))))
 (sSeq (sDrop (dMt "list" appD (dVar 3) (aCons (dFn 2 (den_value_of 12) (aCons (dTup (aCons (dC (.str "rest")) (aCons (dVar 5) (aCons (dC (.int 2)) aNil)))) (aCons (dVar 7) aNil))) aNil)))
 (sSeq (sDrop (dMt "list" appD (dVar 3) (aCons (dFn 2 (den_value_of 12) (aCons (dTup (aCons (dC (.str "if")) (aCons (dVar 4) (aCons (dVar 5) (aCons (dTup (aCons (dC (.str "number")) (aCons (dC (.int 5)) aNil))) aNil))))) (aCons (dVar 7) aNil))) aNil)))
 (sSeq (sAsgB 8 (d2 addD (dVar 8) (dLst (aCons (d2 modD (dVar 6) (dC (.int 2))) (aCons (dIf (tst (d2 neX (dVar 0) (dC (.int 0)))) (dVar 6) (dC (.int 5))) aNil)))))
 (sSeq (sAsg 9 (dTup (aCons (dC (.str "when")) (aCons (dVar 4) (aCons (dTup (aCons (dC (.str "give")) (aCons (dTup (aCons (dVar 5) (aCons (dVar 4) aNil))) aNil))) (aCons (dTup (aCons (dC (.str "when")) (aCons (dVar 5) (aCons (dTup (aCons (dC (.str "refuse")) aNil)) (aCons (dTup (aCons (dC (.str "give")) (aCons (dTup (aCons (dVar 4) (aCons (dVar 4) aNil))) aNil))) aNil))))) aNil))))))
 (sSeq (sDrop (dMt "list" appD (dVar 3) (aCons (dFn 2 den_given_by (aCons (dVar 9) (aCons (dVar 7) aNil))) aNil)))
 (sSeq (sDrop (dMt "list" appD (dVar 8) (aCons (dIf (tst (d2 neX (dVar 0) (dC (.int 0)))) (dTup (aCons (dVar 6) (aCons (dVar 0) aNil))) (dIf (tst (d2 neX (dVar 6) (dC (.int 0)))) (dC .non) (dTup (aCons (dVar 0) (aCons (dVar 0) aNil))))) aNil)))
 (sIf (tst (d2 neX (dCl reprY (aCons (dVar 3) aNil)) (dCl reprY (aCons (dVar 8) aNil)))) (sRet (dC (.bl false))) sNext))))))))))))
 (sSeq (sAsg 1 (dTup (aCons (dC (.str "number")) (aCons (dC (.int 99)) aNil))))
 (sSeq (sFor (itA range1D (aCons (dC (.int 4)) aNil)) (tName 2) (sAsg 1 (dTup (aCons (dC (.str "times")) (aCons (dVar 1) (aCons (dVar 1) aNil))))))
 (sSeq (sAsgB 3 (dLst (aCons (dFn 2 (den_value_of 12) (aCons (dVar 1) (aCons (dTup aNil) aNil))) (aCons (dFn 2 (den_value_of 12) (aCons (dTup (aCons (dC (.str "less")) (aCons (dTup (aCons (dC (.str "number")) (aCons (dC (.int 0)) aNil))) (aCons (dVar 1) aNil)))) (aCons (dTup aNil) aNil))) (aCons (dFn 2 (den_value_of 12) (aCons (dTup (aCons (dC (.str "rest")) (aCons (dVar 1) (aCons (dC (.int 98)) aNil)))) (aCons (dTup aNil) aNil))) aNil)))))
 (sSeq (sDrop (dMt "list" appD (dVar 3) (aCons (dFn 2 (den_value_of 12) (aCons (dTup (aCons (dC (.str "rest")) (aCons (dTup (aCons (dC (.str "less")) (aCons (dTup (aCons (dC (.str "number")) (aCons (dC (.int 0)) aNil))) (aCons (dVar 1) aNil)))) (aCons (dC (.int 97)) aNil)))) (aCons (dTup aNil) aNil))) aNil)))
 (sRet (d2 eqX (dCl reprY (aCons (dVar 3) aNil)) (dCl reprY (aCons (dLst (aCons (d2 powD (dC (.int 99)) (dC (.int 16))) (aCons (d2 subD (dC (.int 0)) (d2 powD (dC (.int 99)) (dC (.int 16)))) (aCons (dC (.int 1)) (aCons (d2 modD (d2 subD (dC (.int 0)) (d2 powD (dC (.int 2)) (dC (.int 16)))) (dC (.int 97))) aNil))))) aNil)))))))))))
theorem g_law_words_right (T : Txt w K mg base) : Cl P w K mg base 15 "_law_words_right" 0 den_law_words_right := cl_of (k := 14) T.d_law_words_right sc_law_words_right fun f cdv A outer s H E Z =>
 (ss_cons
 (s_tgt (d_tup (a_cons (d_tup (a_cons d_str (a_cons d_int (a_cons d_int a_nil)))) (a_cons (d_tup (a_cons d_str (a_cons d_int (a_cons d_int a_nil)))) a_nil))) (g_tup Z.calm (gs_cons (g_name sc_law_words_right.nd (by rfl) (by first | exact Or.inl rfl | exact Or.inr rfl)) (gs_cons (g_name sc_law_words_right.nd (by rfl) (by first | exact Or.inl rfl | exact Or.inr rfl)) gs_nil)) (len_cons (len_cons (fun _ _ _ h => len_nil h))))) (ss_cons
 (s_for (L2.passes_of rfl) Z.calm (i_seq (d_tup (a_cons (d_neg d_int) (a_cons (d_neg d_int) (a_cons d_int (a_cons d_int (a_cons d_int (a_cons d_int a_nil)))))))) (g_name sc_law_words_right.nd (by rfl) (by first | exact Or.inl rfl | exact Or.inr rfl)) (ss_one
 (s_for (L2.passes_of rfl) Z.calm (i_seq (d_tup (a_cons (d_neg d_int) (a_cons d_int (a_cons d_int (a_cons d_int (a_cons d_int (a_cons d_int a_nil)))))))) (g_name sc_law_words_right.nd (by rfl) (by first | exact Or.inl rfl | exact Or.inr rfl)) (ss_cons
 (s_asg (i := 7) sc_law_words_right.nd (by rfl) (by first | exact Or.inl rfl | exact Or.inr rfl) (d_tup (a_cons (d_tup (a_cons (d_var 0) a_nil)) (a_cons (d_tup (a_cons d_int (a_cons (d_var 6) a_nil))) a_nil)))) (ss_cons
 (s_compB (i := 3) Z.calm sc_law_words_right.nd (by rfl) (by rfl) (by rfl) (i_seq (d_tup (a_cons d_str (a_cons d_str (a_cons d_str (a_cons d_str (a_cons d_str a_nil))))))) (blkOk_by (own := [("_law_word", 10)]) (by kernel_rfl)) (fun _ _ _ _ _ => (g_name sc_law_words_right.nd (by rfl) (by first | exact Or.inl rfl | exact Or.inr rfl))) (fun _ _ _ _ _ => ts_nil) (fun _ _ _ _ _ => (d_c (g_value_of T 12) Z.blk (by decide) (by rfl) (a_cons (d_tup (a_cons (d_var 10) (a_cons (d_var 4) (a_cons (d_var 5) a_nil)))) (a_cons (d_var 7) a_nil)))) (by decide)) (ss_cons
 (s_asgB (i := 8) sc_law_words_right.nd (by rfl) (by first | exact Or.inl rfl | exact Or.inr rfl) (d_lst (a_cons (d_op op_addD (d_var 0) (d_var 6)) (a_cons (d_op op_subD (d_var 0) (d_var 6)) (a_cons (d_op op_mulX (d_var 0) (d_var 6)) (a_cons (d_callTy cl_int (by rfl) T.n_int bt_int (a_cons (d_cmp (op_eqX Z.hu) (d_var 0) (d_var 6) (nomark _)) a_nil)) (a_cons (d_callTy cl_int (by rfl) T.n_int bt_int (a_cons (d_cmp op_ltD (d_var 0) (d_var 6) (nomark _)) a_nil)) a_nil))))))) (ss_cons
 (s_drop (d_mt F.plainAttrs_list F.slot_list_append F.type_list_append mt_appD (d_var 3) (a_cons (d_c (g_value_of T 12) Z (by decide) (by rfl) (a_cons (d_tup (a_cons d_str (a_cons (d_var 5) (a_cons d_int a_nil)))) (a_cons (d_var 7) a_nil))) a_nil))) (ss_cons
 (s_drop (d_mt F.plainAttrs_list F.slot_list_append F.type_list_append mt_appD (d_var 3) (a_cons (d_c (g_value_of T 12) Z (by decide) (by rfl) (a_cons (d_tup (a_cons d_str (a_cons (d_var 4) (a_cons (d_var 5) (a_cons (d_tup (a_cons d_str (a_cons d_int a_nil))) a_nil))))) (a_cons (d_var 7) a_nil))) a_nil))) (ss_cons
 (s_asgB (i := 8) sc_law_words_right.nd (by rfl) (by first | exact Or.inl rfl | exact Or.inr rfl) (d_op op_addD (d_var 8) (d_lst (a_cons (d_op op_modD (d_var 6) d_int) (a_cons (d_if (t_cmp (op_neX Z.hu) (d_var 0) d_int (nomark _)) (d_var 6) d_int) a_nil))))) (ss_cons
 (s_asg (i := 9) sc_law_words_right.nd (by rfl) (by first | exact Or.inl rfl | exact Or.inr rfl) (d_tup (a_cons d_str (a_cons (d_var 4) (a_cons (d_tup (a_cons d_str (a_cons (d_tup (a_cons (d_var 5) (a_cons (d_var 4) a_nil))) a_nil))) (a_cons (d_tup (a_cons d_str (a_cons (d_var 5) (a_cons (d_tup (a_cons d_str a_nil)) (a_cons (d_tup (a_cons d_str (a_cons (d_tup (a_cons (d_var 4) (a_cons (d_var 4) a_nil))) a_nil))) a_nil))))) a_nil)))))) (ss_cons
 (s_drop (d_mt F.plainAttrs_list F.slot_list_append F.type_list_append mt_appD (d_var 3) (a_cons (d_c (g_given_by T) Z (by decide) (by rfl) (a_cons (d_var 9) (a_cons (d_var 7) a_nil))) a_nil))) (ss_cons
 (s_drop (d_mt F.plainAttrs_list F.slot_list_append F.type_list_append mt_appD (d_var 8) (a_cons (d_if (t_cmp (op_neX Z.hu) (d_var 0) d_int (nomark _)) (d_tup (a_cons (d_var 6) (a_cons (d_var 0) a_nil))) (d_if (t_cmp (op_neX Z.hu) (d_var 6) d_int (nomark _)) d_non (d_tup (a_cons (d_var 0) (a_cons (d_var 0) a_nil))))) a_nil))) (ss_one
 (s_if (t_cmp (op_neX Z.hu) (d_callB (cl_reprY T.sys Z.guard Z.hu) (by rfl) T.n_repr bt_repr (a_cons (d_var 3) a_nil)) (d_callB (cl_reprY T.sys Z.guard Z.hu) (by rfl) T.n_repr bt_repr (a_cons (d_var 8) a_nil)) (nomark _)) (ss_one
 (s_ret d_bl)) ss_nil)))))))))))))) (ss_cons
 (s_asg (i := 1) sc_law_words_right.nd (by rfl) (by first | exact Or.inl rfl | exact Or.inr rfl) (d_tup (a_cons d_str (a_cons d_int a_nil)))) (ss_cons
 (s_for (L2.passes_of rfl) Z.calm (i_range1 (by rfl) T.n_range (a_cons d_int a_nil)) (g_name sc_law_words_right.nd (by rfl) (by first | exact Or.inl rfl | exact Or.inr rfl)) (ss_one
 (s_asg (i := 1) sc_law_words_right.nd (by rfl) (by first | exact Or.inl rfl | exact Or.inr rfl) (d_tup (a_cons d_str (a_cons (d_var 1) (a_cons (d_var 1) a_nil))))))) (ss_cons
 (s_asgB (i := 3) sc_law_words_right.nd (by rfl) (by first | exact Or.inl rfl | exact Or.inr rfl) (d_lst (a_cons (d_c (g_value_of T 12) Z (by decide) (by rfl) (a_cons (d_var 1) (a_cons (d_tup a_nil) a_nil))) (a_cons (d_c (g_value_of T 12) Z (by decide) (by rfl) (a_cons (d_tup (a_cons d_str (a_cons (d_tup (a_cons d_str (a_cons d_int a_nil))) (a_cons (d_var 1) a_nil)))) (a_cons (d_tup a_nil) a_nil))) (a_cons (d_c (g_value_of T 12) Z (by decide) (by rfl) (a_cons (d_tup (a_cons d_str (a_cons (d_var 1) (a_cons d_int a_nil)))) (a_cons (d_tup a_nil) a_nil))) a_nil))))) (ss_cons
 (s_drop (d_mt F.plainAttrs_list F.slot_list_append F.type_list_append mt_appD (d_var 3) (a_cons (d_c (g_value_of T 12) Z (by decide) (by rfl) (a_cons (d_tup (a_cons d_str (a_cons (d_tup (a_cons d_str (a_cons (d_tup (a_cons d_str (a_cons d_int a_nil))) (a_cons (d_var 1) a_nil)))) (a_cons d_int a_nil)))) (a_cons (d_tup a_nil) a_nil))) a_nil))) (ss_one
 (s_ret (d_cmp (op_eqX Z.hu) (d_callB (cl_reprY T.sys Z.guard Z.hu) (by rfl) T.n_repr bt_repr (a_cons (d_var 3) a_nil)) (d_callB (cl_reprY T.sys Z.guard Z.hu) (by rfl) T.n_repr bt_repr (a_cons (d_lst (a_cons (d_op op_powD d_int d_int) (a_cons (d_op op_subD d_int (d_op op_powD d_int d_int)) (a_cons d_int (a_cons (d_op op_modD (d_op op_subD d_int (d_op op_powD d_int d_int)) d_int) a_nil))))) a_nil)) (nomark _))))))))))
theorem sc_law : FnScope ["_law_script", "_law_k", "_law_state", "_law_counts", "_law_some", "_law_expression_here", "_law_body_here", "_law_turn", "_law_thing", "_law_fields"] ["_law_script"] (L2.defScope (top 16)) := sc_by (by decide +kernel)
def den_law : MD := defD 10
 ((sSeq (sFor (itA range1D (aCons (dCl maxD (aCons (dC (.int 2)) (aCons (dCl minD (aCons (dC (.int 12)) (aCons (dCl lenD (aCons (dVar 0) aNil)) aNil))) aNil))) aNil)) (tName 1) (sSeq (sAsg 2 (dFn 2 den_law_begun (aCons (dVar 0) (aCons (dVar 1) aNil))))
 (sSeq (sAsg 3 (dCl tupleD (aCons (dComp (itA range1D (aCons (dFn 2 den_law_pick (aCons (dVar 2) (aCons (dC (.int 4)) aNil))) aNil)) (tName 8) bYes (d2 addD (dC (.int 1)) (dFn 2 den_law_pick (aCons (dVar 2) (aCons (dC (.int 3)) aNil)))) [8]) aNil)))
 (sSeq (sTgt (tTup (tsCons (tName 5) (tsCons (tName 6) tsNil))) (dTup (aCons (dFn 3 (den_law_expression 6) (aCons (dVar 2) (aCons (dVar 3) (aCons (dC (.int 4)) aNil)))) (aCons (dFn 4 (den_law_body 6) (aCons (dVar 2) (aCons (dVar 3) (aCons (d2 addD (dC (.int 1)) (dFn 2 den_law_pick (aCons (dVar 2) (aCons (dC (.int 3)) aNil)))) (aCons (dC (.int 4)) aNil))))) aNil))))
 (sSeq (sAsg 4 (dComp (itA range1D (aCons (dC (.int 3)) aNil)) (tName 7) bYes (dFn 2 den_law_drawn_fields (aCons (dVar 2) (aCons (dVar 3) aNil))) [7]))
 (sIf (tst (d2 neX (dComp (itSeq (d2 addD (dVar 4) (dRevL (dVar 4)))) (tName 9) (bNot (dTru (dFn 3 den_law_right (aCons (dVar 5) (aCons (dVar 6) (aCons (dVar 9) aNil)))))) (dVar 9) [9]) (dLst aNil))) (sRet (dC (.bl false))) sNext))))))
 (sRet (dFn 0 den_law_words_right aNil))))
theorem g_law (T : Txt w K mg base) : Cl P w K mg base 22 "law" 1 den_law := cl_of (k := 21) T.d_law sc_law fun f cdv A outer s H E Z =>
 (ss_cons
 (s_for (L2.passes_of rfl) Z.calm (i_range1 (by rfl) T.n_range (a_cons (d_callB (cl_max Z.calm) (by rfl) T.n_max bt_max (a_cons d_int (a_cons (d_callB (cl_min Z.calm) (by rfl) T.n_min bt_min (a_cons d_int (a_cons (d_callB cl_len (by rfl) T.n_len bt_len (a_cons (d_var 0) a_nil)) a_nil))) a_nil))) a_nil)) (g_name sc_law.nd (by rfl) (by first | exact Or.inl rfl | exact Or.inr rfl)) (ss_cons
 (s_asg (i := 2) sc_law.nd (by rfl) (by first | exact Or.inl rfl | exact Or.inr rfl) (d_c (g_law_begun T) Z (by decide) (by rfl) (a_cons (d_var 0) (a_cons (d_var 1) a_nil)))) (ss_cons
 (s_asg (i := 3) sc_law.nd (by rfl) (by first | exact Or.inl rfl | exact Or.inr rfl) (d_callTy cl_tuple (by rfl) T.n_tuple bt_tuple (a_cons (d_comp Z.calm sc_law.nd (i_range1 (by rfl) T.n_range (a_cons (d_c (g_law_pick T) Z (by decide) (by rfl) (a_cons (d_var 2) (a_cons d_int a_nil))) a_nil)) (blkOk_by (own := [("_law_thing", 8)]) (by kernel_rfl)) (fun _ _ _ _ _ => (g_name sc_law.nd (by rfl) (by first | exact Or.inl rfl | exact Or.inr rfl))) (fun _ _ _ _ _ => ts_nil) (fun _ _ _ _ _ => (d_op op_addD d_int (d_c (g_law_pick T) Z.blk (by decide) (by rfl) (a_cons (d_var 2) (a_cons d_int a_nil))))) (by decide)) a_nil))) (ss_cons
 (s_tgt (d_tup (a_cons (d_c (g_law_expression T 6) Z (by decide) (by rfl) (a_cons (d_var 2) (a_cons (d_var 3) (a_cons d_int a_nil)))) (a_cons (d_c (g_law_body T 6) Z (by decide) (by rfl) (a_cons (d_var 2) (a_cons (d_var 3) (a_cons (d_op op_addD d_int (d_c (g_law_pick T) Z (by decide) (by rfl) (a_cons (d_var 2) (a_cons d_int a_nil)))) (a_cons d_int a_nil))))) a_nil))) (g_tup Z.calm (gs_cons (g_name sc_law.nd (by rfl) (by first | exact Or.inl rfl | exact Or.inr rfl)) (gs_cons (g_name sc_law.nd (by rfl) (by first | exact Or.inl rfl | exact Or.inr rfl)) gs_nil)) (len_cons (len_cons (fun _ _ _ h => len_nil h))))) (ss_cons
 (s_comp (i := 4) Z.calm sc_law.nd (by rfl) (by rfl) (by rfl) (i_range1 (by rfl) T.n_range (a_cons d_int a_nil)) (blkOk_by (own := [("_law_turn", 7)]) (by kernel_rfl)) (fun _ _ _ _ _ => (g_name sc_law.nd (by rfl) (by first | exact Or.inl rfl | exact Or.inr rfl))) (fun _ _ _ _ _ => ts_nil) (fun _ _ _ _ _ => (d_c (g_law_drawn_fields T) Z.blk (by decide) (by rfl) (a_cons (d_var 2) (a_cons (d_var 3) a_nil)))) (by decide)) (ss_one
 (s_if (t_cmp (op_neX Z.hu) (d_comp Z.calm sc_law.nd (i_seq (d_op op_addD (d_var 4) (d_revL (d_var 4)))) (blkOk_by (own := [("_law_fields", 9)]) (by kernel_rfl)) (fun _ _ _ _ _ => (g_name sc_law.nd (by rfl) (by first | exact Or.inl rfl | exact Or.inr rfl))) (fun _ _ _ _ _ => (ts_one (t_not (t_tru (d_c (g_law_right T) Z.blk (by decide) (by rfl) (a_cons (d_var 5) (a_cons (d_var 6) (a_cons (d_var 9) a_nil)))))))) (fun _ _ _ _ _ => (d_var 9)) (by decide)) (d_lst a_nil) (nomark _)) (ss_one
 (s_ret d_bl)) ss_nil))))))) (ss_one
 (s_ret (d_c0 (g_law_words_right T) Z (by decide) (by rfl)))))
end
end W10
namespace W10
open Sf L2 PySem PySem.Spec PyProof.Rows
theorem n_number_in : decide (("number" : Str) = "in") = false := by decide +kernel
theorem n_number_rest : decide (("number" : Str) = "rest") = false := by decide +kernel
theorem n_number_if : decide (("number" : Str) = "if") = false := by decide +kernel
theorem n_number_plus : decide (("number" : Str) = "plus") = false := by decide +kernel
theorem n_number_less : decide (("number" : Str) = "less") = false := by decide +kernel
theorem n_number_times : decide (("number" : Str) = "times") = false := by decide +kernel
theorem n_number_same : decide (("number" : Str) = "same") = false := by decide +kernel
theorem n_number_under : decide (("number" : Str) = "under") = false := by decide +kernel
theorem n_number_give : decide (("number" : Str) = "give") = false := by decide +kernel
theorem n_number_refuse : decide (("number" : Str) = "refuse") = false := by decide +kernel
theorem n_number_when : decide (("number" : Str) = "when") = false := by decide +kernel
theorem n_in_number : decide (("in" : Str) = "number") = false := by decide +kernel
theorem n_in_rest : decide (("in" : Str) = "rest") = false := by decide +kernel
theorem n_in_if : decide (("in" : Str) = "if") = false := by decide +kernel
theorem n_in_plus : decide (("in" : Str) = "plus") = false := by decide +kernel
theorem n_in_less : decide (("in" : Str) = "less") = false := by decide +kernel
theorem n_in_times : decide (("in" : Str) = "times") = false := by decide +kernel
theorem n_in_same : decide (("in" : Str) = "same") = false := by decide +kernel
theorem n_in_under : decide (("in" : Str) = "under") = false := by decide +kernel
theorem n_in_give : decide (("in" : Str) = "give") = false := by decide +kernel
theorem n_in_refuse : decide (("in" : Str) = "refuse") = false := by decide +kernel
theorem n_in_when : decide (("in" : Str) = "when") = false := by decide +kernel
theorem n_rest_number : decide (("rest" : Str) = "number") = false := by decide +kernel
theorem n_rest_in : decide (("rest" : Str) = "in") = false := by decide +kernel
theorem n_rest_if : decide (("rest" : Str) = "if") = false := by decide +kernel
theorem n_rest_plus : decide (("rest" : Str) = "plus") = false := by decide +kernel
theorem n_rest_less : decide (("rest" : Str) = "less") = false := by decide +kernel
theorem n_rest_times : decide (("rest" : Str) = "times") = false := by decide +kernel
theorem n_rest_same : decide (("rest" : Str) = "same") = false := by decide +kernel
theorem n_rest_under : decide (("rest" : Str) = "under") = false := by decide +kernel
theorem n_rest_give : decide (("rest" : Str) = "give") = false := by decide +kernel
theorem n_rest_refuse : decide (("rest" : Str) = "refuse") = false := by decide +kernel
theorem n_rest_when : decide (("rest" : Str) = "when") = false := by decide +kernel
theorem n_if_number : decide (("if" : Str) = "number") = false := by decide +kernel
theorem n_if_in : decide (("if" : Str) = "in") = false := by decide +kernel
theorem n_if_rest : decide (("if" : Str) = "rest") = false := by decide +kernel
theorem n_if_plus : decide (("if" : Str) = "plus") = false := by decide +kernel
theorem n_if_less : decide (("if" : Str) = "less") = false := by decide +kernel
theorem n_if_times : decide (("if" : Str) = "times") = false := by decide +kernel
theorem n_if_same : decide (("if" : Str) = "same") = false := by decide +kernel
theorem n_if_under : decide (("if" : Str) = "under") = false := by decide +kernel
theorem n_if_give : decide (("if" : Str) = "give") = false := by decide +kernel
theorem n_if_refuse : decide (("if" : Str) = "refuse") = false := by decide +kernel
theorem n_if_when : decide (("if" : Str) = "when") = false := by decide +kernel
theorem n_plus_number : decide (("plus" : Str) = "number") = false := by decide +kernel
theorem n_plus_in : decide (("plus" : Str) = "in") = false := by decide +kernel
theorem n_plus_rest : decide (("plus" : Str) = "rest") = false := by decide +kernel
theorem n_plus_if : decide (("plus" : Str) = "if") = false := by decide +kernel
theorem n_plus_less : decide (("plus" : Str) = "less") = false := by decide +kernel
theorem n_plus_times : decide (("plus" : Str) = "times") = false := by decide +kernel
theorem n_plus_same : decide (("plus" : Str) = "same") = false := by decide +kernel
theorem n_plus_under : decide (("plus" : Str) = "under") = false := by decide +kernel
theorem n_plus_give : decide (("plus" : Str) = "give") = false := by decide +kernel
theorem n_plus_refuse : decide (("plus" : Str) = "refuse") = false := by decide +kernel
theorem n_plus_when : decide (("plus" : Str) = "when") = false := by decide +kernel
theorem n_less_number : decide (("less" : Str) = "number") = false := by decide +kernel
theorem n_less_in : decide (("less" : Str) = "in") = false := by decide +kernel
theorem n_less_rest : decide (("less" : Str) = "rest") = false := by decide +kernel
theorem n_less_if : decide (("less" : Str) = "if") = false := by decide +kernel
theorem n_less_plus : decide (("less" : Str) = "plus") = false := by decide +kernel
theorem n_less_times : decide (("less" : Str) = "times") = false := by decide +kernel
theorem n_less_same : decide (("less" : Str) = "same") = false := by decide +kernel
theorem n_less_under : decide (("less" : Str) = "under") = false := by decide +kernel
theorem n_less_give : decide (("less" : Str) = "give") = false := by decide +kernel
theorem n_less_refuse : decide (("less" : Str) = "refuse") = false := by decide +kernel
theorem n_less_when : decide (("less" : Str) = "when") = false := by decide +kernel
theorem n_times_number : decide (("times" : Str) = "number") = false := by decide +kernel
theorem n_times_in : decide (("times" : Str) = "in") = false := by decide +kernel
theorem n_times_rest : decide (("times" : Str) = "rest") = false := by decide +kernel
theorem n_times_if : decide (("times" : Str) = "if") = false := by decide +kernel
theorem n_times_plus : decide (("times" : Str) = "plus") = false := by decide +kernel
theorem n_times_less : decide (("times" : Str) = "less") = false := by decide +kernel
theorem n_times_same : decide (("times" : Str) = "same") = false := by decide +kernel
theorem n_times_under : decide (("times" : Str) = "under") = false := by decide +kernel
theorem n_times_give : decide (("times" : Str) = "give") = false := by decide +kernel
theorem n_times_refuse : decide (("times" : Str) = "refuse") = false := by decide +kernel
theorem n_times_when : decide (("times" : Str) = "when") = false := by decide +kernel
theorem n_same_number : decide (("same" : Str) = "number") = false := by decide +kernel
theorem n_same_in : decide (("same" : Str) = "in") = false := by decide +kernel
theorem n_same_rest : decide (("same" : Str) = "rest") = false := by decide +kernel
theorem n_same_if : decide (("same" : Str) = "if") = false := by decide +kernel
theorem n_same_plus : decide (("same" : Str) = "plus") = false := by decide +kernel
theorem n_same_less : decide (("same" : Str) = "less") = false := by decide +kernel
theorem n_same_times : decide (("same" : Str) = "times") = false := by decide +kernel
theorem n_same_under : decide (("same" : Str) = "under") = false := by decide +kernel
theorem n_same_give : decide (("same" : Str) = "give") = false := by decide +kernel
theorem n_same_refuse : decide (("same" : Str) = "refuse") = false := by decide +kernel
theorem n_same_when : decide (("same" : Str) = "when") = false := by decide +kernel
theorem n_under_number : decide (("under" : Str) = "number") = false := by decide +kernel
theorem n_under_in : decide (("under" : Str) = "in") = false := by decide +kernel
theorem n_under_rest : decide (("under" : Str) = "rest") = false := by decide +kernel
theorem n_under_if : decide (("under" : Str) = "if") = false := by decide +kernel
theorem n_under_plus : decide (("under" : Str) = "plus") = false := by decide +kernel
theorem n_under_less : decide (("under" : Str) = "less") = false := by decide +kernel
theorem n_under_times : decide (("under" : Str) = "times") = false := by decide +kernel
theorem n_under_same : decide (("under" : Str) = "same") = false := by decide +kernel
theorem n_under_give : decide (("under" : Str) = "give") = false := by decide +kernel
theorem n_under_refuse : decide (("under" : Str) = "refuse") = false := by decide +kernel
theorem n_under_when : decide (("under" : Str) = "when") = false := by decide +kernel
theorem n_give_number : decide (("give" : Str) = "number") = false := by decide +kernel
theorem n_give_in : decide (("give" : Str) = "in") = false := by decide +kernel
theorem n_give_rest : decide (("give" : Str) = "rest") = false := by decide +kernel
theorem n_give_if : decide (("give" : Str) = "if") = false := by decide +kernel
theorem n_give_plus : decide (("give" : Str) = "plus") = false := by decide +kernel
theorem n_give_less : decide (("give" : Str) = "less") = false := by decide +kernel
theorem n_give_times : decide (("give" : Str) = "times") = false := by decide +kernel
theorem n_give_same : decide (("give" : Str) = "same") = false := by decide +kernel
theorem n_give_under : decide (("give" : Str) = "under") = false := by decide +kernel
theorem n_give_refuse : decide (("give" : Str) = "refuse") = false := by decide +kernel
theorem n_give_when : decide (("give" : Str) = "when") = false := by decide +kernel
theorem n_refuse_number : decide (("refuse" : Str) = "number") = false := by decide +kernel
theorem n_refuse_in : decide (("refuse" : Str) = "in") = false := by decide +kernel
theorem n_refuse_rest : decide (("refuse" : Str) = "rest") = false := by decide +kernel
theorem n_refuse_if : decide (("refuse" : Str) = "if") = false := by decide +kernel
theorem n_refuse_plus : decide (("refuse" : Str) = "plus") = false := by decide +kernel
theorem n_refuse_less : decide (("refuse" : Str) = "less") = false := by decide +kernel
theorem n_refuse_times : decide (("refuse" : Str) = "times") = false := by decide +kernel
theorem n_refuse_same : decide (("refuse" : Str) = "same") = false := by decide +kernel
theorem n_refuse_under : decide (("refuse" : Str) = "under") = false := by decide +kernel
theorem n_refuse_give : decide (("refuse" : Str) = "give") = false := by decide +kernel
theorem n_refuse_when : decide (("refuse" : Str) = "when") = false := by decide +kernel
theorem n_when_number : decide (("when" : Str) = "number") = false := by decide +kernel
theorem n_when_in : decide (("when" : Str) = "in") = false := by decide +kernel
theorem n_when_rest : decide (("when" : Str) = "rest") = false := by decide +kernel
theorem n_when_if : decide (("when" : Str) = "if") = false := by decide +kernel
theorem n_when_plus : decide (("when" : Str) = "plus") = false := by decide +kernel
theorem n_when_less : decide (("when" : Str) = "less") = false := by decide +kernel
theorem n_when_times : decide (("when" : Str) = "times") = false := by decide +kernel
theorem n_when_same : decide (("when" : Str) = "same") = false := by decide +kernel
theorem n_when_under : decide (("when" : Str) = "under") = false := by decide +kernel
theorem n_when_give : decide (("when" : Str) = "give") = false := by decide +kernel
theorem n_when_refuse : decide (("when" : Str) = "refuse") = false := by decide +kernel

/-! indices, slices -/
theorem at0 {α : Type} (a : α) (l : List α) : atI (a :: l) 0 = some a := by
  unfold atI ixN
  rw [if_pos (Int.le_refl 0), if_pos (by rw [List.length_cons]; omega)]
  rfl
theorem atN {α : Type} (l : List α) (i : Nat) (hi : i < l.length) : atI l (i : Int) = l[i]? := by
  unfold atI ixN
  rw [if_pos (by omega), if_pos (by omega)]
  rfl
theorem at1 {α : Type} (a b : α) (l : List α) : atI (a :: b :: l) 1 = some b := atN (a :: b :: l) 1 (by simp)
theorem at2 {α : Type} (a b c : α) (l : List α) : atI (a :: b :: c :: l) 2 = some c := atN (a :: b :: c :: l) 2 (by simp)
theorem at3 {α : Type} (a b c d : α) (l : List α) : atI (a :: b :: c :: d :: l) 3 = some d := atN (a :: b :: c :: d :: l) 3 (by simp)
theorem cut1 (a : D) (l : List D) : Sf.cutD (a :: l) (some 1) none = l := by
  unfold Sf.cutD
  rw [HT.sIx_none, show (some (1 : Int)) = some ((1 : Nat) : Int) from rfl, HT.sIx_nat, Nat.min_eq_left (by rw [List.length_cons]; omega)]
  exact List.take_of_length_le (by rw [List.length_drop]; omega)
theorem slT (S : Sto) (a : D) (l : List D) : slD S (.tup (a :: l)) (some 1) none = some (.val (.tup l)) := by
  show some (Out.val (.tup (Sf.cutD (a :: l) (some 1) none))) = _
  rw [cut1]
/-! numbers of so many bits -/
def Bits (k : Nat) (i : Int) : Prop := i.natAbs < 2 ^ k
theorem Bits.log {k : Nat} {i : Int} (h : Bits k i) : i.natAbs.log2 ≤ k := by
  by_cases h0 : i.natAbs = 0
  · rw [h0]; exact Nat.zero_le _
  · exact Nat.le_of_lt ((Nat.log2_lt h0).mpr h)
theorem Bits.mono {k l : Nat} {i : Int} (h : Bits k i) (hl : k ≤ l) : Bits l i := Nat.lt_of_lt_of_le h (Nat.pow_le_pow_right (by decide) hl)
theorem Bits.add {k : Nat} {i j : Int} (h : Bits k i) (g : Bits k j) : Bits (k + 1) (i + j) := by
  unfold Bits at *
  have := Int.natAbs_add_le i j
  rw [Nat.pow_succ]
  omega
theorem Bits.sub {k : Nat} {i j : Int} (h : Bits k i) (g : Bits k j) : Bits (k + 1) (i - j) := by
  unfold Bits at *
  rw [Nat.pow_succ]
  omega
theorem Bits.mul {k l : Nat} {i j : Int} (h : Bits k i) (g : Bits l j) : Bits (k + l) (i * j) := by
  unfold Bits at *
  rw [Int.natAbs_mul, Nat.pow_add]
  exact Nat.mul_lt_mul'' h g
theorem bits_of {k : Nat} {i : Int} (n : Nat) (h : i.natAbs ≤ n) (hn : n < 2 ^ k) : Bits k i := Nat.lt_of_le_of_lt h hn
theorem y_mulW (S : Sto) {i j : Int} {k l : Nat} (h : Bits k i) (g : Bits l j) (hl : k + l < 1000000) : mulWD S (.int i) (.int j) = some (.val (.int (i * j))) :=
  if_pos (by have := h.log; have := g.log; omega)
/-! the drawing state -/
def stO (a b : Int) : Ob := .dct [(.inr "digits", .int a), (.inr "number", .int b)]
section
variable {S : Sto} {n : Nat} {a b : Int}
theorem dgd (h : S[n]? = some (stO a b)) : dgD S (.ref n) (.str "digits") = some (.val (.int a)) := by
  simp only [dgD, viewD, h, stO, keyD]
  rfl
theorem dgn (h : S[n]? = some (stO a b)) : dgD S (.ref n) (.str "number") = some (.val (.int b)) := by
  simp only [dgD, viewD, h, stO, keyD]
  rfl
theorem dpd (h : S[n]? = some (stO a b)) (x : Int) : dputS S (.ref n) (.str "digits") (.int x) = some (S.set n (stO x b)) := by
  simp only [dputS, h, stO, keyD]
  rfl
theorem dpn (h : S[n]? = some (stO a b)) (x : Int) : dputS S (.ref n) (.str "number") (.int x) = some (S.set n (stO a x)) := by
  simp only [dputS, h, stO, keyD]
  rfl
theorem set_at {o o' : Ob} (h : S[n]? = some o) : (S.set n o')[n]? = some o' := List.getElem?_set_self (List.getElem?_eq_some_iff.mp h).1
end
/-- the state object stands at n -/
def At (n : Nat) (S : Sto) : Prop := ∃ a b, S[n]? = some (stO a b) ∧ 0 ≤ a ∧ 0 ≤ b ∧ b < 2147483647
/-- a later store, all but n as before -/
def Ev (n : Nat) (S S' : Sto) : Prop := S.length ≤ S'.length ∧ At n S' ∧ ∀ m, m ≠ n → m < S.length → S'[m]? = S[m]?
/-- a later store, all as before -/
def Gr (S S' : Sto) : Prop := S.length ≤ S'.length ∧ ∀ m, m < S.length → S'[m]? = S[m]?
theorem Gr.refl (S : Sto) : Gr S S := ⟨Nat.le_refl _, fun _ _ => rfl⟩
theorem Gr.trans {S S' S'' : Sto} (h : Gr S S') (g : Gr S' S'') : Gr S S'' := ⟨Nat.le_trans h.1 g.1, fun m hm => (g.2 m (Nat.lt_of_lt_of_le hm h.1)).trans (h.2 m hm)⟩
theorem Gr.push (S l : Sto) : Gr S (S ++ l) := ⟨by rw [List.length_append]; omega, fun m hm => List.getElem?_append_left hm⟩
theorem Gr.set {S S' : Sto} (h : Gr S S') {n : Nat} (hn : S.length ≤ n) (o : Ob) : Gr S (S'.set n o) := ⟨by rw [List.length_set]; exact h.1, fun m hm => by
  rw [List.getElem?_set_ne (by omega)]
  exact h.2 m hm⟩
theorem Gr.app {S S' : Sto} (h : Gr S S') (l : Sto) : Gr S (S' ++ l) := h.trans (Gr.push _ _)
theorem Gr.at {S S' : Sto} (h : Gr S S') {m : Nat} {o : Ob} (e : S[m]? = some o) : S'[m]? = some o := by
  rw [h.2 m (List.getElem?_eq_some_iff.mp e).1, e]
theorem At.gr {n : Nat} {S S' : Sto} (h : At n S) (g : Gr S S') : At n S' := by
  obtain ⟨a, b, e, r⟩ := h
  exact ⟨a, b, g.at e, r⟩
theorem At.ev {n : Nat} {S S' : Sto} (h : At n S) (g : Gr S S') : Ev n S S' := ⟨g.1, h.gr g, fun m _ hm => g.2 m hm⟩
theorem Ev.trans {n : Nat} {S S' S'' : Sto} (h : Ev n S S') (g : Ev n S' S'') : Ev n S S'' := ⟨Nat.le_trans h.1 g.1, g.2.1, fun m hn hm => (g.2.2 m hn (Nat.lt_of_lt_of_le hm h.1)).trans (h.2.2 m hn hm)⟩
theorem Ev.gr {n : Nat} {S S' S'' : Sto} (h : Ev n S S') (g : Gr S' S'') : Ev n S S'' := h.trans (h.2.1.ev g)
theorem At.refl {n : Nat} {S : Sto} (h : At n S) : Ev n S S := ⟨Nat.le_refl _, h, fun _ _ _ => rfl⟩
theorem At.lt {n : Nat} {S : Sto} (h : At n S) : n < S.length := by
  obtain ⟨a, b, e, _⟩ := h
  exact (List.getElem?_eq_some_iff.mp e).1
theorem At.set {n : Nat} {S : Sto} (h : At n S) {a b : Int} (r : 0 ≤ a ∧ 0 ≤ b ∧ b < 2147483647) : Ev n S (S.set n (stO a b)) :=
  ⟨by rw [List.length_set]; exact Nat.le_refl _, ⟨a, b, List.getElem?_set_self h.lt, r⟩, fun m hn _ => List.getElem?_set_ne (Ne.symm hn)⟩
theorem Ev.at {n : Nat} {S S' : Sto} (h : Ev n S S') {m : Nat} {o : Ob} (hm : m ≠ n) (e : S[m]? = some o) : S'[m]? = some o := by
  rw [h.2.2 m hm (List.getElem?_eq_some_iff.mp e).1, e]
theorem mo_l {i j : Int} (h1 : -(2 ^ 64) < i) (h2 : i < 2 ^ 64) : mulOk i j = true := decide_eq_true (.inl ⟨h1, h2⟩)
theorem mo_r {i j : Int} (h1 : -(2 ^ 64) < j) (h2 : j < 2 ^ 64) : mulOk i j = true := decide_eq_true (.inr ⟨h1, h2⟩)
theorem mo1 (i : Int) : mulOk i 48271 = true := mo_r (by decide) (by decide)
theorem mo2 (i : Int) : mulOk 7919 i = true := mo_l (by decide) (by decide)
theorem p1 : (1000000007 : Int) ≠ 0 := by decide
theorem p2 : (2147483647 : Int) ≠ 0 := by decide
theorem p3 : (2147483629 : Int) ≠ 0 := by decide
theorem p7 : (7 : Int) ≠ 0 ∧ (7 : Int).natAbs < 1073741824 := ⟨by decide, by decide⟩
theorem fdiv_ok {m : Int} (h : 1 ≤ m ∧ m ≤ 1000000) : m ≠ 0 ∧ m.natAbs < 1073741824 := ⟨by omega, by omega⟩
theorem e_pick {S : Sto} {n : Nat} {m : Int} (h : At n S) (hm : 1 ≤ m ∧ m ≤ 1000000) :
    ∃ r S', den_law_pick [.ref n, .int m] S = some (.ok (.val (.int r)) S') ∧ 0 ≤ r ∧ r < m ∧ Ev n S S' := by
  obtain ⟨a, b, e, ha, hb, hb2⟩ := id h
  have hm0 : m ≠ 0 := by omega
  have hmd := fdiv_ok hm
  by_cases h0 : 0 < a
  · refine ⟨a.fmod m, _, ?_, Int.fmod_nonneg_of_pos _ (by omega), Int.fmod_lt_of_pos _ (by omega), h.set (a := a.fdiv m) (b := b) ⟨Int.fdiv_nonneg ha (by omega), hb, hb2⟩⟩
    simp only [den_law_pick, x_bnd, x_bnS, x_c, x_var, x_varK, x_stl, x_stlV, x_stlL, x_stlE, x_stlD, x_bxd, x_bxV, x_bxK, x_okv, x_okm, x_d2, x_d2K, x_d2L, x_tst, x_tstK, x_ch, x_chK, x_chL, x_chMt, x_chMf, x_chN, x_and, x_andK, x_andT, x_andF, x_or, x_orK, x_orT, x_orF, x_not, x_notK, x_notL, x_tru, x_truK, x_truL, x_band, x_bandT, x_bandF, x_bor, x_borT, x_borF, x_bnot, x_bnotK, x_dif, x_difT, x_difF, x_anil, x_acons, x_aK, x_aL, x_tup, x_tupK, x_lst, x_lstK, x_cl, x_clK, x_fn, x_fnK, x_isi, x_isiK, x_isiL, x_neg, x_negK, x_revL, x_kget, x_kgetK, x_sl, x_slK, x_slL, x_pnone, x_psome, x_psK, x_mt, x_mtK, x_mtL, x_itA, x_itAK, x_itL, x_itSeq, x_seqK, x_itStr, x_istrK, x_comp, x_compK, x_compL, x_wipe1, x_wipe2, x_seq, x_sqN, x_sqR, x_sqB, x_sqC, x_next, x_ret, x_retK, x_retN, x_asg, x_asgB, x_asgK, x_drop, x_dropK, x_if, x_ifT, x_ifF, x_for, x_forK, x_tgt, x_tgtK, x_tgtL, x_tname, x_par, x_parK, x_dput, x_dputK, x_dputK1, x_dputK2, x_dputL, x_def, x_defR, x_defN, y_add, y_sub, y_mul, y_mulX, y_mod, y_fdiv, y_lt, y_le, y_gt, y_ge, y_eqI, y_eqS, y_neI, y_neS, y_eqYI, y_eqYS, y_neYI, y_neYS, y_ixT, y_ixL, y_trB, y_k0, y_k1, y_k2, y_k3, y_k4, y_k5, y_k6, y_lenT, y_lenL, y_lenS, startE, List.map_cons, List.map_nil, List.length_cons, List.length_nil, List.replicate, List.cons_append, List.nil_append, List.append_nil, Nat.sub_self, Nat.reduceSub, Nat.reduceAdd, Nat.reduceLeDiff, Nat.reduceEqDiff, Nat.zero_add, Nat.zero_le, Nat.sub_zero, List.set_cons_zero, List.set_cons_succ, List.getElem?_cons_zero, List.getElem?_cons_succ, Bool.not_true, Bool.not_false, decide_true, decide_false, dgd e, decide_eq_true h0, hmd, hm0, ne_eq, not_false_eq_true, and_self, dpd e]
  · have q1 := Int.fmod_nonneg_of_pos (b * 48271 + 11) (show (0 : Int) < 2147483647 by decide)
    have q2 := Int.fmod_lt_of_pos (b * 48271 + 11) (show (0 : Int) < 2147483647 by decide)
    have e2 := set_at (o' := stO a ((b * 48271 + 11).fmod 2147483647)) e
    refine ⟨((((b * 48271 + 11).fmod 2147483647 * ((b * 48271 + 11).fmod 2147483647 + 7919)).fmod 2147483629).fdiv 7).fmod m, _, ?_, Int.fmod_nonneg_of_pos _ (by omega), Int.fmod_lt_of_pos _ (by omega), h.set (a := a) (b := (b * 48271 + 11).fmod 2147483647) ⟨ha, q1, q2⟩⟩
    · have hm1 : mulOk ((b * 48271 + 11).fmod 2147483647) ((b * 48271 + 11).fmod 2147483647 + 7919) = true := mo_l (by omega) (by omega)
      simp only [den_law_pick, x_bnd, x_bnS, x_c, x_var, x_varK, x_stl, x_stlV, x_stlL, x_stlE, x_stlD, x_bxd, x_bxV, x_bxK, x_okv, x_okm, x_d2, x_d2K, x_d2L, x_tst, x_tstK, x_ch, x_chK, x_chL, x_chMt, x_chMf, x_chN, x_and, x_andK, x_andT, x_andF, x_or, x_orK, x_orT, x_orF, x_not, x_notK, x_notL, x_tru, x_truK, x_truL, x_band, x_bandT, x_bandF, x_bor, x_borT, x_borF, x_bnot, x_bnotK, x_dif, x_difT, x_difF, x_anil, x_acons, x_aK, x_aL, x_tup, x_tupK, x_lst, x_lstK, x_cl, x_clK, x_fn, x_fnK, x_isi, x_isiK, x_isiL, x_neg, x_negK, x_revL, x_kget, x_kgetK, x_sl, x_slK, x_slL, x_pnone, x_psome, x_psK, x_mt, x_mtK, x_mtL, x_itA, x_itAK, x_itL, x_itSeq, x_seqK, x_itStr, x_istrK, x_comp, x_compK, x_compL, x_wipe1, x_wipe2, x_seq, x_sqN, x_sqR, x_sqB, x_sqC, x_next, x_ret, x_retK, x_retN, x_asg, x_asgB, x_asgK, x_drop, x_dropK, x_if, x_ifT, x_ifF, x_for, x_forK, x_tgt, x_tgtK, x_tgtL, x_tname, x_par, x_parK, x_dput, x_dputK, x_dputK1, x_dputK2, x_dputL, x_def, x_defR, x_defN, y_add, y_sub, y_mul, y_mulX, y_mod, y_fdiv, y_lt, y_le, y_gt, y_ge, y_eqI, y_eqS, y_neI, y_neS, y_eqYI, y_eqYS, y_neYI, y_neYS, y_ixT, y_ixL, y_trB, y_k0, y_k1, y_k2, y_k3, y_k4, y_k5, y_k6, y_lenT, y_lenL, y_lenS, startE, List.map_cons, List.map_nil, List.length_cons, List.length_nil, List.replicate, List.cons_append, List.nil_append, List.append_nil, Nat.sub_self, Nat.reduceSub, Nat.reduceAdd, Nat.reduceLeDiff, Nat.reduceEqDiff, Nat.zero_add, Nat.zero_le, Nat.sub_zero, List.set_cons_zero, List.set_cons_succ, List.getElem?_cons_zero, List.getElem?_cons_succ, Bool.not_true, Bool.not_false, decide_true, decide_false, dgd e, dgn e, decide_eq_false h0, mo1, p2, p3, p7, hm0, ne_eq, not_false_eq_true, and_self, dpn e, hm1]
/-! the beginning -/
theorem y_lenF (S : Sto) (ds : List D) : lenD S [.fls ds] = some (.val (.int ds.length)) := rfl
theorem y_ixF (S : Sto) (ds : List D) (i : Int) : ixD S (.fls ds) (.int i) = (atI ds i).map .val := rfl
theorem y_abs (S : Sto) (i : Int) : absD S [.int i] = some (.val (.int (if i < 0 then -i else i))) := rfl
theorem pw18 (S : Sto) : powD S (.int 10) (.int 18) = some (.val (.int (10 ^ 18))) := rfl
theorem pw60 (S : Sto) : powD S (.int 10) (.int 60) = some (.val (.int (10 ^ 60))) := rfl
theorem b60 : Bits 210 (10 ^ 60) := by unfold Bits; decide +kernel
def cellI (ns : List Int) (k : Int) : Int := if 0 ≤ k ∧ k < ns.length then (atI ns k).getD 0 else 5
theorem atI_map {α β : Type} (f : α → β) (l : List α) (i : Int) : atI (l.map f) i = (atI l i).map f := by
  unfold atI
  rw [List.length_map]
  cases ixN l.length i with
  | none => rfl
  | some j => exact List.getElem?_map
theorem atI_some {α : Type} {l : List α} {r : Int} (h1 : 0 ≤ r) (h2 : r < (l.length : Int)) : atI l r = l[r.toNat]? := by
  unfold atI ixN
  rw [if_pos h1, if_pos h2]
  rfl
theorem atI_mem {α : Type} {l : List α} {r : Int} (h1 : 0 ≤ r) (h2 : r < (l.length : Int)) : ∃ x ∈ l, atI l r = some x := by
  have hl : r.toNat < l.length := by omega
  exact ⟨l[r.toNat], List.getElem_mem hl, by rw [atI_some h1 h2]; exact List.getElem?_eq_getElem hl⟩
theorem m120 : (10 : Int) ^ 60 * 10 ^ 60 ≠ 0 := by decide +kernel
theorem e_begun (S : Sto) (ns : List Int) (k : Int) (hk : 0 ≤ k ∧ k < 2 ^ 30) : ∃ a b, den_law_begun [.fls (ns.map .int), .int k] S = some (.ok (.own (stO a b)) S) ∧ 0 ≤ a ∧ 0 ≤ b ∧ b < 2147483647 := by
  have main : ∀ c : Int, ∃ a b, 0 ≤ a ∧ 0 ≤ b ∧ b < 2147483647 ∧ ∀ x2 : Option D,
      (sSeq (sAsg 3 (d2 addD (d2 addD (d2 modD (dVar 2) (dC (.int 1000000007))) (d2 mulWD (dC (.int 7919)) (dVar 1))) (dC (.int 13))))
        (sSeq (sAsg 3 (d2 modD (d2 mulWD (d2 modD (d2 mulWD (dVar 3) (dVar 3)) (dC (.int 2147483629))) (dC (.int 48271))) (dC (.int 2147483647))))
        (sRet (dDisp [("digits", (dIf (tst (d2 geD (dCl absD (aCons (dVar 2) aNil)) (d2 powD (dC (.int 10)) (dC (.int 18))))) (d2 modD (dCl absD (aCons (dVar 2) aNil)) (d2 mulWD (d2 powD (dC (.int 10)) (dC (.int 60))) (d2 powD (dC (.int 10)) (dC (.int 60))))) (dC (.int 0)))), ("number", (dVar 3))]))))
        [some (.fls (ns.map .int)), some (.int k), some (.int c), x2] S = some (.rt (.own (stO a b)) S) := fun c => by
    have q1 := Int.fmod_nonneg_of_pos c (show (0 : Int) < 1000000007 by decide)
    have q2 := Int.fmod_lt_of_pos c (show (0 : Int) < 1000000007 by decide)
    have hk3 : Bits 30 k := by unfold Bits; omega
    have h1 : Bits 13 7919 := by unfold Bits; decide
    generalize hu : c.fmod 1000000007 + 7919 * k + 13 = u
    have hub : Bits 44 u := by unfold Bits; omega
    have q3 := Int.fmod_nonneg_of_pos (u * u) (show (0 : Int) < 2147483629 by decide)
    have q4 := Int.fmod_lt_of_pos (u * u) (show (0 : Int) < 2147483629 by decide)
    generalize hv : (u * u).fmod 2147483629 = v at q3 q4
    have hvb : Bits 32 v := by unfold Bits; omega
    have h4 : Bits 16 48271 := by unfold Bits; decide
    have y1 := y_mulW S h1 hk3 (by decide)
    have y2 := y_mulW S hub hub (by decide)
    have y3 := y_mulW S hvb h4 (by decide)
    have y4 := y_mulW S b60 b60 (by decide)
    have ya := y_abs S c
    have hA : 0 ≤ (if c < 0 then -c else c) := by split <;> omega
    generalize (if c < 0 then -c else c) = A at ya hA
    have r1 := Int.fmod_nonneg_of_pos (v * 48271) (show (0 : Int) < 2147483647 by decide)
    have r2 := Int.fmod_lt_of_pos (v * 48271) (show (0 : Int) < 2147483647 by decide)
    by_cases h : (10 : Int) ^ 18 ≤ A
    · refine ⟨A.fmod (10 ^ 60 * 10 ^ 60), (v * 48271).fmod 2147483647, Int.fmod_nonneg_of_pos _ (by decide +kernel), r1, r2, fun x2 => ?_⟩
      generalize hM : (10 : Int) ^ 60 * 10 ^ 60 = M at y4
      have m0 : M ≠ 0 := hM ▸ m120
      simp only [dDisp, vals, x_bnd, x_bnS, x_c, x_var, x_varK, x_stl, x_stlV, x_stlL, x_stlE, x_stlD, x_bxd, x_bxV, x_bxK, x_okv, x_okm, x_d2, x_d2K, x_d2L, x_tst, x_tstK, x_ch, x_chK, x_chL, x_chMt, x_chMf, x_chN, x_and, x_andK, x_andT, x_andF, x_or, x_orK, x_orT, x_orF, x_not, x_notK, x_notL, x_tru, x_truK, x_truL, x_band, x_bandT, x_bandF, x_bor, x_borT, x_borF, x_bnot, x_bnotK, x_dif, x_difT, x_difF, x_anil, x_acons, x_aK, x_aL, x_tup, x_tupK, x_lst, x_lstK, x_cl, x_clK, x_fn, x_fnK, x_isi, x_isiK, x_isiL, x_neg, x_negK, x_revL, x_kget, x_kgetK, x_sl, x_slK, x_slL, x_pnone, x_psome, x_psK, x_mt, x_mtK, x_mtL, x_itA, x_itAK, x_itL, x_itSeq, x_seqK, x_itStr, x_istrK, x_comp, x_compK, x_compL, x_wipe1, x_wipe2, x_seq, x_sqN, x_sqR, x_sqB, x_sqC, x_next, x_ret, x_retK, x_retN, x_asg, x_asgB, x_asgK, x_drop, x_dropK, x_if, x_ifT, x_ifF, x_for, x_forK, x_tgt, x_tgtK, x_tgtL, x_tname, x_par, x_parK, x_dput, x_dputK, x_dputK1, x_dputK2, x_dputL, x_def, x_defR, x_defN, y_add, y_sub, y_mul, y_mulX, y_mod, y_fdiv, y_lt, y_le, y_gt, y_ge, y_eqI, y_eqS, y_neI, y_neS, y_eqYI, y_eqYS, y_neYI, y_neYS, y_ixT, y_ixL, y_trB, y_k0, y_k1, y_k2, y_k3, y_k4, y_k5, y_k6, y_lenT, y_lenL, y_lenS, startE, List.map_cons, List.map_nil, List.length_cons, List.length_nil, List.replicate, List.cons_append, List.nil_append, List.append_nil, Nat.sub_self, Nat.reduceSub, Nat.reduceAdd, Nat.reduceLeDiff, Nat.reduceEqDiff, Nat.zero_add, Nat.zero_le, Nat.sub_zero, List.set_cons_zero, List.set_cons_succ, List.getElem?_cons_zero, List.getElem?_cons_succ, Bool.not_true, Bool.not_false, decide_true, decide_false, y1, hu, p1, p2, p3, y2, hv, y3, ya, pw18, pw60, y4, decide_eq_true h, ne_eq, not_false_eq_true, m0]
      rfl
    · refine ⟨0, (v * 48271).fmod 2147483647, Int.le_refl _, r1, r2, fun x2 => ?_⟩
      simp only [dDisp, vals, x_bnd, x_bnS, x_c, x_var, x_varK, x_stl, x_stlV, x_stlL, x_stlE, x_stlD, x_bxd, x_bxV, x_bxK, x_okv, x_okm, x_d2, x_d2K, x_d2L, x_tst, x_tstK, x_ch, x_chK, x_chL, x_chMt, x_chMf, x_chN, x_and, x_andK, x_andT, x_andF, x_or, x_orK, x_orT, x_orF, x_not, x_notK, x_notL, x_tru, x_truK, x_truL, x_band, x_bandT, x_bandF, x_bor, x_borT, x_borF, x_bnot, x_bnotK, x_dif, x_difT, x_difF, x_anil, x_acons, x_aK, x_aL, x_tup, x_tupK, x_lst, x_lstK, x_cl, x_clK, x_fn, x_fnK, x_isi, x_isiK, x_isiL, x_neg, x_negK, x_revL, x_kget, x_kgetK, x_sl, x_slK, x_slL, x_pnone, x_psome, x_psK, x_mt, x_mtK, x_mtL, x_itA, x_itAK, x_itL, x_itSeq, x_seqK, x_itStr, x_istrK, x_comp, x_compK, x_compL, x_wipe1, x_wipe2, x_seq, x_sqN, x_sqR, x_sqB, x_sqC, x_next, x_ret, x_retK, x_retN, x_asg, x_asgB, x_asgK, x_drop, x_dropK, x_if, x_ifT, x_ifF, x_for, x_forK, x_tgt, x_tgtK, x_tgtL, x_tname, x_par, x_parK, x_dput, x_dputK, x_dputK1, x_dputK2, x_dputL, x_def, x_defR, x_defN, y_add, y_sub, y_mul, y_mulX, y_mod, y_fdiv, y_lt, y_le, y_gt, y_ge, y_eqI, y_eqS, y_neI, y_neS, y_eqYI, y_eqYS, y_neYI, y_neYS, y_ixT, y_ixL, y_trB, y_k0, y_k1, y_k2, y_k3, y_k4, y_k5, y_k6, y_lenT, y_lenL, y_lenS, startE, List.map_cons, List.map_nil, List.length_cons, List.length_nil, List.replicate, List.cons_append, List.nil_append, List.append_nil, Nat.sub_self, Nat.reduceSub, Nat.reduceAdd, Nat.reduceLeDiff, Nat.reduceEqDiff, Nat.zero_add, Nat.zero_le, Nat.sub_zero, List.set_cons_zero, List.set_cons_succ, List.getElem?_cons_zero, List.getElem?_cons_succ, Bool.not_true, Bool.not_false, decide_true, decide_false, y1, hu, p1, p2, p3, y2, hv, y3, ya, pw18, pw60, decide_eq_false h, ne_eq, not_false_eq_true]
      rfl
  have h0 : decide (0 ≤ k) = true := decide_eq_true hk.1
  by_cases h : k < (ns.length : Int)
  · obtain ⟨c, _, ec⟩ := atI_mem hk.1 h
    obtain ⟨a, b, h1, h2, h3, e⟩ := main c
    refine ⟨a, b, ?_, h1, h2, h3⟩
    have h' : decide (k < ((ns.map D.int).length : Int)) = true := by rw [List.length_map]; exact decide_eq_true h
    have ex : ixD S (.fls (ns.map .int)) (.int k) = some (.val (.int c)) := by rw [y_ixF, atI_map, ec]; rfl
    have lx := y_lenF S (ns.map .int)
    have e := e none
    generalize ns.map D.int = ds at ex lx h' e ⊢
    simp only [den_law_begun, x_def, startE, List.map_cons, List.map_nil, List.length_cons, List.length_nil, List.replicate, Nat.reduceSub, Nat.reduceAdd, List.cons_append, List.nil_append]
    rw [x_seq]
    have s : sAsg 2 (dIf (tst (dChain leD ltD (dC (.int 0)) (dVar 1) (dCl lenD (aCons (dVar 0) aNil)))) (d2 ixD (dVar 0) (dVar 1)) (dC (.int 5))) [some (.fls ds), some (.int k), none, none] S =
        some (.nx [some (.fls ds), some (.int k), some (.int c), none] S) := by
      simp only [x_bnd, x_bnS, x_c, x_var, x_varK, x_stl, x_stlV, x_stlL, x_stlE, x_stlD, x_bxd, x_bxV, x_bxK, x_okv, x_okm, x_d2, x_d2K, x_d2L, x_tst, x_tstK, x_ch, x_chK, x_chL, x_chMt, x_chMf, x_chN, x_and, x_andK, x_andT, x_andF, x_or, x_orK, x_orT, x_orF, x_not, x_notK, x_notL, x_tru, x_truK, x_truL, x_band, x_bandT, x_bandF, x_bor, x_borT, x_borF, x_bnot, x_bnotK, x_dif, x_difT, x_difF, x_anil, x_acons, x_aK, x_aL, x_tup, x_tupK, x_lst, x_lstK, x_cl, x_clK, x_fn, x_fnK, x_isi, x_isiK, x_isiL, x_neg, x_negK, x_revL, x_kget, x_kgetK, x_sl, x_slK, x_slL, x_pnone, x_psome, x_psK, x_mt, x_mtK, x_mtL, x_itA, x_itAK, x_itL, x_itSeq, x_seqK, x_itStr, x_istrK, x_comp, x_compK, x_compL, x_wipe1, x_wipe2, x_seq, x_sqN, x_sqR, x_sqB, x_sqC, x_next, x_ret, x_retK, x_retN, x_asg, x_asgB, x_asgK, x_drop, x_dropK, x_if, x_ifT, x_ifF, x_for, x_forK, x_tgt, x_tgtK, x_tgtL, x_tname, x_par, x_parK, x_dput, x_dputK, x_dputK1, x_dputK2, x_dputL, x_def, x_defR, x_defN, y_add, y_sub, y_mul, y_mulX, y_mod, y_fdiv, y_lt, y_le, y_gt, y_ge, y_eqI, y_eqS, y_neI, y_neS, y_eqYI, y_eqYS, y_neYI, y_neYS, y_ixT, y_ixL, y_trB, y_k0, y_k1, y_k2, y_k3, y_k4, y_k5, y_k6, y_lenT, y_lenL, y_lenS, startE, List.map_cons, List.map_nil, List.length_cons, List.length_nil, List.replicate, List.cons_append, List.nil_append, List.append_nil, Nat.sub_self, Nat.reduceSub, Nat.reduceAdd, Nat.reduceLeDiff, Nat.reduceEqDiff, Nat.zero_add, Nat.zero_le, Nat.sub_zero, List.set_cons_zero, List.set_cons_succ, List.getElem?_cons_zero, List.getElem?_cons_succ, Bool.not_true, Bool.not_false, decide_true, decide_false, h0, lx, h', ex]
    rw [s, x_sqN, e, x_defR]
  · obtain ⟨a, b, h1, h2, h3, e⟩ := main 5
    refine ⟨a, b, ?_, h1, h2, h3⟩
    have h' : decide (k < ((ns.map D.int).length : Int)) = false := by rw [List.length_map]; exact decide_eq_false h
    have lx := y_lenF S (ns.map .int)
    have e := e none
    generalize ns.map D.int = ds at lx h' e ⊢
    simp only [den_law_begun, x_def, startE, List.map_cons, List.map_nil, List.length_cons, List.length_nil, List.replicate, Nat.reduceSub, Nat.reduceAdd, List.cons_append, List.nil_append]
    rw [x_seq]
    have s : sAsg 2 (dIf (tst (dChain leD ltD (dC (.int 0)) (dVar 1) (dCl lenD (aCons (dVar 0) aNil)))) (d2 ixD (dVar 0) (dVar 1)) (dC (.int 5))) [some (.fls ds), some (.int k), none, none] S =
        some (.nx [some (.fls ds), some (.int k), some (.int 5), none] S) := by
      simp only [x_bnd, x_bnS, x_c, x_var, x_varK, x_stl, x_stlV, x_stlL, x_stlE, x_stlD, x_bxd, x_bxV, x_bxK, x_okv, x_okm, x_d2, x_d2K, x_d2L, x_tst, x_tstK, x_ch, x_chK, x_chL, x_chMt, x_chMf, x_chN, x_and, x_andK, x_andT, x_andF, x_or, x_orK, x_orT, x_orF, x_not, x_notK, x_notL, x_tru, x_truK, x_truL, x_band, x_bandT, x_bandF, x_bor, x_borT, x_borF, x_bnot, x_bnotK, x_dif, x_difT, x_difF, x_anil, x_acons, x_aK, x_aL, x_tup, x_tupK, x_lst, x_lstK, x_cl, x_clK, x_fn, x_fnK, x_isi, x_isiK, x_isiL, x_neg, x_negK, x_revL, x_kget, x_kgetK, x_sl, x_slK, x_slL, x_pnone, x_psome, x_psK, x_mt, x_mtK, x_mtL, x_itA, x_itAK, x_itL, x_itSeq, x_seqK, x_itStr, x_istrK, x_comp, x_compK, x_compL, x_wipe1, x_wipe2, x_seq, x_sqN, x_sqR, x_sqB, x_sqC, x_next, x_ret, x_retK, x_retN, x_asg, x_asgB, x_asgK, x_drop, x_dropK, x_if, x_ifT, x_ifF, x_for, x_forK, x_tgt, x_tgtK, x_tgtL, x_tname, x_par, x_parK, x_dput, x_dputK, x_dputK1, x_dputK2, x_dputL, x_def, x_defR, x_defN, y_add, y_sub, y_mul, y_mulX, y_mod, y_fdiv, y_lt, y_le, y_gt, y_ge, y_eqI, y_eqS, y_neI, y_neS, y_eqYI, y_eqYS, y_neYI, y_neYS, y_ixT, y_ixL, y_trB, y_k0, y_k1, y_k2, y_k3, y_k4, y_k5, y_k6, y_lenT, y_lenL, y_lenS, startE, List.map_cons, List.map_nil, List.length_cons, List.length_nil, List.replicate, List.cons_append, List.nil_append, List.append_nil, Nat.sub_self, Nat.reduceSub, Nat.reduceAdd, Nat.reduceLeDiff, Nat.reduceEqDiff, Nat.zero_add, Nat.zero_le, Nat.sub_zero, List.set_cons_zero, List.set_cons_succ, List.getElem?_cons_zero, List.getElem?_cons_succ, Bool.not_true, Bool.not_false, decide_true, decide_false, h0, lx, h']
    rw [s, x_sqN, e, x_defR]
end W10
namespace W10
open Sf L2 PySem PySem.Spec PyProof.Rows
/-! expressions -/
inductive Wd where
  | plus | less | times | same | under
def Wd.t : Wd → Str
  | .plus => "plus"
  | .less => "less"
  | .times => "times"
  | .same => "same"
  | .under => "under"
def Wd.f : Wd → Int → Int → Int
  | .plus, a, b => a + b
  | .less, a, b => a - b
  | .times, a, b => a * b
  | .same, a, b => if decide (a = b) = true then 1 else 0
  | .under, a, b => if decide (a < b) = true then 1 else 0
inductive Ex where
  | num (i : Int)
  | inn (a b : Int)
  | rest (e : Ex) (m : Int)
  | iff (c a b : Ex)
  | two (w : Wd) (a b : Ex)
def Ex.d : Ex → D
  | .num i => .tup [.str "number", .int i]
  | .inn a b => .tup [.str "in", .int a, .int b]
  | .rest e m => .tup [.str "rest", e.d, .int m]
  | .iff c a b => .tup [.str "if", c.d, a.d, b.d]
  | .two w a b => .tup [.str w.t, a.d, b.d]
def Ex.deep : Ex → Nat
  | .num _ => 1
  | .inn _ _ => 1
  | .rest e _ => e.deep + 1
  | .iff c a b => max c.deep (max a.deep b.deep) + 1
  | .two _ a b => max a.deep b.deep + 1
def okE (cs : List Int) : Ex → Prop
  | .num i => 0 ≤ i ∧ i ≤ 99
  | .inn a b => 0 ≤ a ∧ a < (cs.length : Int) ∧ ∃ m, cs[a.toNat]? = some m ∧ 0 ≤ b ∧ b < m
  | .rest e m => okE cs e ∧ 2 ≤ m ∧ m ≤ 99
  | .iff c a b => okE cs c ∧ okE cs a ∧ okE cs b
  | .two _ a b => okE cs a ∧ okE cs b
def val (fs : List (List Int)) : Ex → Int
  | .num i => i
  | .inn a b => (((fs[a.toNat]?).getD [])[b.toNat]?).getD 0
  | .rest e m => (val fs e).fmod m
  | .iff c a b => if val fs c = 0 then val fs b else val fs a
  | .two w a b => w.f (val fs a) (val fs b)
def fD (fs : List (List Int)) : D := .tup (fs.map fun f => .tup (f.map .int))
structure okF (cs : List Int) (fs : List (List Int)) : Prop where
  len : fs.length = cs.length
  row : ∀ (i : Nat) (m : Int), cs[i]? = some m → ∃ f : List Int, fs[i]? = some f ∧ (f.length : Int) = m
  bits : ∀ f ∈ fs, ∀ x ∈ f, Bits 64 x
theorem at_field {cs : List Int} {fs : List (List Int)} (hf : okF cs fs) {a b : Int} (h : okE cs (.inn a b)) : ∃ f, atI fs a = some f ∧ atI f b = some (val fs (.inn a b)) ∧ Bits 64 (val fs (.inn a b)) := by
  obtain ⟨h1, h2, m, h3, h4, h5⟩ := h
  obtain ⟨f, e1, e2⟩ := hf.row _ _ h3
  have hb : b.toNat < f.length := by omega
  have e3 : f[b.toNat]? = some f[b.toNat] := List.getElem?_eq_getElem hb
  have v : val fs (.inn a b) = f[b.toNat] := by
    simp only [val, e1, e3, Option.getD_some]
  refine ⟨f, ?_, ?_, ?_⟩
  · rw [atI_some h1 (by rw [hf.len]; exact h2), e1]
  · rw [atI_some h4 (by omega), e3, v]
  · rw [v]
    exact hf.bits f (List.mem_of_getElem? e1) _ (List.getElem_mem hb)
theorem ix_fD (S : Sto) {fs : List (List Int)} {a : Int} {f : List Int} (h : atI fs a = some f) : ixD S (fD fs) (.int a) = some (.val (.tup (f.map .int))) := by
  unfold fD
  rw [y_ixT, atI_map, h]
  rfl
theorem ix_row (S : Sto) {f : List Int} {b x : Int} (h : atI f b = some x) : ixD S (.tup (f.map .int)) (.int b) = some (.val (.int x)) := by
  rw [y_ixT, atI_map, h]
  rfl
theorem deep_pos : ∀ e : Ex, 1 ≤ e.deep
  | .num _ => Nat.le_refl _
  | .inn _ _ => Nat.le_refl _
  | .rest e _ => by simp only [Ex.deep]; omega
  | .iff c a b => by simp only [Ex.deep]; omega
  | .two _ a b => by simp only [Ex.deep]; omega
theorem bits01 (k : Bool) : Bits 1 (if k = true then 1 else 0) := by
  cases k <;> (unfold Bits; decide)
theorem e_bits {cs : List Int} {fs : List (List Int)} (hf : okF cs fs) : ∀ (e : Ex) (d : Nat), okE cs e → e.deep ≤ d → Bits (64 * 2 ^ d) (val fs e)
  | .num i, d, h, hd => by
    have : 1 ≤ 2 ^ d := Nat.one_le_two_pow
    refine Bits.mono (k := 7) ?_ (by omega)
    have h : 0 ≤ i ∧ i ≤ 99 := h
    unfold Bits
    simp only [val]
    omega
  | .inn a b, d, h, hd => by
    have : 1 ≤ 2 ^ d := Nat.one_le_two_pow
    obtain ⟨f, _, _, hb⟩ := at_field hf h
    exact hb.mono (by omega)
  | .rest e m, d, h, hd => by
    have : 1 ≤ 2 ^ d := Nat.one_le_two_pow
    obtain ⟨h1, h2, h3⟩ := h
    refine Bits.mono (k := 7) ?_ (by omega)
    have q1 := Int.fmod_nonneg_of_pos (val fs e) (show 0 < m by omega)
    have q2 := Int.fmod_lt_of_pos (val fs e) (show 0 < m by omega)
    unfold Bits
    simp only [val]
    omega
  | .iff c a b, d, h, hd => by
    obtain ⟨h1, h2, h3⟩ := h
    simp only [Ex.deep] at hd
    simp only [val]
    split
    · exact e_bits hf b d h3 (by omega)
    · exact e_bits hf a d h2 (by omega)
  | .two w a b, d, h, hd => by
    obtain ⟨h1, h2⟩ := h
    simp only [Ex.deep] at hd
    obtain ⟨d, rfl⟩ : ∃ d', d = d' + 1 := ⟨d - 1, by omega⟩
    have ba := e_bits hf a d h1 (by omega)
    have bb := e_bits hf b d h2 (by omega)
    have : 1 ≤ 2 ^ d := Nat.one_le_two_pow
    have e2 : 2 ^ (d + 1) = 2 * 2 ^ d := by rw [Nat.pow_succ]; omega
    simp only [val]
    cases w with
    | plus => exact (ba.add bb).mono (by omega)
    | less => exact (ba.sub bb).mono (by omega)
    | times => exact (ba.mul bb).mono (by omega)
    | same => exact (bits01 _).mono (by omega)
    | under => exact (bits01 _).mono (by omega)
theorem y_intB (S : Sto) (k : Bool) : Sf.intD S [.bl k] = some (.val (.int (if k = true then 1 else 0))) := rfl
theorem e_two (S : Sto) (w : Wd) {a b : Int} {k l : Nat} (ha : Bits k a) (hb : Bits l b) (hl : k + l < 1000000) : den_two_together [.str w.t, .int a, .int b] S = some (.ok (.val (.int (w.f a b))) S) := by
  have y := y_mulW S ha hb hl
  cases w <;> simp only [den_two_together, x_bnd, x_bnS, x_c, x_var, x_varK, x_stl, x_stlV, x_stlL, x_stlE, x_stlD, x_bxd, x_bxV, x_bxK, x_okv, x_okm, x_d2, x_d2K, x_d2L, x_tst, x_tstK, x_ch, x_chK, x_chL, x_chMt, x_chMf, x_chN, x_and, x_andK, x_andT, x_andF, x_or, x_orK, x_orT, x_orF, x_not, x_notK, x_notL, x_tru, x_truK, x_truL, x_band, x_bandT, x_bandF, x_bor, x_borT, x_borF, x_bnot, x_bnotK, x_dif, x_difT, x_difF, x_anil, x_acons, x_aK, x_aL, x_tup, x_tupK, x_lst, x_lstK, x_cl, x_clK, x_fn, x_fnK, x_isi, x_isiK, x_isiL, x_neg, x_negK, x_revL, x_kget, x_kgetK, x_sl, x_slK, x_slL, x_pnone, x_psome, x_psK, x_mt, x_mtK, x_mtL, x_itA, x_itAK, x_itL, x_itSeq, x_seqK, x_itStr, x_istrK, x_comp, x_compK, x_compL, x_wipe1, x_wipe2, x_seq, x_sqN, x_sqR, x_sqB, x_sqC, x_next, x_ret, x_retK, x_retN, x_asg, x_asgB, x_asgK, x_drop, x_dropK, x_if, x_ifT, x_ifF, x_for, x_forK, x_tgt, x_tgtK, x_tgtL, x_tname, x_par, x_parK, x_dput, x_dputK, x_dputK1, x_dputK2, x_dputL, x_def, x_defR, x_defN, y_add, y_sub, y_mul, y_mulX, y_mod, y_fdiv, y_lt, y_le, y_gt, y_ge, y_eqI, y_eqS, y_neI, y_neS, y_eqYI, y_eqYS, y_neYI, y_neYS, y_ixT, y_ixL, y_trB, y_k0, y_k1, y_k2, y_k3, y_k4, y_k5, y_k6, y_lenT, y_lenL, y_lenS, startE, List.map_cons, List.map_nil, List.length_cons, List.length_nil, List.replicate, List.cons_append, List.nil_append, List.append_nil, Nat.sub_self, Nat.reduceSub, Nat.reduceAdd, Nat.reduceLeDiff, Nat.reduceEqDiff, Nat.zero_add, Nat.zero_le, Nat.sub_zero, List.set_cons_zero, List.set_cons_succ, List.getElem?_cons_zero, List.getElem?_cons_succ, Bool.not_true, Bool.not_false, decide_true, decide_false, Wd.t, Wd.f, n_number_in, n_number_rest, n_number_if, n_number_plus, n_number_less, n_number_times, n_number_same, n_number_under, n_number_give, n_number_refuse, n_number_when, n_in_number, n_in_rest, n_in_if, n_in_plus, n_in_less, n_in_times, n_in_same, n_in_under, n_in_give, n_in_refuse, n_in_when, n_rest_number, n_rest_in, n_rest_if, n_rest_plus, n_rest_less, n_rest_times, n_rest_same, n_rest_under, n_rest_give, n_rest_refuse, n_rest_when, n_if_number, n_if_in, n_if_rest, n_if_plus, n_if_less, n_if_times, n_if_same, n_if_under, n_if_give, n_if_refuse, n_if_when, n_plus_number, n_plus_in, n_plus_rest, n_plus_if, n_plus_less, n_plus_times, n_plus_same, n_plus_under, n_plus_give, n_plus_refuse, n_plus_when, n_less_number, n_less_in, n_less_rest, n_less_if, n_less_plus, n_less_times, n_less_same, n_less_under, n_less_give, n_less_refuse, n_less_when, n_times_number, n_times_in, n_times_rest, n_times_if, n_times_plus, n_times_less, n_times_same, n_times_under, n_times_give, n_times_refuse, n_times_when, n_same_number, n_same_in, n_same_rest, n_same_if, n_same_plus, n_same_less, n_same_times, n_same_under, n_same_give, n_same_refuse, n_same_when, n_under_number, n_under_in, n_under_rest, n_under_if, n_under_plus, n_under_less, n_under_times, n_under_same, n_under_give, n_under_refuse, n_under_when, n_give_number, n_give_in, n_give_rest, n_give_if, n_give_plus, n_give_less, n_give_times, n_give_same, n_give_under, n_give_refuse, n_give_when, n_refuse_number, n_refuse_in, n_refuse_rest, n_refuse_if, n_refuse_plus, n_refuse_less, n_refuse_times, n_refuse_same, n_refuse_under, n_refuse_give, n_refuse_when, n_when_number, n_when_in, n_when_rest, n_when_if, n_when_plus, n_when_less, n_when_times, n_when_same, n_when_under, n_when_give, n_when_refuse, eq_self, y, y_intB]
theorem wne (w : Wd) : decide (w.t = "number") = false ∧ decide (w.t = "in") = false ∧ decide (w.t = "rest") = false ∧ decide (w.t = "if") = false := by
  cases w <;> exact ⟨by decide +kernel, by decide +kernel, by decide +kernel, by decide +kernel⟩
theorem pow12 {d : Nat} (h : d ≤ 12) : 64 * 2 ^ d ≤ 262144 := by
  have : 2 ^ d ≤ 2 ^ 12 := Nat.pow_le_pow_right (by decide) h
  have e : 2 ^ 12 = 4096 := by decide
  omega
theorem e_val {cs : List Int} {fs : List (List Int)} (hf : okF cs fs) : ∀ (e : Ex) (k : Nat) (S : Sto), okE cs e → e.deep ≤ k → e.deep ≤ 12 → den_value_of k [e.d, fD fs] S = some (.ok (.val (.int (val fs e))) S)
  | .num i, k, S, h, hk, _ => by
    obtain ⟨k, rfl⟩ : ∃ k', k = k' + 1 := ⟨k - 1, by simp only [Ex.deep] at hk; omega⟩
    simp only [den_value_of, Ex.d, x_bnd, x_bnS, x_c, x_var, x_varK, x_stl, x_stlV, x_stlL, x_stlE, x_stlD, x_bxd, x_bxV, x_bxK, x_okv, x_okm, x_d2, x_d2K, x_d2L, x_tst, x_tstK, x_ch, x_chK, x_chL, x_chMt, x_chMf, x_chN, x_and, x_andK, x_andT, x_andF, x_or, x_orK, x_orT, x_orF, x_not, x_notK, x_notL, x_tru, x_truK, x_truL, x_band, x_bandT, x_bandF, x_bor, x_borT, x_borF, x_bnot, x_bnotK, x_dif, x_difT, x_difF, x_anil, x_acons, x_aK, x_aL, x_tup, x_tupK, x_lst, x_lstK, x_cl, x_clK, x_fn, x_fnK, x_isi, x_isiK, x_isiL, x_neg, x_negK, x_revL, x_kget, x_kgetK, x_sl, x_slK, x_slL, x_pnone, x_psome, x_psK, x_mt, x_mtK, x_mtL, x_itA, x_itAK, x_itL, x_itSeq, x_seqK, x_itStr, x_istrK, x_comp, x_compK, x_compL, x_wipe1, x_wipe2, x_seq, x_sqN, x_sqR, x_sqB, x_sqC, x_next, x_ret, x_retK, x_retN, x_asg, x_asgB, x_asgK, x_drop, x_dropK, x_if, x_ifT, x_ifF, x_for, x_forK, x_tgt, x_tgtK, x_tgtL, x_tname, x_par, x_parK, x_dput, x_dputK, x_dputK1, x_dputK2, x_dputL, x_def, x_defR, x_defN, y_add, y_sub, y_mul, y_mulX, y_mod, y_fdiv, y_lt, y_le, y_gt, y_ge, y_eqI, y_eqS, y_neI, y_neS, y_eqYI, y_eqYS, y_neYI, y_neYS, y_ixT, y_ixL, y_trB, y_k0, y_k1, y_k2, y_k3, y_k4, y_k5, y_k6, y_lenT, y_lenL, y_lenS, startE, List.map_cons, List.map_nil, List.length_cons, List.length_nil, List.replicate, List.cons_append, List.nil_append, List.append_nil, Nat.sub_self, Nat.reduceSub, Nat.reduceAdd, Nat.reduceLeDiff, Nat.reduceEqDiff, Nat.zero_add, Nat.zero_le, Nat.sub_zero, List.set_cons_zero, List.set_cons_succ, List.getElem?_cons_zero, List.getElem?_cons_succ, Bool.not_true, Bool.not_false, decide_true, decide_false, at0, at1, Option.map_some, eq_self, val]
  | .inn a b, k, S, h, hk, _ => by
    obtain ⟨k, rfl⟩ : ∃ k', k = k' + 1 := ⟨k - 1, by simp only [Ex.deep] at hk; omega⟩
    obtain ⟨f, e1, e2, _⟩ := at_field hf h
    have i1 := ix_fD S e1
    have i2 : atI (f.map D.int) b = some (.int (val fs (.inn a b))) := by rw [atI_map, e2]; rfl
    generalize val fs (.inn a b) = v at i2 ⊢
    generalize fD fs = F at i1 ⊢
    generalize f.map D.int = R at i1 i2 ⊢
    simp only [den_value_of, Ex.d, x_bnd, x_bnS, x_c, x_var, x_varK, x_stl, x_stlV, x_stlL, x_stlE, x_stlD, x_bxd, x_bxV, x_bxK, x_okv, x_okm, x_d2, x_d2K, x_d2L, x_tst, x_tstK, x_ch, x_chK, x_chL, x_chMt, x_chMf, x_chN, x_and, x_andK, x_andT, x_andF, x_or, x_orK, x_orT, x_orF, x_not, x_notK, x_notL, x_tru, x_truK, x_truL, x_band, x_bandT, x_bandF, x_bor, x_borT, x_borF, x_bnot, x_bnotK, x_dif, x_difT, x_difF, x_anil, x_acons, x_aK, x_aL, x_tup, x_tupK, x_lst, x_lstK, x_cl, x_clK, x_fn, x_fnK, x_isi, x_isiK, x_isiL, x_neg, x_negK, x_revL, x_kget, x_kgetK, x_sl, x_slK, x_slL, x_pnone, x_psome, x_psK, x_mt, x_mtK, x_mtL, x_itA, x_itAK, x_itL, x_itSeq, x_seqK, x_itStr, x_istrK, x_comp, x_compK, x_compL, x_wipe1, x_wipe2, x_seq, x_sqN, x_sqR, x_sqB, x_sqC, x_next, x_ret, x_retK, x_retN, x_asg, x_asgB, x_asgK, x_drop, x_dropK, x_if, x_ifT, x_ifF, x_for, x_forK, x_tgt, x_tgtK, x_tgtL, x_tname, x_par, x_parK, x_dput, x_dputK, x_dputK1, x_dputK2, x_dputL, x_def, x_defR, x_defN, y_add, y_sub, y_mul, y_mulX, y_mod, y_fdiv, y_lt, y_le, y_gt, y_ge, y_eqI, y_eqS, y_neI, y_neS, y_eqYI, y_eqYS, y_neYI, y_neYS, y_ixT, y_ixL, y_trB, y_k0, y_k1, y_k2, y_k3, y_k4, y_k5, y_k6, y_lenT, y_lenL, y_lenS, startE, List.map_cons, List.map_nil, List.length_cons, List.length_nil, List.replicate, List.cons_append, List.nil_append, List.append_nil, Nat.sub_self, Nat.reduceSub, Nat.reduceAdd, Nat.reduceLeDiff, Nat.reduceEqDiff, Nat.zero_add, Nat.zero_le, Nat.sub_zero, List.set_cons_zero, List.set_cons_succ, List.getElem?_cons_zero, List.getElem?_cons_succ, Bool.not_true, Bool.not_false, decide_true, decide_false, at0, at1, at2, Option.map_some, eq_self, n_number_in, n_number_rest, n_number_if, n_number_plus, n_number_less, n_number_times, n_number_same, n_number_under, n_number_give, n_number_refuse, n_number_when, n_in_number, n_in_rest, n_in_if, n_in_plus, n_in_less, n_in_times, n_in_same, n_in_under, n_in_give, n_in_refuse, n_in_when, n_rest_number, n_rest_in, n_rest_if, n_rest_plus, n_rest_less, n_rest_times, n_rest_same, n_rest_under, n_rest_give, n_rest_refuse, n_rest_when, n_if_number, n_if_in, n_if_rest, n_if_plus, n_if_less, n_if_times, n_if_same, n_if_under, n_if_give, n_if_refuse, n_if_when, n_plus_number, n_plus_in, n_plus_rest, n_plus_if, n_plus_less, n_plus_times, n_plus_same, n_plus_under, n_plus_give, n_plus_refuse, n_plus_when, n_less_number, n_less_in, n_less_rest, n_less_if, n_less_plus, n_less_times, n_less_same, n_less_under, n_less_give, n_less_refuse, n_less_when, n_times_number, n_times_in, n_times_rest, n_times_if, n_times_plus, n_times_less, n_times_same, n_times_under, n_times_give, n_times_refuse, n_times_when, n_same_number, n_same_in, n_same_rest, n_same_if, n_same_plus, n_same_less, n_same_times, n_same_under, n_same_give, n_same_refuse, n_same_when, n_under_number, n_under_in, n_under_rest, n_under_if, n_under_plus, n_under_less, n_under_times, n_under_same, n_under_give, n_under_refuse, n_under_when, n_give_number, n_give_in, n_give_rest, n_give_if, n_give_plus, n_give_less, n_give_times, n_give_same, n_give_under, n_give_refuse, n_give_when, n_refuse_number, n_refuse_in, n_refuse_rest, n_refuse_if, n_refuse_plus, n_refuse_less, n_refuse_times, n_refuse_same, n_refuse_under, n_refuse_give, n_refuse_when, n_when_number, n_when_in, n_when_rest, n_when_if, n_when_plus, n_when_less, n_when_times, n_when_same, n_when_under, n_when_give, n_when_refuse, i1, i2]
  | .rest e m, k, S, h, hk, h12 => by
    simp only [Ex.deep] at hk h12
    obtain ⟨k, rfl⟩ : ∃ k', k = k' + 1 := ⟨k - 1, by omega⟩
    have ih := e_val hf e k S h.1 (by omega) (by omega)
    have hm : m ≠ 0 := by have := h.2; omega
    simp only [den_value_of, Ex.d, x_bnd, x_bnS, x_c, x_var, x_varK, x_stl, x_stlV, x_stlL, x_stlE, x_stlD, x_bxd, x_bxV, x_bxK, x_okv, x_okm, x_d2, x_d2K, x_d2L, x_tst, x_tstK, x_ch, x_chK, x_chL, x_chMt, x_chMf, x_chN, x_and, x_andK, x_andT, x_andF, x_or, x_orK, x_orT, x_orF, x_not, x_notK, x_notL, x_tru, x_truK, x_truL, x_band, x_bandT, x_bandF, x_bor, x_borT, x_borF, x_bnot, x_bnotK, x_dif, x_difT, x_difF, x_anil, x_acons, x_aK, x_aL, x_tup, x_tupK, x_lst, x_lstK, x_cl, x_clK, x_fn, x_fnK, x_isi, x_isiK, x_isiL, x_neg, x_negK, x_revL, x_kget, x_kgetK, x_sl, x_slK, x_slL, x_pnone, x_psome, x_psK, x_mt, x_mtK, x_mtL, x_itA, x_itAK, x_itL, x_itSeq, x_seqK, x_itStr, x_istrK, x_comp, x_compK, x_compL, x_wipe1, x_wipe2, x_seq, x_sqN, x_sqR, x_sqB, x_sqC, x_next, x_ret, x_retK, x_retN, x_asg, x_asgB, x_asgK, x_drop, x_dropK, x_if, x_ifT, x_ifF, x_for, x_forK, x_tgt, x_tgtK, x_tgtL, x_tname, x_par, x_parK, x_dput, x_dputK, x_dputK1, x_dputK2, x_dputL, x_def, x_defR, x_defN, y_add, y_sub, y_mul, y_mulX, y_mod, y_fdiv, y_lt, y_le, y_gt, y_ge, y_eqI, y_eqS, y_neI, y_neS, y_eqYI, y_eqYS, y_neYI, y_neYS, y_ixT, y_ixL, y_trB, y_k0, y_k1, y_k2, y_k3, y_k4, y_k5, y_k6, y_lenT, y_lenL, y_lenS, startE, List.map_cons, List.map_nil, List.length_cons, List.length_nil, List.replicate, List.cons_append, List.nil_append, List.append_nil, Nat.sub_self, Nat.reduceSub, Nat.reduceAdd, Nat.reduceLeDiff, Nat.reduceEqDiff, Nat.zero_add, Nat.zero_le, Nat.sub_zero, List.set_cons_zero, List.set_cons_succ, List.getElem?_cons_zero, List.getElem?_cons_succ, Bool.not_true, Bool.not_false, decide_true, decide_false, at0, at1, at2, Option.map_some, eq_self, n_number_in, n_number_rest, n_number_if, n_number_plus, n_number_less, n_number_times, n_number_same, n_number_under, n_number_give, n_number_refuse, n_number_when, n_in_number, n_in_rest, n_in_if, n_in_plus, n_in_less, n_in_times, n_in_same, n_in_under, n_in_give, n_in_refuse, n_in_when, n_rest_number, n_rest_in, n_rest_if, n_rest_plus, n_rest_less, n_rest_times, n_rest_same, n_rest_under, n_rest_give, n_rest_refuse, n_rest_when, n_if_number, n_if_in, n_if_rest, n_if_plus, n_if_less, n_if_times, n_if_same, n_if_under, n_if_give, n_if_refuse, n_if_when, n_plus_number, n_plus_in, n_plus_rest, n_plus_if, n_plus_less, n_plus_times, n_plus_same, n_plus_under, n_plus_give, n_plus_refuse, n_plus_when, n_less_number, n_less_in, n_less_rest, n_less_if, n_less_plus, n_less_times, n_less_same, n_less_under, n_less_give, n_less_refuse, n_less_when, n_times_number, n_times_in, n_times_rest, n_times_if, n_times_plus, n_times_less, n_times_same, n_times_under, n_times_give, n_times_refuse, n_times_when, n_same_number, n_same_in, n_same_rest, n_same_if, n_same_plus, n_same_less, n_same_times, n_same_under, n_same_give, n_same_refuse, n_same_when, n_under_number, n_under_in, n_under_rest, n_under_if, n_under_plus, n_under_less, n_under_times, n_under_same, n_under_give, n_under_refuse, n_under_when, n_give_number, n_give_in, n_give_rest, n_give_if, n_give_plus, n_give_less, n_give_times, n_give_same, n_give_under, n_give_refuse, n_give_when, n_refuse_number, n_refuse_in, n_refuse_rest, n_refuse_if, n_refuse_plus, n_refuse_less, n_refuse_times, n_refuse_same, n_refuse_under, n_refuse_give, n_refuse_when, n_when_number, n_when_in, n_when_rest, n_when_if, n_when_plus, n_when_less, n_when_times, n_when_same, n_when_under, n_when_give, n_when_refuse, ih, ne_eq, hm, not_false_eq_true, val]
  | .iff c a b, k, S, h, hk, h12 => by
    simp only [Ex.deep] at hk h12
    obtain ⟨k, rfl⟩ : ∃ k', k = k' + 1 := ⟨k - 1, by omega⟩
    have i1 := e_val hf c k S h.1 (by omega) (by omega)
    have i2 := e_val hf a k S h.2.1 (by omega) (by omega)
    have i3 := e_val hf b k S h.2.2 (by omega) (by omega)
    by_cases hc : val fs c = 0
    · simp only [den_value_of, Ex.d, x_bnd, x_bnS, x_c, x_var, x_varK, x_stl, x_stlV, x_stlL, x_stlE, x_stlD, x_bxd, x_bxV, x_bxK, x_okv, x_okm, x_d2, x_d2K, x_d2L, x_tst, x_tstK, x_ch, x_chK, x_chL, x_chMt, x_chMf, x_chN, x_and, x_andK, x_andT, x_andF, x_or, x_orK, x_orT, x_orF, x_not, x_notK, x_notL, x_tru, x_truK, x_truL, x_band, x_bandT, x_bandF, x_bor, x_borT, x_borF, x_bnot, x_bnotK, x_dif, x_difT, x_difF, x_anil, x_acons, x_aK, x_aL, x_tup, x_tupK, x_lst, x_lstK, x_cl, x_clK, x_fn, x_fnK, x_isi, x_isiK, x_isiL, x_neg, x_negK, x_revL, x_kget, x_kgetK, x_sl, x_slK, x_slL, x_pnone, x_psome, x_psK, x_mt, x_mtK, x_mtL, x_itA, x_itAK, x_itL, x_itSeq, x_seqK, x_itStr, x_istrK, x_comp, x_compK, x_compL, x_wipe1, x_wipe2, x_seq, x_sqN, x_sqR, x_sqB, x_sqC, x_next, x_ret, x_retK, x_retN, x_asg, x_asgB, x_asgK, x_drop, x_dropK, x_if, x_ifT, x_ifF, x_for, x_forK, x_tgt, x_tgtK, x_tgtL, x_tname, x_par, x_parK, x_dput, x_dputK, x_dputK1, x_dputK2, x_dputL, x_def, x_defR, x_defN, y_add, y_sub, y_mul, y_mulX, y_mod, y_fdiv, y_lt, y_le, y_gt, y_ge, y_eqI, y_eqS, y_neI, y_neS, y_eqYI, y_eqYS, y_neYI, y_neYS, y_ixT, y_ixL, y_trB, y_k0, y_k1, y_k2, y_k3, y_k4, y_k5, y_k6, y_lenT, y_lenL, y_lenS, startE, List.map_cons, List.map_nil, List.length_cons, List.length_nil, List.replicate, List.cons_append, List.nil_append, List.append_nil, Nat.sub_self, Nat.reduceSub, Nat.reduceAdd, Nat.reduceLeDiff, Nat.reduceEqDiff, Nat.zero_add, Nat.zero_le, Nat.sub_zero, List.set_cons_zero, List.set_cons_succ, List.getElem?_cons_zero, List.getElem?_cons_succ, Bool.not_true, Bool.not_false, decide_true, decide_false, at0, at1, at2, at3, Option.map_some, eq_self, n_number_in, n_number_rest, n_number_if, n_number_plus, n_number_less, n_number_times, n_number_same, n_number_under, n_number_give, n_number_refuse, n_number_when, n_in_number, n_in_rest, n_in_if, n_in_plus, n_in_less, n_in_times, n_in_same, n_in_under, n_in_give, n_in_refuse, n_in_when, n_rest_number, n_rest_in, n_rest_if, n_rest_plus, n_rest_less, n_rest_times, n_rest_same, n_rest_under, n_rest_give, n_rest_refuse, n_rest_when, n_if_number, n_if_in, n_if_rest, n_if_plus, n_if_less, n_if_times, n_if_same, n_if_under, n_if_give, n_if_refuse, n_if_when, n_plus_number, n_plus_in, n_plus_rest, n_plus_if, n_plus_less, n_plus_times, n_plus_same, n_plus_under, n_plus_give, n_plus_refuse, n_plus_when, n_less_number, n_less_in, n_less_rest, n_less_if, n_less_plus, n_less_times, n_less_same, n_less_under, n_less_give, n_less_refuse, n_less_when, n_times_number, n_times_in, n_times_rest, n_times_if, n_times_plus, n_times_less, n_times_same, n_times_under, n_times_give, n_times_refuse, n_times_when, n_same_number, n_same_in, n_same_rest, n_same_if, n_same_plus, n_same_less, n_same_times, n_same_under, n_same_give, n_same_refuse, n_same_when, n_under_number, n_under_in, n_under_rest, n_under_if, n_under_plus, n_under_less, n_under_times, n_under_same, n_under_give, n_under_refuse, n_under_when, n_give_number, n_give_in, n_give_rest, n_give_if, n_give_plus, n_give_less, n_give_times, n_give_same, n_give_under, n_give_refuse, n_give_when, n_refuse_number, n_refuse_in, n_refuse_rest, n_refuse_if, n_refuse_plus, n_refuse_less, n_refuse_times, n_refuse_same, n_refuse_under, n_refuse_give, n_refuse_when, n_when_number, n_when_in, n_when_rest, n_when_if, n_when_plus, n_when_less, n_when_times, n_when_same, n_when_under, n_when_give, n_when_refuse, i1, decide_eq_true hc, i3, val, if_pos hc]
    · simp only [den_value_of, Ex.d, x_bnd, x_bnS, x_c, x_var, x_varK, x_stl, x_stlV, x_stlL, x_stlE, x_stlD, x_bxd, x_bxV, x_bxK, x_okv, x_okm, x_d2, x_d2K, x_d2L, x_tst, x_tstK, x_ch, x_chK, x_chL, x_chMt, x_chMf, x_chN, x_and, x_andK, x_andT, x_andF, x_or, x_orK, x_orT, x_orF, x_not, x_notK, x_notL, x_tru, x_truK, x_truL, x_band, x_bandT, x_bandF, x_bor, x_borT, x_borF, x_bnot, x_bnotK, x_dif, x_difT, x_difF, x_anil, x_acons, x_aK, x_aL, x_tup, x_tupK, x_lst, x_lstK, x_cl, x_clK, x_fn, x_fnK, x_isi, x_isiK, x_isiL, x_neg, x_negK, x_revL, x_kget, x_kgetK, x_sl, x_slK, x_slL, x_pnone, x_psome, x_psK, x_mt, x_mtK, x_mtL, x_itA, x_itAK, x_itL, x_itSeq, x_seqK, x_itStr, x_istrK, x_comp, x_compK, x_compL, x_wipe1, x_wipe2, x_seq, x_sqN, x_sqR, x_sqB, x_sqC, x_next, x_ret, x_retK, x_retN, x_asg, x_asgB, x_asgK, x_drop, x_dropK, x_if, x_ifT, x_ifF, x_for, x_forK, x_tgt, x_tgtK, x_tgtL, x_tname, x_par, x_parK, x_dput, x_dputK, x_dputK1, x_dputK2, x_dputL, x_def, x_defR, x_defN, y_add, y_sub, y_mul, y_mulX, y_mod, y_fdiv, y_lt, y_le, y_gt, y_ge, y_eqI, y_eqS, y_neI, y_neS, y_eqYI, y_eqYS, y_neYI, y_neYS, y_ixT, y_ixL, y_trB, y_k0, y_k1, y_k2, y_k3, y_k4, y_k5, y_k6, y_lenT, y_lenL, y_lenS, startE, List.map_cons, List.map_nil, List.length_cons, List.length_nil, List.replicate, List.cons_append, List.nil_append, List.append_nil, Nat.sub_self, Nat.reduceSub, Nat.reduceAdd, Nat.reduceLeDiff, Nat.reduceEqDiff, Nat.zero_add, Nat.zero_le, Nat.sub_zero, List.set_cons_zero, List.set_cons_succ, List.getElem?_cons_zero, List.getElem?_cons_succ, Bool.not_true, Bool.not_false, decide_true, decide_false, at0, at1, at2, at3, Option.map_some, eq_self, n_number_in, n_number_rest, n_number_if, n_number_plus, n_number_less, n_number_times, n_number_same, n_number_under, n_number_give, n_number_refuse, n_number_when, n_in_number, n_in_rest, n_in_if, n_in_plus, n_in_less, n_in_times, n_in_same, n_in_under, n_in_give, n_in_refuse, n_in_when, n_rest_number, n_rest_in, n_rest_if, n_rest_plus, n_rest_less, n_rest_times, n_rest_same, n_rest_under, n_rest_give, n_rest_refuse, n_rest_when, n_if_number, n_if_in, n_if_rest, n_if_plus, n_if_less, n_if_times, n_if_same, n_if_under, n_if_give, n_if_refuse, n_if_when, n_plus_number, n_plus_in, n_plus_rest, n_plus_if, n_plus_less, n_plus_times, n_plus_same, n_plus_under, n_plus_give, n_plus_refuse, n_plus_when, n_less_number, n_less_in, n_less_rest, n_less_if, n_less_plus, n_less_times, n_less_same, n_less_under, n_less_give, n_less_refuse, n_less_when, n_times_number, n_times_in, n_times_rest, n_times_if, n_times_plus, n_times_less, n_times_same, n_times_under, n_times_give, n_times_refuse, n_times_when, n_same_number, n_same_in, n_same_rest, n_same_if, n_same_plus, n_same_less, n_same_times, n_same_under, n_same_give, n_same_refuse, n_same_when, n_under_number, n_under_in, n_under_rest, n_under_if, n_under_plus, n_under_less, n_under_times, n_under_same, n_under_give, n_under_refuse, n_under_when, n_give_number, n_give_in, n_give_rest, n_give_if, n_give_plus, n_give_less, n_give_times, n_give_same, n_give_under, n_give_refuse, n_give_when, n_refuse_number, n_refuse_in, n_refuse_rest, n_refuse_if, n_refuse_plus, n_refuse_less, n_refuse_times, n_refuse_same, n_refuse_under, n_refuse_give, n_refuse_when, n_when_number, n_when_in, n_when_rest, n_when_if, n_when_plus, n_when_less, n_when_times, n_when_same, n_when_under, n_when_give, n_when_refuse, i1, decide_eq_false hc, i2, val, if_neg hc]
  | .two w a b, k, S, h, hk, h12 => by
    simp only [Ex.deep] at hk h12
    obtain ⟨k, rfl⟩ : ∃ k', k = k' + 1 := ⟨k - 1, by omega⟩
    have i1 := e_val hf a k S h.1 (by omega) (by omega)
    have i2 := e_val hf b k S h.2 (by omega) (by omega)
    have p1 := pow12 (show a.deep ≤ 12 by omega)
    have p2 := pow12 (show b.deep ≤ 12 by omega)
    have t := e_two S w (e_bits hf a a.deep h.1 (Nat.le_refl _)) (e_bits hf b b.deep h.2 (Nat.le_refl _)) (by omega)
    obtain ⟨w1, w2, w3, w4⟩ := wne w
    simp only [den_value_of, Ex.d, x_bnd, x_bnS, x_c, x_var, x_varK, x_stl, x_stlV, x_stlL, x_stlE, x_stlD, x_bxd, x_bxV, x_bxK, x_okv, x_okm, x_d2, x_d2K, x_d2L, x_tst, x_tstK, x_ch, x_chK, x_chL, x_chMt, x_chMf, x_chN, x_and, x_andK, x_andT, x_andF, x_or, x_orK, x_orT, x_orF, x_not, x_notK, x_notL, x_tru, x_truK, x_truL, x_band, x_bandT, x_bandF, x_bor, x_borT, x_borF, x_bnot, x_bnotK, x_dif, x_difT, x_difF, x_anil, x_acons, x_aK, x_aL, x_tup, x_tupK, x_lst, x_lstK, x_cl, x_clK, x_fn, x_fnK, x_isi, x_isiK, x_isiL, x_neg, x_negK, x_revL, x_kget, x_kgetK, x_sl, x_slK, x_slL, x_pnone, x_psome, x_psK, x_mt, x_mtK, x_mtL, x_itA, x_itAK, x_itL, x_itSeq, x_seqK, x_itStr, x_istrK, x_comp, x_compK, x_compL, x_wipe1, x_wipe2, x_seq, x_sqN, x_sqR, x_sqB, x_sqC, x_next, x_ret, x_retK, x_retN, x_asg, x_asgB, x_asgK, x_drop, x_dropK, x_if, x_ifT, x_ifF, x_for, x_forK, x_tgt, x_tgtK, x_tgtL, x_tname, x_par, x_parK, x_dput, x_dputK, x_dputK1, x_dputK2, x_dputL, x_def, x_defR, x_defN, y_add, y_sub, y_mul, y_mulX, y_mod, y_fdiv, y_lt, y_le, y_gt, y_ge, y_eqI, y_eqS, y_neI, y_neS, y_eqYI, y_eqYS, y_neYI, y_neYS, y_ixT, y_ixL, y_trB, y_k0, y_k1, y_k2, y_k3, y_k4, y_k5, y_k6, y_lenT, y_lenL, y_lenS, startE, List.map_cons, List.map_nil, List.length_cons, List.length_nil, List.replicate, List.cons_append, List.nil_append, List.append_nil, Nat.sub_self, Nat.reduceSub, Nat.reduceAdd, Nat.reduceLeDiff, Nat.reduceEqDiff, Nat.zero_add, Nat.zero_le, Nat.sub_zero, List.set_cons_zero, List.set_cons_succ, List.getElem?_cons_zero, List.getElem?_cons_succ, Bool.not_true, Bool.not_false, decide_true, decide_false, at0, at1, at2, Option.map_some, eq_self, w1, w2, w3, w4, i1, i2, t, val]
end W10
namespace W10
open Sf L2 PySem PySem.Spec PyProof.Rows
/-! comprehensions, step by step -/
section
variable {t : Tn} {c : Dn Bool} {f : Dn Out} {ρ ρ1 : En} {d y : D} {r ys : List D} {k : Nat} {S S1 S2 S3 : Sto}
theorem lc_nil : loopC t c f ρ [] k S = some ([], S) := rfl
theorem lc_take (ht : t ρ d = some ρ1) (hc : c ρ1 S = some (.ok true S1)) (hf : stl f ρ1 S1 = some (.ok y S2)) (hk : k < 16000000) (hr : loopC t c f ρ r (k + 1) S2 = some (ys, S3)) :
    loopC t c f ρ (d :: r) k S = some (y :: ys, S3) := by
  have hz : k < sizeLine := Nat.lt_of_lt_of_le hk (by decide)
  simp only [loopC, ht, hc, hf, if_pos hz, hr, Option.map_some]
theorem lc_skip (ht : t ρ d = some ρ1) (hc : c ρ1 S = some (.ok false S1)) (hr : loopC t c f ρ r k S1 = some (ys, S3)) : loopC t c f ρ (d :: r) k S = some (ys, S3) := by
  simp only [loopC, ht, hc, hr]
end
theorem ex_tup : ∀ e : Ex, ∃ ds, e.d = .tup ds
  | .num _ => ⟨_, rfl⟩
  | .inn _ _ => ⟨_, rfl⟩
  | .rest _ _ => ⟨_, rfl⟩
  | .iff _ _ _ => ⟨_, rfl⟩
  | .two _ _ _ => ⟨_, rfl⟩
/-! the law's own value -/
def fv (k : Nat) : Dn Out := dFn 2 (den_law_value k) (aCons (dVar 5) (aCons (dVar 1) aNil))
def cv : Dn Bool := dTru (dIsi "tuple" (dVar 5))
theorem lv_ex {k : Nat} {x0 x2 x3 x4 x5 : Option D} {F : D} {e : Ex} {v : Int} {r ys : List D} {j : Nat} {S S2 S3 : Sto} (h : den_law_value k [e.d, F] S = some (.ok (.val (.int v)) S2)) (hj : j < 1000)
    (hr : loopC (tName 5) cv (fv k) [x0, some F, x2, x3, x4, x5] r (j + 1) S2 = some (ys, S3)) : loopC (tName 5) cv (fv k) [x0, some F, x2, x3, x4, x5] (e.d :: r) j S = some (.int v :: ys, S3) := by
  obtain ⟨ds, hd⟩ := ex_tup e
  rw [hd] at h ⊢
  refine lc_take (S1 := S) (S2 := S2) rfl ?_ ?_ (by omega) hr
  · simp only [cv, x_bnd, x_bnS, x_c, x_var, x_varK, x_stl, x_stlV, x_stlL, x_stlE, x_stlD, x_bxd, x_bxV, x_bxK, x_okv, x_okm, x_d2, x_d2K, x_d2L, x_tst, x_tstK, x_ch, x_chK, x_chL, x_chMt, x_chMf, x_chN, x_and, x_andK, x_andT, x_andF, x_or, x_orK, x_orT, x_orF, x_not, x_notK, x_notL, x_tru, x_truK, x_truL, x_band, x_bandT, x_bandF, x_bor, x_borT, x_borF, x_bnot, x_bnotK, x_dif, x_difT, x_difF, x_anil, x_acons, x_aK, x_aL, x_tup, x_tupK, x_lst, x_lstK, x_cl, x_clK, x_fn, x_fnK, x_isi, x_isiK, x_isiL, x_neg, x_negK, x_revL, x_kget, x_kgetK, x_sl, x_slK, x_slL, x_pnone, x_psome, x_psK, x_mt, x_mtK, x_mtL, x_itA, x_itAK, x_itL, x_itSeq, x_seqK, x_itStr, x_istrK, x_comp, x_compK, x_compL, x_wipe1, x_wipe2, x_seq, x_sqN, x_sqR, x_sqB, x_sqC, x_next, x_ret, x_retK, x_retN, x_asg, x_asgB, x_asgK, x_drop, x_dropK, x_if, x_ifT, x_ifF, x_for, x_forK, x_tgt, x_tgtK, x_tgtL, x_tname, x_par, x_parK, x_dput, x_dputK, x_dputK1, x_dputK2, x_dputL, x_def, x_defR, x_defN, y_add, y_sub, y_mul, y_mulX, y_mod, y_fdiv, y_lt, y_le, y_gt, y_ge, y_eqI, y_eqS, y_neI, y_neS, y_eqYI, y_eqYS, y_neYI, y_neYS, y_ixT, y_ixL, y_trB, y_k0, y_k1, y_k2, y_k3, y_k4, y_k5, y_k6, y_lenT, y_lenL, y_lenS, startE, List.map_cons, List.map_nil, List.length_cons, List.length_nil, List.replicate, List.cons_append, List.nil_append, List.append_nil, Nat.sub_self, Nat.reduceSub, Nat.reduceAdd, Nat.reduceLeDiff, Nat.reduceEqDiff, Nat.zero_add, Nat.zero_le, Nat.sub_zero, List.set_cons_zero, List.set_cons_succ, List.getElem?_cons_zero, List.getElem?_cons_succ, Bool.not_true, Bool.not_false, decide_true, decide_false, z_int0, z_int1, z_int2, z_int3, z_int4, z_int5, z_int6, z_bool0, z_bool1, z_bool2, z_bool3, z_bool4, z_bool5, z_bool6, z_str0, z_str1, z_str2, z_str3, z_str4, z_str5, z_str6, z_tuple0, z_tuple1, z_tuple2, z_tuple3, z_tuple4, z_tuple5, z_tuple6, z_list0, z_list1, z_list2, z_list3, z_list4, z_list5, z_list6, z_dict0, z_dict1, z_dict2, z_dict3, z_dict4, z_dict5, z_dict6]
  · simp only [fv, x_bnd, x_bnS, x_c, x_var, x_varK, x_stl, x_stlV, x_stlL, x_stlE, x_stlD, x_bxd, x_bxV, x_bxK, x_okv, x_okm, x_d2, x_d2K, x_d2L, x_tst, x_tstK, x_ch, x_chK, x_chL, x_chMt, x_chMf, x_chN, x_and, x_andK, x_andT, x_andF, x_or, x_orK, x_orT, x_orF, x_not, x_notK, x_notL, x_tru, x_truK, x_truL, x_band, x_bandT, x_bandF, x_bor, x_borT, x_borF, x_bnot, x_bnotK, x_dif, x_difT, x_difF, x_anil, x_acons, x_aK, x_aL, x_tup, x_tupK, x_lst, x_lstK, x_cl, x_clK, x_fn, x_fnK, x_isi, x_isiK, x_isiL, x_neg, x_negK, x_revL, x_kget, x_kgetK, x_sl, x_slK, x_slL, x_pnone, x_psome, x_psK, x_mt, x_mtK, x_mtL, x_itA, x_itAK, x_itL, x_itSeq, x_seqK, x_itStr, x_istrK, x_comp, x_compK, x_compL, x_wipe1, x_wipe2, x_seq, x_sqN, x_sqR, x_sqB, x_sqC, x_next, x_ret, x_retK, x_retN, x_asg, x_asgB, x_asgK, x_drop, x_dropK, x_if, x_ifT, x_ifF, x_for, x_forK, x_tgt, x_tgtK, x_tgtL, x_tname, x_par, x_parK, x_dput, x_dputK, x_dputK1, x_dputK2, x_dputL, x_def, x_defR, x_defN, y_add, y_sub, y_mul, y_mulX, y_mod, y_fdiv, y_lt, y_le, y_gt, y_ge, y_eqI, y_eqS, y_neI, y_neS, y_eqYI, y_eqYS, y_neYI, y_neYS, y_ixT, y_ixL, y_trB, y_k0, y_k1, y_k2, y_k3, y_k4, y_k5, y_k6, y_lenT, y_lenL, y_lenS, startE, List.map_cons, List.map_nil, List.length_cons, List.length_nil, List.replicate, List.cons_append, List.nil_append, List.append_nil, Nat.sub_self, Nat.reduceSub, Nat.reduceAdd, Nat.reduceLeDiff, Nat.reduceEqDiff, Nat.zero_add, Nat.zero_le, Nat.sub_zero, List.set_cons_zero, List.set_cons_succ, List.getElem?_cons_zero, List.getElem?_cons_succ, Bool.not_true, Bool.not_false, decide_true, decide_false, h]
theorem lv_int {k : Nat} {x0 x2 x3 x4 x5 : Option D} {F : D} {i : Int} {r ys : List D} {j : Nat} {S S3 : Sto} 
    (hr : loopC (tName 5) cv (fv k) [x0, some F, x2, x3, x4, x5] r j S = some (ys, S3)) : loopC (tName 5) cv (fv k) [x0, some F, x2, x3, x4, x5] (.int i :: r) j S = some (ys, S3) := by
  refine lc_skip (S1 := S) rfl ?_ hr
  simp only [cv, x_bnd, x_bnS, x_c, x_var, x_varK, x_stl, x_stlV, x_stlL, x_stlE, x_stlD, x_bxd, x_bxV, x_bxK, x_okv, x_okm, x_d2, x_d2K, x_d2L, x_tst, x_tstK, x_ch, x_chK, x_chL, x_chMt, x_chMf, x_chN, x_and, x_andK, x_andT, x_andF, x_or, x_orK, x_orT, x_orF, x_not, x_notK, x_notL, x_tru, x_truK, x_truL, x_band, x_bandT, x_bandF, x_bor, x_borT, x_borF, x_bnot, x_bnotK, x_dif, x_difT, x_difF, x_anil, x_acons, x_aK, x_aL, x_tup, x_tupK, x_lst, x_lstK, x_cl, x_clK, x_fn, x_fnK, x_isi, x_isiK, x_isiL, x_neg, x_negK, x_revL, x_kget, x_kgetK, x_sl, x_slK, x_slL, x_pnone, x_psome, x_psK, x_mt, x_mtK, x_mtL, x_itA, x_itAK, x_itL, x_itSeq, x_seqK, x_itStr, x_istrK, x_comp, x_compK, x_compL, x_wipe1, x_wipe2, x_seq, x_sqN, x_sqR, x_sqB, x_sqC, x_next, x_ret, x_retK, x_retN, x_asg, x_asgB, x_asgK, x_drop, x_dropK, x_if, x_ifT, x_ifF, x_for, x_forK, x_tgt, x_tgtK, x_tgtL, x_tname, x_par, x_parK, x_dput, x_dputK, x_dputK1, x_dputK2, x_dputL, x_def, x_defR, x_defN, y_add, y_sub, y_mul, y_mulX, y_mod, y_fdiv, y_lt, y_le, y_gt, y_ge, y_eqI, y_eqS, y_neI, y_neS, y_eqYI, y_eqYS, y_neYI, y_neYS, y_ixT, y_ixL, y_trB, y_k0, y_k1, y_k2, y_k3, y_k4, y_k5, y_k6, y_lenT, y_lenL, y_lenS, startE, List.map_cons, List.map_nil, List.length_cons, List.length_nil, List.replicate, List.cons_append, List.nil_append, List.append_nil, Nat.sub_self, Nat.reduceSub, Nat.reduceAdd, Nat.reduceLeDiff, Nat.reduceEqDiff, Nat.zero_add, Nat.zero_le, Nat.sub_zero, List.set_cons_zero, List.set_cons_succ, List.getElem?_cons_zero, List.getElem?_cons_succ, Bool.not_true, Bool.not_false, decide_true, decide_false, z_int0, z_int1, z_int2, z_int3, z_int4, z_int5, z_int6, z_bool0, z_bool1, z_bool2, z_bool3, z_bool4, z_bool5, z_bool6, z_str0, z_str1, z_str2, z_str3, z_str4, z_str5, z_str6, z_tuple0, z_tuple1, z_tuple2, z_tuple3, z_tuple4, z_tuple5, z_tuple6, z_list0, z_list1, z_list2, z_list3, z_list4, z_list5, z_list6, z_dict0, z_dict1, z_dict2, z_dict3, z_dict4, z_dict5, z_dict6]
def dk3 : Dn Out := dDisp [("plus", (d2 addD (d2 ixD (dVar 3) (dC (.int 0))) (d2 ixD (dVar 3) (dC (.int 1))))), ("less", (d2 subD (d2 ixD (dVar 3) (dC (.int 0))) (d2 ixD (dVar 3) (dC (.int 1))))), ("times", (d2 mulWD (d2 ixD (dVar 3) (dC (.int 0))) (d2 ixD (dVar 3) (dC (.int 1)))))]
def dk2 : Dn Out := dDisp [("same", (d2 ixB (dLst (aCons (dC (.int 0)) (aCons (dC (.int 1)) aNil))) (d2 eqX (d2 ixD (dVar 3) (dC (.int 0))) (d2 ixD (dVar 3) (dC (.int 1)))))), ("under", (d2 ixB (dLst (aCons (dC (.int 0)) (aCons (dC (.int 1)) aNil))) (d2 ltD (d2 ixD (dVar 3) (dC (.int 0))) (d2 ixD (dVar 3) (dC (.int 1))))))]
def ob3 (a b : Int) : Ob := .dct [(.inr "plus", .int (a + b)), (.inr "less", .int (a - b)), (.inr "times", .int (a * b))]
def ob2 (a b : Int) : Ob := .dct [(.inr "same", .int (Wd.same.f a b)), (.inr "under", .int (Wd.under.f a b))]
def ob5 (a b : Int) : Ob := .dct [(.inr "plus", .int (a + b)), (.inr "less", .int (a - b)), (.inr "times", .int (a * b)), (.inr "same", .int (Wd.same.f a b)), (.inr "under", .int (Wd.under.f a b))]
theorem value_eq (k : Nat) : den_law_value (k + 1) = defD 6 ((sSeq (sAsg 2 (d2 ixD (dVar 0) (dC (.int 0))))
 (sSeq (sIf (tst (d2 eqX (dVar 2) (dC (.str "number")))) (sRet (d2 ixD (dVar 0) (dC (.int 1)))) sNext)
 (sSeq (sIf (tst (d2 eqX (dVar 2) (dC (.str "in")))) (sRet (d2 ixD (dCl listD (aCons (d2 ixD (dVar 1) (d2 ixD (dVar 0) (dC (.int 1)))) aNil)) (d2 ixD (dVar 0) (dC (.int 2))))) sNext)
 (sSeq (sAsg 3 (dComp (itSeq (dSl (dVar 0) (pSome (dC (.int 1))) pNone)) (tName 5) cv (fv k) [5]))
 (sSeq (sIf (tst (d2 eqX (dVar 2) (dC (.str "rest")))) (sRet (d2 subD (d2 ixD (dVar 3) (dC (.int 0))) (d2 mulWD (d2 fdivD (d2 ixD (dVar 3) (dC (.int 0))) (d2 ixD (dVar 0) (dC (.int 2)))) (d2 ixD (dVar 0) (dC (.int 2)))))) sNext)
 (sSeq (sIf (tst (d2 eqX (dVar 2) (dC (.str "if")))) (sRet (dIf (tst (d2 eqX (d2 ixD (dVar 3) (dC (.int 0))) (dC (.int 0)))) (d2 ixD (dVar 3) (dC (.int 2))) (d2 ixD (dVar 3) (dC (.int 1))))) sNext)
 (sSeq (sAsg 4 dk3)
 (sSeq (sDrop (dMt "dict" updD (dVar 4) (aCons dk2 aNil)))
 (sRet (d2 dgD (dVar 4) (dVar 2)))))))))))) := rfl
theorem y_ixB (S : Sto) (a b : D) (k : Bool) : ixB S (.lst [a, b]) (.bl k) = some (.val (if k = true then b else a)) := by cases k <;> rfl
theorem ifD (k : Bool) : (if k = true then D.int 1 else D.int 0) = D.int (if k = true then 1 else 0) := by cases k <;> rfl
theorem known3 (x0 x1 x2 x4 x5 : Option D) {a b : Int} {k l : Nat} (ha : Bits k a) (hb : Bits l b) (hl : k + l < 1000000) (S : Sto) : dk3 [x0, x1, x2, some (.lst [.int a, .int b]), x4, x5] S = some (.ok (.own (ob3 a b)) S) := by
  have y := y_mulW S ha hb hl
  simp only [dk3, dDisp, vals, x_bnd, x_bnS, x_c, x_var, x_varK, x_stl, x_stlV, x_stlL, x_stlE, x_stlD, x_bxd, x_bxV, x_bxK, x_okv, x_okm, x_d2, x_d2K, x_d2L, x_tst, x_tstK, x_ch, x_chK, x_chL, x_chMt, x_chMf, x_chN, x_and, x_andK, x_andT, x_andF, x_or, x_orK, x_orT, x_orF, x_not, x_notK, x_notL, x_tru, x_truK, x_truL, x_band, x_bandT, x_bandF, x_bor, x_borT, x_borF, x_bnot, x_bnotK, x_dif, x_difT, x_difF, x_anil, x_acons, x_aK, x_aL, x_tup, x_tupK, x_lst, x_lstK, x_cl, x_clK, x_fn, x_fnK, x_isi, x_isiK, x_isiL, x_neg, x_negK, x_revL, x_kget, x_kgetK, x_sl, x_slK, x_slL, x_pnone, x_psome, x_psK, x_mt, x_mtK, x_mtL, x_itA, x_itAK, x_itL, x_itSeq, x_seqK, x_itStr, x_istrK, x_comp, x_compK, x_compL, x_wipe1, x_wipe2, x_seq, x_sqN, x_sqR, x_sqB, x_sqC, x_next, x_ret, x_retK, x_retN, x_asg, x_asgB, x_asgK, x_drop, x_dropK, x_if, x_ifT, x_ifF, x_for, x_forK, x_tgt, x_tgtK, x_tgtL, x_tname, x_par, x_parK, x_dput, x_dputK, x_dputK1, x_dputK2, x_dputL, x_def, x_defR, x_defN, y_add, y_sub, y_mul, y_mulX, y_mod, y_fdiv, y_lt, y_le, y_gt, y_ge, y_eqI, y_eqS, y_neI, y_neS, y_eqYI, y_eqYS, y_neYI, y_neYS, y_ixT, y_ixL, y_trB, y_k0, y_k1, y_k2, y_k3, y_k4, y_k5, y_k6, y_lenT, y_lenL, y_lenS, startE, List.map_cons, List.map_nil, List.length_cons, List.length_nil, List.replicate, List.cons_append, List.nil_append, List.append_nil, Nat.sub_self, Nat.reduceSub, Nat.reduceAdd, Nat.reduceLeDiff, Nat.reduceEqDiff, Nat.zero_add, Nat.zero_le, Nat.sub_zero, List.set_cons_zero, List.set_cons_succ, List.getElem?_cons_zero, List.getElem?_cons_succ, Bool.not_true, Bool.not_false, decide_true, decide_false, at0, at1, Option.map_some, y]
  rfl
theorem known2 (x0 x1 x2 x4 x5 : Option D) (a b : Int) (S : Sto) : dk2 [x0, x1, x2, some (.lst [.int a, .int b]), x4, x5] S = some (.ok (.own (ob2 a b)) S) := by
  simp only [dk2, dDisp, vals, x_bnd, x_bnS, x_c, x_var, x_varK, x_stl, x_stlV, x_stlL, x_stlE, x_stlD, x_bxd, x_bxV, x_bxK, x_okv, x_okm, x_d2, x_d2K, x_d2L, x_tst, x_tstK, x_ch, x_chK, x_chL, x_chMt, x_chMf, x_chN, x_and, x_andK, x_andT, x_andF, x_or, x_orK, x_orT, x_orF, x_not, x_notK, x_notL, x_tru, x_truK, x_truL, x_band, x_bandT, x_bandF, x_bor, x_borT, x_borF, x_bnot, x_bnotK, x_dif, x_difT, x_difF, x_anil, x_acons, x_aK, x_aL, x_tup, x_tupK, x_lst, x_lstK, x_cl, x_clK, x_fn, x_fnK, x_isi, x_isiK, x_isiL, x_neg, x_negK, x_revL, x_kget, x_kgetK, x_sl, x_slK, x_slL, x_pnone, x_psome, x_psK, x_mt, x_mtK, x_mtL, x_itA, x_itAK, x_itL, x_itSeq, x_seqK, x_itStr, x_istrK, x_comp, x_compK, x_compL, x_wipe1, x_wipe2, x_seq, x_sqN, x_sqR, x_sqB, x_sqC, x_next, x_ret, x_retK, x_retN, x_asg, x_asgB, x_asgK, x_drop, x_dropK, x_if, x_ifT, x_ifF, x_for, x_forK, x_tgt, x_tgtK, x_tgtL, x_tname, x_par, x_parK, x_dput, x_dputK, x_dputK1, x_dputK2, x_dputL, x_def, x_defR, x_defN, y_add, y_sub, y_mul, y_mulX, y_mod, y_fdiv, y_lt, y_le, y_gt, y_ge, y_eqI, y_eqS, y_neI, y_neS, y_eqYI, y_eqYS, y_neYI, y_neYS, y_ixT, y_ixL, y_trB, y_k0, y_k1, y_k2, y_k3, y_k4, y_k5, y_k6, y_lenT, y_lenL, y_lenS, startE, List.map_cons, List.map_nil, List.length_cons, List.length_nil, List.replicate, List.cons_append, List.nil_append, List.append_nil, Nat.sub_self, Nat.reduceSub, Nat.reduceAdd, Nat.reduceLeDiff, Nat.reduceEqDiff, Nat.zero_add, Nat.zero_le, Nat.sub_zero, List.set_cons_zero, List.set_cons_succ, List.getElem?_cons_zero, List.getElem?_cons_succ, Bool.not_true, Bool.not_false, decide_true, decide_false, at0, at1, Option.map_some, y_ixB, ifD]
  rfl
theorem y_updD {S : Sto} {n j : Nat} {kvs us : List (Key × D)} (h1 : S[n]? = some (.dct kvs)) (h2 : S[j]? = some (.dct us)) (hn : n ≠ j) (hl : kvs.length + us.length ≤ 1000) :
    updD S (.ref n) [.ref j] = some (.val .non, S.set n (.dct (us.foldl (fun acc p => putD acc p.1 p.2) kvs))) := by
  simp only [updD, h1, h2]
  exact if_pos ⟨hn, Nat.le_trans hl (by decide)⟩
theorem ob_merge (a b : Int) (S : Sto) : updD ((S ++ [ob3 a b]) ++ [ob2 a b]) (.ref S.length) [.ref (S ++ [ob3 a b]).length] = some (.val .non, ((S ++ [ob3 a b]) ++ [ob2 a b]).set S.length (ob5 a b)) := by
  have h2 : ((S ++ [ob3 a b]) ++ [ob2 a b])[(S ++ [ob3 a b]).length]? = some (ob2 a b) := by
    rw [List.getElem?_append_right (Nat.le_refl _), Nat.sub_self]; rfl
  have h1 : ((S ++ [ob3 a b]) ++ [ob2 a b])[S.length]? = some (ob3 a b) := by
    rw [List.getElem?_append_left (by rw [List.length_append]; simp), List.getElem?_append_right (Nat.le_refl _), Nat.sub_self]; rfl
  rw [y_updD h1 h2 (by rw [List.length_append, List.length_singleton]; omega) (Nat.le_of_ble_eq_true rfl)]
  congr 4
theorem dg5 {S : Sto} {n : Nat} {a b : Int} (h : S[n]? = some (ob5 a b)) (w : Wd) : dgD S (.ref n) (.str w.t) = some (.val (.int (w.f a b))) := by
  cases w <;> (simp only [dgD, viewD, h, ob5, keyD, Wd.t]; rfl)
theorem ty_dct {S : Sto} {n : Nat} {kvs : List (Key × D)} (h : S[n]? = some (.dct kvs)) : tyB "dict" S (.ref n) = true := by
  simp only [tyB, h]
  rfl
theorem y_list (S : Sto) (ds : List D) : listD S [.tup ds] = some (.own (.lst ds)) := rfl
theorem fdiv_b {k : Nat} {v m : Int} (h : Bits k v) (hm : 0 ≤ m) : Bits k (v.fdiv m) := by
  unfold Bits at *
  rw [Int.fdiv_eq_ediv_of_nonneg _ hm]
  exact Nat.lt_of_le_of_lt (Int.natAbs_ediv_le_natAbs v m) h
end W10
namespace W10
open Sf L2 PySem PySem.Spec PyProof.Rows
theorem e_lval {cs : List Int} {fs : List (List Int)} (hf : okF cs fs) : ∀ (e : Ex) (k : Nat) (S : Sto), okE cs e → e.deep ≤ k → e.deep ≤ 12 → ∃ S', den_law_value k [e.d, fD fs] S = some (.ok (.val (.int (val fs e))) S') ∧ Gr S S'
  | .num i, k, S, h, hk, _ => by
    obtain ⟨k, rfl⟩ : ∃ k', k = k' + 1 := ⟨k - 1, by simp only [Ex.deep] at hk; omega⟩
    refine ⟨S, ?_, Gr.refl S⟩
    simp only [value_eq, Ex.d, x_bnd, x_bnS, x_c, x_var, x_varK, x_stl, x_stlV, x_stlL, x_stlE, x_stlD, x_bxd, x_bxV, x_bxK, x_okv, x_okm, x_d2, x_d2K, x_d2L, x_tst, x_tstK, x_ch, x_chK, x_chL, x_chMt, x_chMf, x_chN, x_and, x_andK, x_andT, x_andF, x_or, x_orK, x_orT, x_orF, x_not, x_notK, x_notL, x_tru, x_truK, x_truL, x_band, x_bandT, x_bandF, x_bor, x_borT, x_borF, x_bnot, x_bnotK, x_dif, x_difT, x_difF, x_anil, x_acons, x_aK, x_aL, x_tup, x_tupK, x_lst, x_lstK, x_cl, x_clK, x_fn, x_fnK, x_isi, x_isiK, x_isiL, x_neg, x_negK, x_revL, x_kget, x_kgetK, x_sl, x_slK, x_slL, x_pnone, x_psome, x_psK, x_mt, x_mtK, x_mtL, x_itA, x_itAK, x_itL, x_itSeq, x_seqK, x_itStr, x_istrK, x_comp, x_compK, x_compL, x_wipe1, x_wipe2, x_seq, x_sqN, x_sqR, x_sqB, x_sqC, x_next, x_ret, x_retK, x_retN, x_asg, x_asgB, x_asgK, x_drop, x_dropK, x_if, x_ifT, x_ifF, x_for, x_forK, x_tgt, x_tgtK, x_tgtL, x_tname, x_par, x_parK, x_dput, x_dputK, x_dputK1, x_dputK2, x_dputL, x_def, x_defR, x_defN, y_add, y_sub, y_mul, y_mulX, y_mod, y_fdiv, y_lt, y_le, y_gt, y_ge, y_eqI, y_eqS, y_neI, y_neS, y_eqYI, y_eqYS, y_neYI, y_neYS, y_ixT, y_ixL, y_trB, y_k0, y_k1, y_k2, y_k3, y_k4, y_k5, y_k6, y_lenT, y_lenL, y_lenS, startE, List.map_cons, List.map_nil, List.length_cons, List.length_nil, List.replicate, List.cons_append, List.nil_append, List.append_nil, Nat.sub_self, Nat.reduceSub, Nat.reduceAdd, Nat.reduceLeDiff, Nat.reduceEqDiff, Nat.zero_add, Nat.zero_le, Nat.sub_zero, List.set_cons_zero, List.set_cons_succ, List.getElem?_cons_zero, List.getElem?_cons_succ, Bool.not_true, Bool.not_false, decide_true, decide_false, at0, at1, Option.map_some, eq_self, val]
  | .inn a b, k, S, h, hk, _ => by
    obtain ⟨k, rfl⟩ : ∃ k', k = k' + 1 := ⟨k - 1, by simp only [Ex.deep] at hk; omega⟩
    obtain ⟨f, e1, e2, _⟩ := at_field hf h
    have i1 := ix_fD S e1
    have i2 : atI (f.map D.int) b = some (.int (val fs (.inn a b))) := by rw [atI_map, e2]; rfl
    refine ⟨S, ?_, Gr.refl S⟩
    generalize val fs (.inn a b) = v at i2 ⊢
    generalize fD fs = F at i1 ⊢
    generalize f.map D.int = R at i1 i2 ⊢
    simp only [value_eq, Ex.d, x_bnd, x_bnS, x_c, x_var, x_varK, x_stl, x_stlV, x_stlL, x_stlE, x_stlD, x_bxd, x_bxV, x_bxK, x_okv, x_okm, x_d2, x_d2K, x_d2L, x_tst, x_tstK, x_ch, x_chK, x_chL, x_chMt, x_chMf, x_chN, x_and, x_andK, x_andT, x_andF, x_or, x_orK, x_orT, x_orF, x_not, x_notK, x_notL, x_tru, x_truK, x_truL, x_band, x_bandT, x_bandF, x_bor, x_borT, x_borF, x_bnot, x_bnotK, x_dif, x_difT, x_difF, x_anil, x_acons, x_aK, x_aL, x_tup, x_tupK, x_lst, x_lstK, x_cl, x_clK, x_fn, x_fnK, x_isi, x_isiK, x_isiL, x_neg, x_negK, x_revL, x_kget, x_kgetK, x_sl, x_slK, x_slL, x_pnone, x_psome, x_psK, x_mt, x_mtK, x_mtL, x_itA, x_itAK, x_itL, x_itSeq, x_seqK, x_itStr, x_istrK, x_comp, x_compK, x_compL, x_wipe1, x_wipe2, x_seq, x_sqN, x_sqR, x_sqB, x_sqC, x_next, x_ret, x_retK, x_retN, x_asg, x_asgB, x_asgK, x_drop, x_dropK, x_if, x_ifT, x_ifF, x_for, x_forK, x_tgt, x_tgtK, x_tgtL, x_tname, x_par, x_parK, x_dput, x_dputK, x_dputK1, x_dputK2, x_dputL, x_def, x_defR, x_defN, y_add, y_sub, y_mul, y_mulX, y_mod, y_fdiv, y_lt, y_le, y_gt, y_ge, y_eqI, y_eqS, y_neI, y_neS, y_eqYI, y_eqYS, y_neYI, y_neYS, y_ixT, y_ixL, y_trB, y_k0, y_k1, y_k2, y_k3, y_k4, y_k5, y_k6, y_lenT, y_lenL, y_lenS, startE, List.map_cons, List.map_nil, List.length_cons, List.length_nil, List.replicate, List.cons_append, List.nil_append, List.append_nil, Nat.sub_self, Nat.reduceSub, Nat.reduceAdd, Nat.reduceLeDiff, Nat.reduceEqDiff, Nat.zero_add, Nat.zero_le, Nat.sub_zero, List.set_cons_zero, List.set_cons_succ, List.getElem?_cons_zero, List.getElem?_cons_succ, Bool.not_true, Bool.not_false, decide_true, decide_false, at0, at1, at2, Option.map_some, eq_self, n_number_in, n_number_rest, n_number_if, n_number_plus, n_number_less, n_number_times, n_number_same, n_number_under, n_number_give, n_number_refuse, n_number_when, n_in_number, n_in_rest, n_in_if, n_in_plus, n_in_less, n_in_times, n_in_same, n_in_under, n_in_give, n_in_refuse, n_in_when, n_rest_number, n_rest_in, n_rest_if, n_rest_plus, n_rest_less, n_rest_times, n_rest_same, n_rest_under, n_rest_give, n_rest_refuse, n_rest_when, n_if_number, n_if_in, n_if_rest, n_if_plus, n_if_less, n_if_times, n_if_same, n_if_under, n_if_give, n_if_refuse, n_if_when, n_plus_number, n_plus_in, n_plus_rest, n_plus_if, n_plus_less, n_plus_times, n_plus_same, n_plus_under, n_plus_give, n_plus_refuse, n_plus_when, n_less_number, n_less_in, n_less_rest, n_less_if, n_less_plus, n_less_times, n_less_same, n_less_under, n_less_give, n_less_refuse, n_less_when, n_times_number, n_times_in, n_times_rest, n_times_if, n_times_plus, n_times_less, n_times_same, n_times_under, n_times_give, n_times_refuse, n_times_when, n_same_number, n_same_in, n_same_rest, n_same_if, n_same_plus, n_same_less, n_same_times, n_same_under, n_same_give, n_same_refuse, n_same_when, n_under_number, n_under_in, n_under_rest, n_under_if, n_under_plus, n_under_less, n_under_times, n_under_same, n_under_give, n_under_refuse, n_under_when, n_give_number, n_give_in, n_give_rest, n_give_if, n_give_plus, n_give_less, n_give_times, n_give_same, n_give_under, n_give_refuse, n_give_when, n_refuse_number, n_refuse_in, n_refuse_rest, n_refuse_if, n_refuse_plus, n_refuse_less, n_refuse_times, n_refuse_same, n_refuse_under, n_refuse_give, n_refuse_when, n_when_number, n_when_in, n_when_rest, n_when_if, n_when_plus, n_when_less, n_when_times, n_when_same, n_when_under, n_when_give, n_when_refuse, i1, y_list, i2]
  | .rest e m, k, S, h, hk, h12 => by
    simp only [Ex.deep] at hk h12
    obtain ⟨k, rfl⟩ : ∃ k', k = k' + 1 := ⟨k - 1, by omega⟩
    obtain ⟨S1, ih, g1⟩ := e_lval hf e k S h.1 (by omega) (by omega)
    have hm : m ≠ 0 ∧ m.natAbs < 1073741824 := by have := h.2; exact ⟨by omega, by omega⟩
    have lp := lv_ex (x0 := some (.tup [.str "rest", e.d, .int m])) (x2 := some (.str "rest")) (x3 := none) (x4 := none) (x5 := none) ih (show 0 < 1000 by decide) (lv_int (i := m) lc_nil)
    have p1 := pow12 (show e.deep ≤ 12 by omega)
    have bb := e_bits hf e e.deep h.1 (Nat.le_refl _)
    have bm : Bits 7 m := by have := h.2; unfold Bits; omega
    have y := y_mulW S1 (fdiv_b bb (show 0 ≤ m by have := h.2; omega)) bm (by omega)
    refine ⟨S1, ?_, g1⟩
    have ev : val fs (.rest e m) = val fs e - (val fs e).fdiv m * m := by
      simp only [val]
      rw [Int.fmod_def, Int.mul_comm]
    rw [ev]
    generalize val fs e = v at y lp ⊢
    simp only [value_eq, Ex.d, x_bnd, x_bnS, x_c, x_var, x_varK, x_stl, x_stlV, x_stlL, x_stlE, x_stlD, x_bxd, x_bxV, x_bxK, x_okv, x_okm, x_d2, x_d2K, x_d2L, x_tst, x_tstK, x_ch, x_chK, x_chL, x_chMt, x_chMf, x_chN, x_and, x_andK, x_andT, x_andF, x_or, x_orK, x_orT, x_orF, x_not, x_notK, x_notL, x_tru, x_truK, x_truL, x_band, x_bandT, x_bandF, x_bor, x_borT, x_borF, x_bnot, x_bnotK, x_dif, x_difT, x_difF, x_anil, x_acons, x_aK, x_aL, x_tup, x_tupK, x_lst, x_lstK, x_cl, x_clK, x_fn, x_fnK, x_isi, x_isiK, x_isiL, x_neg, x_negK, x_revL, x_kget, x_kgetK, x_sl, x_slK, x_slL, x_pnone, x_psome, x_psK, x_mt, x_mtK, x_mtL, x_itA, x_itAK, x_itL, x_itSeq, x_seqK, x_itStr, x_istrK, x_comp, x_compK, x_compL, x_wipe1, x_wipe2, x_seq, x_sqN, x_sqR, x_sqB, x_sqC, x_next, x_ret, x_retK, x_retN, x_asg, x_asgB, x_asgK, x_drop, x_dropK, x_if, x_ifT, x_ifF, x_for, x_forK, x_tgt, x_tgtK, x_tgtL, x_tname, x_par, x_parK, x_dput, x_dputK, x_dputK1, x_dputK2, x_dputL, x_def, x_defR, x_defN, y_add, y_sub, y_mul, y_mulX, y_mod, y_fdiv, y_lt, y_le, y_gt, y_ge, y_eqI, y_eqS, y_neI, y_neS, y_eqYI, y_eqYS, y_neYI, y_neYS, y_ixT, y_ixL, y_trB, y_k0, y_k1, y_k2, y_k3, y_k4, y_k5, y_k6, y_lenT, y_lenL, y_lenS, startE, List.map_cons, List.map_nil, List.length_cons, List.length_nil, List.replicate, List.cons_append, List.nil_append, List.append_nil, Nat.sub_self, Nat.reduceSub, Nat.reduceAdd, Nat.reduceLeDiff, Nat.reduceEqDiff, Nat.zero_add, Nat.zero_le, Nat.sub_zero, List.set_cons_zero, List.set_cons_succ, List.getElem?_cons_zero, List.getElem?_cons_succ, Bool.not_true, Bool.not_false, decide_true, decide_false, at0, at1, at2, Option.map_some, eq_self, n_number_in, n_number_rest, n_number_if, n_number_plus, n_number_less, n_number_times, n_number_same, n_number_under, n_number_give, n_number_refuse, n_number_when, n_in_number, n_in_rest, n_in_if, n_in_plus, n_in_less, n_in_times, n_in_same, n_in_under, n_in_give, n_in_refuse, n_in_when, n_rest_number, n_rest_in, n_rest_if, n_rest_plus, n_rest_less, n_rest_times, n_rest_same, n_rest_under, n_rest_give, n_rest_refuse, n_rest_when, n_if_number, n_if_in, n_if_rest, n_if_plus, n_if_less, n_if_times, n_if_same, n_if_under, n_if_give, n_if_refuse, n_if_when, n_plus_number, n_plus_in, n_plus_rest, n_plus_if, n_plus_less, n_plus_times, n_plus_same, n_plus_under, n_plus_give, n_plus_refuse, n_plus_when, n_less_number, n_less_in, n_less_rest, n_less_if, n_less_plus, n_less_times, n_less_same, n_less_under, n_less_give, n_less_refuse, n_less_when, n_times_number, n_times_in, n_times_rest, n_times_if, n_times_plus, n_times_less, n_times_same, n_times_under, n_times_give, n_times_refuse, n_times_when, n_same_number, n_same_in, n_same_rest, n_same_if, n_same_plus, n_same_less, n_same_times, n_same_under, n_same_give, n_same_refuse, n_same_when, n_under_number, n_under_in, n_under_rest, n_under_if, n_under_plus, n_under_less, n_under_times, n_under_same, n_under_give, n_under_refuse, n_under_when, n_give_number, n_give_in, n_give_rest, n_give_if, n_give_plus, n_give_less, n_give_times, n_give_same, n_give_under, n_give_refuse, n_give_when, n_refuse_number, n_refuse_in, n_refuse_rest, n_refuse_if, n_refuse_plus, n_refuse_less, n_refuse_times, n_refuse_same, n_refuse_under, n_refuse_give, n_refuse_when, n_when_number, n_when_in, n_when_rest, n_when_if, n_when_plus, n_when_less, n_when_times, n_when_same, n_when_under, n_when_give, n_when_refuse, slT, fixed, lp, hm, ne_eq, not_false_eq_true, and_self, y]
  | .iff c a b, k, S, h, hk, h12 => by
    simp only [Ex.deep] at hk h12
    obtain ⟨k, rfl⟩ : ∃ k', k = k' + 1 := ⟨k - 1, by omega⟩
    obtain ⟨S1, i1, g1⟩ := e_lval hf c k S h.1 (by omega) (by omega)
    obtain ⟨S2, i2, g2⟩ := e_lval hf a k S1 h.2.1 (by omega) (by omega)
    obtain ⟨S3, i3, g3⟩ := e_lval hf b k S2 h.2.2 (by omega) (by omega)
    have lp := lv_ex (x0 := some (.tup [.str "if", c.d, a.d, b.d])) (x2 := some (.str "if")) (x3 := none) (x4 := none) (x5 := none) i1 (show 0 < 1000 by decide) (lv_ex i2 (by decide) (lv_ex i3 (by decide) lc_nil))
    refine ⟨S3, ?_, (g1.trans g2).trans g3⟩
    by_cases hc : val fs c = 0
    · simp only [value_eq, Ex.d, x_bnd, x_bnS, x_c, x_var, x_varK, x_stl, x_stlV, x_stlL, x_stlE, x_stlD, x_bxd, x_bxV, x_bxK, x_okv, x_okm, x_d2, x_d2K, x_d2L, x_tst, x_tstK, x_ch, x_chK, x_chL, x_chMt, x_chMf, x_chN, x_and, x_andK, x_andT, x_andF, x_or, x_orK, x_orT, x_orF, x_not, x_notK, x_notL, x_tru, x_truK, x_truL, x_band, x_bandT, x_bandF, x_bor, x_borT, x_borF, x_bnot, x_bnotK, x_dif, x_difT, x_difF, x_anil, x_acons, x_aK, x_aL, x_tup, x_tupK, x_lst, x_lstK, x_cl, x_clK, x_fn, x_fnK, x_isi, x_isiK, x_isiL, x_neg, x_negK, x_revL, x_kget, x_kgetK, x_sl, x_slK, x_slL, x_pnone, x_psome, x_psK, x_mt, x_mtK, x_mtL, x_itA, x_itAK, x_itL, x_itSeq, x_seqK, x_itStr, x_istrK, x_comp, x_compK, x_compL, x_wipe1, x_wipe2, x_seq, x_sqN, x_sqR, x_sqB, x_sqC, x_next, x_ret, x_retK, x_retN, x_asg, x_asgB, x_asgK, x_drop, x_dropK, x_if, x_ifT, x_ifF, x_for, x_forK, x_tgt, x_tgtK, x_tgtL, x_tname, x_par, x_parK, x_dput, x_dputK, x_dputK1, x_dputK2, x_dputL, x_def, x_defR, x_defN, y_add, y_sub, y_mul, y_mulX, y_mod, y_fdiv, y_lt, y_le, y_gt, y_ge, y_eqI, y_eqS, y_neI, y_neS, y_eqYI, y_eqYS, y_neYI, y_neYS, y_ixT, y_ixL, y_trB, y_k0, y_k1, y_k2, y_k3, y_k4, y_k5, y_k6, y_lenT, y_lenL, y_lenS, startE, List.map_cons, List.map_nil, List.length_cons, List.length_nil, List.replicate, List.cons_append, List.nil_append, List.append_nil, Nat.sub_self, Nat.reduceSub, Nat.reduceAdd, Nat.reduceLeDiff, Nat.reduceEqDiff, Nat.zero_add, Nat.zero_le, Nat.sub_zero, List.set_cons_zero, List.set_cons_succ, List.getElem?_cons_zero, List.getElem?_cons_succ, Bool.not_true, Bool.not_false, decide_true, decide_false, at0, at1, at2, at3, Option.map_some, eq_self, n_number_in, n_number_rest, n_number_if, n_number_plus, n_number_less, n_number_times, n_number_same, n_number_under, n_number_give, n_number_refuse, n_number_when, n_in_number, n_in_rest, n_in_if, n_in_plus, n_in_less, n_in_times, n_in_same, n_in_under, n_in_give, n_in_refuse, n_in_when, n_rest_number, n_rest_in, n_rest_if, n_rest_plus, n_rest_less, n_rest_times, n_rest_same, n_rest_under, n_rest_give, n_rest_refuse, n_rest_when, n_if_number, n_if_in, n_if_rest, n_if_plus, n_if_less, n_if_times, n_if_same, n_if_under, n_if_give, n_if_refuse, n_if_when, n_plus_number, n_plus_in, n_plus_rest, n_plus_if, n_plus_less, n_plus_times, n_plus_same, n_plus_under, n_plus_give, n_plus_refuse, n_plus_when, n_less_number, n_less_in, n_less_rest, n_less_if, n_less_plus, n_less_times, n_less_same, n_less_under, n_less_give, n_less_refuse, n_less_when, n_times_number, n_times_in, n_times_rest, n_times_if, n_times_plus, n_times_less, n_times_same, n_times_under, n_times_give, n_times_refuse, n_times_when, n_same_number, n_same_in, n_same_rest, n_same_if, n_same_plus, n_same_less, n_same_times, n_same_under, n_same_give, n_same_refuse, n_same_when, n_under_number, n_under_in, n_under_rest, n_under_if, n_under_plus, n_under_less, n_under_times, n_under_same, n_under_give, n_under_refuse, n_under_when, n_give_number, n_give_in, n_give_rest, n_give_if, n_give_plus, n_give_less, n_give_times, n_give_same, n_give_under, n_give_refuse, n_give_when, n_refuse_number, n_refuse_in, n_refuse_rest, n_refuse_if, n_refuse_plus, n_refuse_less, n_refuse_times, n_refuse_same, n_refuse_under, n_refuse_give, n_refuse_when, n_when_number, n_when_in, n_when_rest, n_when_if, n_when_plus, n_when_less, n_when_times, n_when_same, n_when_under, n_when_give, n_when_refuse, slT, fixed, lp, decide_eq_true hc, val, if_pos hc]
    · simp only [value_eq, Ex.d, x_bnd, x_bnS, x_c, x_var, x_varK, x_stl, x_stlV, x_stlL, x_stlE, x_stlD, x_bxd, x_bxV, x_bxK, x_okv, x_okm, x_d2, x_d2K, x_d2L, x_tst, x_tstK, x_ch, x_chK, x_chL, x_chMt, x_chMf, x_chN, x_and, x_andK, x_andT, x_andF, x_or, x_orK, x_orT, x_orF, x_not, x_notK, x_notL, x_tru, x_truK, x_truL, x_band, x_bandT, x_bandF, x_bor, x_borT, x_borF, x_bnot, x_bnotK, x_dif, x_difT, x_difF, x_anil, x_acons, x_aK, x_aL, x_tup, x_tupK, x_lst, x_lstK, x_cl, x_clK, x_fn, x_fnK, x_isi, x_isiK, x_isiL, x_neg, x_negK, x_revL, x_kget, x_kgetK, x_sl, x_slK, x_slL, x_pnone, x_psome, x_psK, x_mt, x_mtK, x_mtL, x_itA, x_itAK, x_itL, x_itSeq, x_seqK, x_itStr, x_istrK, x_comp, x_compK, x_compL, x_wipe1, x_wipe2, x_seq, x_sqN, x_sqR, x_sqB, x_sqC, x_next, x_ret, x_retK, x_retN, x_asg, x_asgB, x_asgK, x_drop, x_dropK, x_if, x_ifT, x_ifF, x_for, x_forK, x_tgt, x_tgtK, x_tgtL, x_tname, x_par, x_parK, x_dput, x_dputK, x_dputK1, x_dputK2, x_dputL, x_def, x_defR, x_defN, y_add, y_sub, y_mul, y_mulX, y_mod, y_fdiv, y_lt, y_le, y_gt, y_ge, y_eqI, y_eqS, y_neI, y_neS, y_eqYI, y_eqYS, y_neYI, y_neYS, y_ixT, y_ixL, y_trB, y_k0, y_k1, y_k2, y_k3, y_k4, y_k5, y_k6, y_lenT, y_lenL, y_lenS, startE, List.map_cons, List.map_nil, List.length_cons, List.length_nil, List.replicate, List.cons_append, List.nil_append, List.append_nil, Nat.sub_self, Nat.reduceSub, Nat.reduceAdd, Nat.reduceLeDiff, Nat.reduceEqDiff, Nat.zero_add, Nat.zero_le, Nat.sub_zero, List.set_cons_zero, List.set_cons_succ, List.getElem?_cons_zero, List.getElem?_cons_succ, Bool.not_true, Bool.not_false, decide_true, decide_false, at0, at1, at2, at3, Option.map_some, eq_self, n_number_in, n_number_rest, n_number_if, n_number_plus, n_number_less, n_number_times, n_number_same, n_number_under, n_number_give, n_number_refuse, n_number_when, n_in_number, n_in_rest, n_in_if, n_in_plus, n_in_less, n_in_times, n_in_same, n_in_under, n_in_give, n_in_refuse, n_in_when, n_rest_number, n_rest_in, n_rest_if, n_rest_plus, n_rest_less, n_rest_times, n_rest_same, n_rest_under, n_rest_give, n_rest_refuse, n_rest_when, n_if_number, n_if_in, n_if_rest, n_if_plus, n_if_less, n_if_times, n_if_same, n_if_under, n_if_give, n_if_refuse, n_if_when, n_plus_number, n_plus_in, n_plus_rest, n_plus_if, n_plus_less, n_plus_times, n_plus_same, n_plus_under, n_plus_give, n_plus_refuse, n_plus_when, n_less_number, n_less_in, n_less_rest, n_less_if, n_less_plus, n_less_times, n_less_same, n_less_under, n_less_give, n_less_refuse, n_less_when, n_times_number, n_times_in, n_times_rest, n_times_if, n_times_plus, n_times_less, n_times_same, n_times_under, n_times_give, n_times_refuse, n_times_when, n_same_number, n_same_in, n_same_rest, n_same_if, n_same_plus, n_same_less, n_same_times, n_same_under, n_same_give, n_same_refuse, n_same_when, n_under_number, n_under_in, n_under_rest, n_under_if, n_under_plus, n_under_less, n_under_times, n_under_same, n_under_give, n_under_refuse, n_under_when, n_give_number, n_give_in, n_give_rest, n_give_if, n_give_plus, n_give_less, n_give_times, n_give_same, n_give_under, n_give_refuse, n_give_when, n_refuse_number, n_refuse_in, n_refuse_rest, n_refuse_if, n_refuse_plus, n_refuse_less, n_refuse_times, n_refuse_same, n_refuse_under, n_refuse_give, n_refuse_when, n_when_number, n_when_in, n_when_rest, n_when_if, n_when_plus, n_when_less, n_when_times, n_when_same, n_when_under, n_when_give, n_when_refuse, slT, fixed, lp, decide_eq_false hc, val, if_neg hc]
  | .two w a b, k, S, h, hk, h12 => by
    simp only [Ex.deep] at hk h12
    obtain ⟨k, rfl⟩ : ∃ k', k = k' + 1 := ⟨k - 1, by omega⟩
    obtain ⟨S1, i1, g1⟩ := e_lval hf a k S h.1 (by omega) (by omega)
    obtain ⟨S2, i2, g2⟩ := e_lval hf b k S1 h.2 (by omega) (by omega)
    have lp := lv_ex (x0 := some (.tup [.str w.t, a.d, b.d])) (x2 := some (.str w.t)) (x3 := none) (x4 := none) (x5 := none) i1 (show 0 < 1000 by decide) (lv_ex i2 (by decide) lc_nil)
    have p1 := pow12 (show a.deep ≤ 12 by omega)
    have p2 := pow12 (show b.deep ≤ 12 by omega)
    have ba := e_bits hf a a.deep h.1 (Nat.le_refl _)
    have bb := e_bits hf b b.deep h.2 (Nat.le_refl _)
    obtain ⟨w1, w2, w3, w4⟩ := wne w
    have k3 := fun x0 x1 x2 x4 x5 => known3 x0 x1 x2 x4 x5 ba bb (by omega) S2
    have gs : Gr S (((S2 ++ [ob3 (val fs a) (val fs b)]) ++ [ob2 (val fs a) (val fs b)]).set S2.length (ob5 (val fs a) (val fs b))) := Gr.set (((g1.trans g2).app _).app _) (g1.trans g2).1 _
    have mg := ob_merge (val fs a) (val fs b) S2
    refine ⟨_, ?_, gs⟩
    simp only [val]
    generalize val fs a = va at k3 mg lp ⊢
    generalize val fs b = vb at k3 mg lp ⊢
    have k2 := fun x0 x1 x2 x4 x5 => known2 x0 x1 x2 x4 x5 va vb (S2 ++ [ob3 va vb])
    have s3 : stlK (.own (ob3 va vb)) S2 = some (.ok (.ref S2.length) (S2 ++ [ob3 va vb])) := rfl
    have s2 : stlK (.own (ob2 va vb)) (S2 ++ [ob3 va vb]) = some (.ok (.ref (S2 ++ [ob3 va vb]).length) ((S2 ++ [ob3 va vb]) ++ [ob2 va vb])) := rfl
    have h1 : (S2 ++ [ob3 va vb])[S2.length]? = some (ob3 va vb) := by
      rw [List.getElem?_append_right (Nat.le_refl _), Nat.sub_self]; rfl
    have td := ty_dct h1
    have at5 : (((S2 ++ [ob3 va vb]) ++ [ob2 va vb]).set S2.length (ob5 va vb))[S2.length]? = some (ob5 va vb) := List.getElem?_set_self (by rw [List.length_append, List.length_append, List.length_singleton, List.length_singleton]; omega)
    have d5 := dg5 at5 w
    generalize (((S2 ++ [ob3 va vb]) ++ [ob2 va vb]).set S2.length (ob5 va vb)) = S5 at mg d5 ⊢
    generalize hS4 : ((S2 ++ [ob3 va vb]) ++ [ob2 va vb]) = S4 at mg s2 ⊢
    generalize (S2 ++ [ob3 va vb]) = S3 at mg s3 s2 k2 td ⊢
    simp only [value_eq, Ex.d, x_bnd, x_bnS, x_c, x_var, x_varK, x_stl, x_stlV, x_stlL, x_stlE, x_stlD, x_bxd, x_bxV, x_bxK, x_okv, x_okm, x_d2, x_d2K, x_d2L, x_tst, x_tstK, x_ch, x_chK, x_chL, x_chMt, x_chMf, x_chN, x_and, x_andK, x_andT, x_andF, x_or, x_orK, x_orT, x_orF, x_not, x_notK, x_notL, x_tru, x_truK, x_truL, x_band, x_bandT, x_bandF, x_bor, x_borT, x_borF, x_bnot, x_bnotK, x_dif, x_difT, x_difF, x_anil, x_acons, x_aK, x_aL, x_tup, x_tupK, x_lst, x_lstK, x_cl, x_clK, x_fn, x_fnK, x_isi, x_isiK, x_isiL, x_neg, x_negK, x_revL, x_kget, x_kgetK, x_sl, x_slK, x_slL, x_pnone, x_psome, x_psK, x_mt, x_mtK, x_mtL, x_itA, x_itAK, x_itL, x_itSeq, x_seqK, x_itStr, x_istrK, x_comp, x_compK, x_compL, x_wipe1, x_wipe2, x_seq, x_sqN, x_sqR, x_sqB, x_sqC, x_next, x_ret, x_retK, x_retN, x_asg, x_asgB, x_asgK, x_drop, x_dropK, x_if, x_ifT, x_ifF, x_for, x_forK, x_tgt, x_tgtK, x_tgtL, x_tname, x_par, x_parK, x_dput, x_dputK, x_dputK1, x_dputK2, x_dputL, x_def, x_defR, x_defN, y_add, y_sub, y_mul, y_mulX, y_mod, y_fdiv, y_lt, y_le, y_gt, y_ge, y_eqI, y_eqS, y_neI, y_neS, y_eqYI, y_eqYS, y_neYI, y_neYS, y_ixT, y_ixL, y_trB, y_k0, y_k1, y_k2, y_k3, y_k4, y_k5, y_k6, y_lenT, y_lenL, y_lenS, startE, List.map_cons, List.map_nil, List.length_cons, List.length_nil, List.replicate, List.cons_append, List.nil_append, List.append_nil, Nat.sub_self, Nat.reduceSub, Nat.reduceAdd, Nat.reduceLeDiff, Nat.reduceEqDiff, Nat.zero_add, Nat.zero_le, Nat.sub_zero, List.set_cons_zero, List.set_cons_succ, List.getElem?_cons_zero, List.getElem?_cons_succ, Bool.not_true, Bool.not_false, decide_true, decide_false, at0, at1, at2, Option.map_some, eq_self, w1, w2, w3, w4, slT, fixed, lp, k3, s3, td, k2, s2, mg, d5]
end W10
namespace W10
open Sf L2 PySem PySem.Spec PyProof.Rows
/-! bodies -/
inductive Bd where
  | refuse
  | give (es : List Ex)
  | whn (c : Ex) (a b : Bd)
def Bd.d : Bd → D
  | .refuse => .tup [.str "refuse"]
  | .give es => .tup [.str "give", .tup (es.map Ex.d)]
  | .whn c a b => .tup [.str "when", c.d, a.d, b.d]
def Bd.deep : Bd → Nat
  | .refuse => 1
  | .give _ => 1
  | .whn _ a b => max a.deep b.deep + 1
def okB (cs : List Int) (many : Nat) : Bd → Prop
  | .refuse => True
  | .give es => es.length = many ∧ ∀ e ∈ es, okE cs e ∧ e.deep ≤ 3
  | .whn c a b => (okE cs c ∧ c.deep ≤ 3) ∧ okB cs many a ∧ okB cs many b
def given (fs : List (List Int)) : Bd → Option (List Int)
  | .refuse => none
  | .give es => some (es.map (val fs))
  | .whn c a b => if val fs c = 0 then given fs b else given fs a
def gO : Option (List Int) → D
  | none => .non
  | some vs => .tup (vs.map .int)
def lgO : Option (List Int) → Out
  | none => .val .non
  | some vs => .own (.lst (vs.map .int))
section
variable {cs : List Int} {fs : List (List Int)} {many : Nat}
/-- the body behind the whens -/
def strip (fs : List (List Int)) : Bd → Bd
  | .whn c a b => if val fs c = 0 then strip fs b else strip fs a
  | b => b
def wc : Dn Bool := tst (d2 eqX (d2 ixD (dVar 0) (dC (.int 0))) (dC (.str "when")))
def ws : Sn := sAsg 0 (dIf (tst (d2 neX (dFn 2 (den_value_of 12) (aCons (d2 ixD (dVar 0) (dC (.int 1))) (aCons (dVar 1) aNil))) (dC (.int 0)))) (d2 ixD (dVar 0) (dC (.int 2))) (d2 ixD (dVar 0) (dC (.int 3))))
theorem lw_stop {c : Dn Bool} {p : Sn} {n : Nat} {ρ : En} {S S1 : Sto} (hc : c ρ S = some (.ok false S1)) : loopW c p (n + 1) ρ S = some (.nx ρ S1) := by
  simp only [loopW, hc, bnS, if_neg Bool.false_ne_true]
theorem lw_go {c : Dn Bool} {p : Sn} {n : Nat} {ρ ρ' : En} {S S1 S2 : Sto} (hc : c ρ S = some (.ok true S1)) (hp : p ρ S1 = some (.nx ρ' S2)) : loopW c p (n + 1) ρ S = loopW c p n ρ' S2 := by
  simp only [loopW, hc, bnS, hp, if_true]
theorem strip_loop (hf : okF cs fs) (x2 : Option D) (S : Sto) : ∀ (b : Bd) (n : Nat), okB cs many b → b.deep ≤ n → loopW wc ws n [some b.d, some (fD fs), x2] S = some (.nx [some (strip fs b).d, some (fD fs), x2] S)
  | .refuse, n, h, hn => by
    obtain ⟨n, rfl⟩ : ∃ k', n = k' + 1 := ⟨n - 1, by simp only [Bd.deep] at hn; omega⟩
    refine lw_stop ?_
    simp only [wc, Bd.d, x_bnd, x_bnS, x_c, x_var, x_varK, x_stl, x_stlV, x_stlL, x_stlE, x_stlD, x_bxd, x_bxV, x_bxK, x_okv, x_okm, x_d2, x_d2K, x_d2L, x_tst, x_tstK, x_ch, x_chK, x_chL, x_chMt, x_chMf, x_chN, x_and, x_andK, x_andT, x_andF, x_or, x_orK, x_orT, x_orF, x_not, x_notK, x_notL, x_tru, x_truK, x_truL, x_band, x_bandT, x_bandF, x_bor, x_borT, x_borF, x_bnot, x_bnotK, x_dif, x_difT, x_difF, x_anil, x_acons, x_aK, x_aL, x_tup, x_tupK, x_lst, x_lstK, x_cl, x_clK, x_fn, x_fnK, x_isi, x_isiK, x_isiL, x_neg, x_negK, x_revL, x_kget, x_kgetK, x_sl, x_slK, x_slL, x_pnone, x_psome, x_psK, x_mt, x_mtK, x_mtL, x_itA, x_itAK, x_itL, x_itSeq, x_seqK, x_itStr, x_istrK, x_comp, x_compK, x_compL, x_wipe1, x_wipe2, x_seq, x_sqN, x_sqR, x_sqB, x_sqC, x_next, x_ret, x_retK, x_retN, x_asg, x_asgB, x_asgK, x_drop, x_dropK, x_if, x_ifT, x_ifF, x_for, x_forK, x_tgt, x_tgtK, x_tgtL, x_tname, x_par, x_parK, x_dput, x_dputK, x_dputK1, x_dputK2, x_dputL, x_def, x_defR, x_defN, y_add, y_sub, y_mul, y_mulX, y_mod, y_fdiv, y_lt, y_le, y_gt, y_ge, y_eqI, y_eqS, y_neI, y_neS, y_eqYI, y_eqYS, y_neYI, y_neYS, y_ixT, y_ixL, y_trB, y_k0, y_k1, y_k2, y_k3, y_k4, y_k5, y_k6, y_lenT, y_lenL, y_lenS, startE, List.map_cons, List.map_nil, List.length_cons, List.length_nil, List.replicate, List.cons_append, List.nil_append, List.append_nil, Nat.sub_self, Nat.reduceSub, Nat.reduceAdd, Nat.reduceLeDiff, Nat.reduceEqDiff, Nat.zero_add, Nat.zero_le, Nat.sub_zero, List.set_cons_zero, List.set_cons_succ, List.getElem?_cons_zero, List.getElem?_cons_succ, Bool.not_true, Bool.not_false, decide_true, decide_false, at0, Option.map_some, n_number_in, n_number_rest, n_number_if, n_number_plus, n_number_less, n_number_times, n_number_same, n_number_under, n_number_give, n_number_refuse, n_number_when, n_in_number, n_in_rest, n_in_if, n_in_plus, n_in_less, n_in_times, n_in_same, n_in_under, n_in_give, n_in_refuse, n_in_when, n_rest_number, n_rest_in, n_rest_if, n_rest_plus, n_rest_less, n_rest_times, n_rest_same, n_rest_under, n_rest_give, n_rest_refuse, n_rest_when, n_if_number, n_if_in, n_if_rest, n_if_plus, n_if_less, n_if_times, n_if_same, n_if_under, n_if_give, n_if_refuse, n_if_when, n_plus_number, n_plus_in, n_plus_rest, n_plus_if, n_plus_less, n_plus_times, n_plus_same, n_plus_under, n_plus_give, n_plus_refuse, n_plus_when, n_less_number, n_less_in, n_less_rest, n_less_if, n_less_plus, n_less_times, n_less_same, n_less_under, n_less_give, n_less_refuse, n_less_when, n_times_number, n_times_in, n_times_rest, n_times_if, n_times_plus, n_times_less, n_times_same, n_times_under, n_times_give, n_times_refuse, n_times_when, n_same_number, n_same_in, n_same_rest, n_same_if, n_same_plus, n_same_less, n_same_times, n_same_under, n_same_give, n_same_refuse, n_same_when, n_under_number, n_under_in, n_under_rest, n_under_if, n_under_plus, n_under_less, n_under_times, n_under_same, n_under_give, n_under_refuse, n_under_when, n_give_number, n_give_in, n_give_rest, n_give_if, n_give_plus, n_give_less, n_give_times, n_give_same, n_give_under, n_give_refuse, n_give_when, n_refuse_number, n_refuse_in, n_refuse_rest, n_refuse_if, n_refuse_plus, n_refuse_less, n_refuse_times, n_refuse_same, n_refuse_under, n_refuse_give, n_refuse_when, n_when_number, n_when_in, n_when_rest, n_when_if, n_when_plus, n_when_less, n_when_times, n_when_same, n_when_under, n_when_give, n_when_refuse]
  | .give es, n, h, hn => by
    obtain ⟨n, rfl⟩ : ∃ k', n = k' + 1 := ⟨n - 1, by simp only [Bd.deep] at hn; omega⟩
    refine lw_stop ?_
    simp only [wc, Bd.d, x_bnd, x_bnS, x_c, x_var, x_varK, x_stl, x_stlV, x_stlL, x_stlE, x_stlD, x_bxd, x_bxV, x_bxK, x_okv, x_okm, x_d2, x_d2K, x_d2L, x_tst, x_tstK, x_ch, x_chK, x_chL, x_chMt, x_chMf, x_chN, x_and, x_andK, x_andT, x_andF, x_or, x_orK, x_orT, x_orF, x_not, x_notK, x_notL, x_tru, x_truK, x_truL, x_band, x_bandT, x_bandF, x_bor, x_borT, x_borF, x_bnot, x_bnotK, x_dif, x_difT, x_difF, x_anil, x_acons, x_aK, x_aL, x_tup, x_tupK, x_lst, x_lstK, x_cl, x_clK, x_fn, x_fnK, x_isi, x_isiK, x_isiL, x_neg, x_negK, x_revL, x_kget, x_kgetK, x_sl, x_slK, x_slL, x_pnone, x_psome, x_psK, x_mt, x_mtK, x_mtL, x_itA, x_itAK, x_itL, x_itSeq, x_seqK, x_itStr, x_istrK, x_comp, x_compK, x_compL, x_wipe1, x_wipe2, x_seq, x_sqN, x_sqR, x_sqB, x_sqC, x_next, x_ret, x_retK, x_retN, x_asg, x_asgB, x_asgK, x_drop, x_dropK, x_if, x_ifT, x_ifF, x_for, x_forK, x_tgt, x_tgtK, x_tgtL, x_tname, x_par, x_parK, x_dput, x_dputK, x_dputK1, x_dputK2, x_dputL, x_def, x_defR, x_defN, y_add, y_sub, y_mul, y_mulX, y_mod, y_fdiv, y_lt, y_le, y_gt, y_ge, y_eqI, y_eqS, y_neI, y_neS, y_eqYI, y_eqYS, y_neYI, y_neYS, y_ixT, y_ixL, y_trB, y_k0, y_k1, y_k2, y_k3, y_k4, y_k5, y_k6, y_lenT, y_lenL, y_lenS, startE, List.map_cons, List.map_nil, List.length_cons, List.length_nil, List.replicate, List.cons_append, List.nil_append, List.append_nil, Nat.sub_self, Nat.reduceSub, Nat.reduceAdd, Nat.reduceLeDiff, Nat.reduceEqDiff, Nat.zero_add, Nat.zero_le, Nat.sub_zero, List.set_cons_zero, List.set_cons_succ, List.getElem?_cons_zero, List.getElem?_cons_succ, Bool.not_true, Bool.not_false, decide_true, decide_false, at0, Option.map_some, n_number_in, n_number_rest, n_number_if, n_number_plus, n_number_less, n_number_times, n_number_same, n_number_under, n_number_give, n_number_refuse, n_number_when, n_in_number, n_in_rest, n_in_if, n_in_plus, n_in_less, n_in_times, n_in_same, n_in_under, n_in_give, n_in_refuse, n_in_when, n_rest_number, n_rest_in, n_rest_if, n_rest_plus, n_rest_less, n_rest_times, n_rest_same, n_rest_under, n_rest_give, n_rest_refuse, n_rest_when, n_if_number, n_if_in, n_if_rest, n_if_plus, n_if_less, n_if_times, n_if_same, n_if_under, n_if_give, n_if_refuse, n_if_when, n_plus_number, n_plus_in, n_plus_rest, n_plus_if, n_plus_less, n_plus_times, n_plus_same, n_plus_under, n_plus_give, n_plus_refuse, n_plus_when, n_less_number, n_less_in, n_less_rest, n_less_if, n_less_plus, n_less_times, n_less_same, n_less_under, n_less_give, n_less_refuse, n_less_when, n_times_number, n_times_in, n_times_rest, n_times_if, n_times_plus, n_times_less, n_times_same, n_times_under, n_times_give, n_times_refuse, n_times_when, n_same_number, n_same_in, n_same_rest, n_same_if, n_same_plus, n_same_less, n_same_times, n_same_under, n_same_give, n_same_refuse, n_same_when, n_under_number, n_under_in, n_under_rest, n_under_if, n_under_plus, n_under_less, n_under_times, n_under_same, n_under_give, n_under_refuse, n_under_when, n_give_number, n_give_in, n_give_rest, n_give_if, n_give_plus, n_give_less, n_give_times, n_give_same, n_give_under, n_give_refuse, n_give_when, n_refuse_number, n_refuse_in, n_refuse_rest, n_refuse_if, n_refuse_plus, n_refuse_less, n_refuse_times, n_refuse_same, n_refuse_under, n_refuse_give, n_refuse_when, n_when_number, n_when_in, n_when_rest, n_when_if, n_when_plus, n_when_less, n_when_times, n_when_same, n_when_under, n_when_give, n_when_refuse]
  | .whn c a b, n, h, hn => by
    simp only [Bd.deep] at hn
    obtain ⟨n, rfl⟩ : ∃ k', n = k' + 1 := ⟨n - 1, by omega⟩
    have v := e_val hf c 12 S h.1.1 (by have := h.1.2; omega) (by have := h.1.2; omega)
    have w : wc [some (Bd.whn c a b).d, some (fD fs), x2] S = some (.ok true S) := by
      simp only [wc, Bd.d, x_bnd, x_bnS, x_c, x_var, x_varK, x_stl, x_stlV, x_stlL, x_stlE, x_stlD, x_bxd, x_bxV, x_bxK, x_okv, x_okm, x_d2, x_d2K, x_d2L, x_tst, x_tstK, x_ch, x_chK, x_chL, x_chMt, x_chMf, x_chN, x_and, x_andK, x_andT, x_andF, x_or, x_orK, x_orT, x_orF, x_not, x_notK, x_notL, x_tru, x_truK, x_truL, x_band, x_bandT, x_bandF, x_bor, x_borT, x_borF, x_bnot, x_bnotK, x_dif, x_difT, x_difF, x_anil, x_acons, x_aK, x_aL, x_tup, x_tupK, x_lst, x_lstK, x_cl, x_clK, x_fn, x_fnK, x_isi, x_isiK, x_isiL, x_neg, x_negK, x_revL, x_kget, x_kgetK, x_sl, x_slK, x_slL, x_pnone, x_psome, x_psK, x_mt, x_mtK, x_mtL, x_itA, x_itAK, x_itL, x_itSeq, x_seqK, x_itStr, x_istrK, x_comp, x_compK, x_compL, x_wipe1, x_wipe2, x_seq, x_sqN, x_sqR, x_sqB, x_sqC, x_next, x_ret, x_retK, x_retN, x_asg, x_asgB, x_asgK, x_drop, x_dropK, x_if, x_ifT, x_ifF, x_for, x_forK, x_tgt, x_tgtK, x_tgtL, x_tname, x_par, x_parK, x_dput, x_dputK, x_dputK1, x_dputK2, x_dputL, x_def, x_defR, x_defN, y_add, y_sub, y_mul, y_mulX, y_mod, y_fdiv, y_lt, y_le, y_gt, y_ge, y_eqI, y_eqS, y_neI, y_neS, y_eqYI, y_eqYS, y_neYI, y_neYS, y_ixT, y_ixL, y_trB, y_k0, y_k1, y_k2, y_k3, y_k4, y_k5, y_k6, y_lenT, y_lenL, y_lenS, startE, List.map_cons, List.map_nil, List.length_cons, List.length_nil, List.replicate, List.cons_append, List.nil_append, List.append_nil, Nat.sub_self, Nat.reduceSub, Nat.reduceAdd, Nat.reduceLeDiff, Nat.reduceEqDiff, Nat.zero_add, Nat.zero_le, Nat.sub_zero, List.set_cons_zero, List.set_cons_succ, List.getElem?_cons_zero, List.getElem?_cons_succ, Bool.not_true, Bool.not_false, decide_true, decide_false, at0, Option.map_some, eq_self]
    by_cases hc : val fs c = 0
    · have s : ws [some (Bd.whn c a b).d, some (fD fs), x2] S = some (.nx [some b.d, some (fD fs), x2] S) := by
        simp only [ws, Bd.d, x_bnd, x_bnS, x_c, x_var, x_varK, x_stl, x_stlV, x_stlL, x_stlE, x_stlD, x_bxd, x_bxV, x_bxK, x_okv, x_okm, x_d2, x_d2K, x_d2L, x_tst, x_tstK, x_ch, x_chK, x_chL, x_chMt, x_chMf, x_chN, x_and, x_andK, x_andT, x_andF, x_or, x_orK, x_orT, x_orF, x_not, x_notK, x_notL, x_tru, x_truK, x_truL, x_band, x_bandT, x_bandF, x_bor, x_borT, x_borF, x_bnot, x_bnotK, x_dif, x_difT, x_difF, x_anil, x_acons, x_aK, x_aL, x_tup, x_tupK, x_lst, x_lstK, x_cl, x_clK, x_fn, x_fnK, x_isi, x_isiK, x_isiL, x_neg, x_negK, x_revL, x_kget, x_kgetK, x_sl, x_slK, x_slL, x_pnone, x_psome, x_psK, x_mt, x_mtK, x_mtL, x_itA, x_itAK, x_itL, x_itSeq, x_seqK, x_itStr, x_istrK, x_comp, x_compK, x_compL, x_wipe1, x_wipe2, x_seq, x_sqN, x_sqR, x_sqB, x_sqC, x_next, x_ret, x_retK, x_retN, x_asg, x_asgB, x_asgK, x_drop, x_dropK, x_if, x_ifT, x_ifF, x_for, x_forK, x_tgt, x_tgtK, x_tgtL, x_tname, x_par, x_parK, x_dput, x_dputK, x_dputK1, x_dputK2, x_dputL, x_def, x_defR, x_defN, y_add, y_sub, y_mul, y_mulX, y_mod, y_fdiv, y_lt, y_le, y_gt, y_ge, y_eqI, y_eqS, y_neI, y_neS, y_eqYI, y_eqYS, y_neYI, y_neYS, y_ixT, y_ixL, y_trB, y_k0, y_k1, y_k2, y_k3, y_k4, y_k5, y_k6, y_lenT, y_lenL, y_lenS, startE, List.map_cons, List.map_nil, List.length_cons, List.length_nil, List.replicate, List.cons_append, List.nil_append, List.append_nil, Nat.sub_self, Nat.reduceSub, Nat.reduceAdd, Nat.reduceLeDiff, Nat.reduceEqDiff, Nat.zero_add, Nat.zero_le, Nat.sub_zero, List.set_cons_zero, List.set_cons_succ, List.getElem?_cons_zero, List.getElem?_cons_succ, Bool.not_true, Bool.not_false, decide_true, decide_false, at1, at3, Option.map_some, v, decide_eq_true hc]
      rw [lw_go w s, strip_loop hf x2 S b n h.2.2 (by omega)]
      simp only [strip, if_pos hc]
    · have s : ws [some (Bd.whn c a b).d, some (fD fs), x2] S = some (.nx [some a.d, some (fD fs), x2] S) := by
        simp only [ws, Bd.d, x_bnd, x_bnS, x_c, x_var, x_varK, x_stl, x_stlV, x_stlL, x_stlE, x_stlD, x_bxd, x_bxV, x_bxK, x_okv, x_okm, x_d2, x_d2K, x_d2L, x_tst, x_tstK, x_ch, x_chK, x_chL, x_chMt, x_chMf, x_chN, x_and, x_andK, x_andT, x_andF, x_or, x_orK, x_orT, x_orF, x_not, x_notK, x_notL, x_tru, x_truK, x_truL, x_band, x_bandT, x_bandF, x_bor, x_borT, x_borF, x_bnot, x_bnotK, x_dif, x_difT, x_difF, x_anil, x_acons, x_aK, x_aL, x_tup, x_tupK, x_lst, x_lstK, x_cl, x_clK, x_fn, x_fnK, x_isi, x_isiK, x_isiL, x_neg, x_negK, x_revL, x_kget, x_kgetK, x_sl, x_slK, x_slL, x_pnone, x_psome, x_psK, x_mt, x_mtK, x_mtL, x_itA, x_itAK, x_itL, x_itSeq, x_seqK, x_itStr, x_istrK, x_comp, x_compK, x_compL, x_wipe1, x_wipe2, x_seq, x_sqN, x_sqR, x_sqB, x_sqC, x_next, x_ret, x_retK, x_retN, x_asg, x_asgB, x_asgK, x_drop, x_dropK, x_if, x_ifT, x_ifF, x_for, x_forK, x_tgt, x_tgtK, x_tgtL, x_tname, x_par, x_parK, x_dput, x_dputK, x_dputK1, x_dputK2, x_dputL, x_def, x_defR, x_defN, y_add, y_sub, y_mul, y_mulX, y_mod, y_fdiv, y_lt, y_le, y_gt, y_ge, y_eqI, y_eqS, y_neI, y_neS, y_eqYI, y_eqYS, y_neYI, y_neYS, y_ixT, y_ixL, y_trB, y_k0, y_k1, y_k2, y_k3, y_k4, y_k5, y_k6, y_lenT, y_lenL, y_lenS, startE, List.map_cons, List.map_nil, List.length_cons, List.length_nil, List.replicate, List.cons_append, List.nil_append, List.append_nil, Nat.sub_self, Nat.reduceSub, Nat.reduceAdd, Nat.reduceLeDiff, Nat.reduceEqDiff, Nat.zero_add, Nat.zero_le, Nat.sub_zero, List.set_cons_zero, List.set_cons_succ, List.getElem?_cons_zero, List.getElem?_cons_succ, Bool.not_true, Bool.not_false, decide_true, decide_false, at1, at2, Option.map_some, v, decide_eq_false hc]
      rw [lw_go w s, strip_loop hf x2 S a n h.2.1 (by omega)]
      simp only [strip, if_neg hc]
theorem strip_ok : ∀ b : Bd, okB cs many b → (strip fs b = .refuse ∧ given fs b = none) ∨ ∃ es, strip fs b = .give es ∧ given fs b = some (es.map (val fs)) ∧ es.length = many ∧ ∀ e ∈ es, okE cs e ∧ e.deep ≤ 3
  | .refuse, _ => .inl ⟨rfl, rfl⟩
  | .give es, h => .inr ⟨es, rfl, rfl, h⟩
  | .whn c a b, h => by
    simp only [strip, given]
    split
    · exact strip_ok b h.2.2
    · exact strip_ok a h.2.1
theorem gv_loop (hf : okF cs fs) (x0 x2 : Option D) : ∀ (es : List Ex) (j : Nat) (S : Sto), j + es.length ≤ 1000 → (∀ e ∈ es, okE cs e ∧ e.deep ≤ 3) →
    loopC (tName 2) bYes (dFn 2 (den_value_of 12) (aCons (dVar 2) (aCons (dVar 1) aNil))) [x0, some (fD fs), x2] (es.map Ex.d) j S = some (es.map fun e => .int (val fs e), S)
  | [], _, _, _, _ => rfl
  | e :: es, j, S, hj, h => by
    rw [List.length_cons] at hj
    have v := e_val hf e 12 S (h e List.mem_cons_self).1 (by have := (h e List.mem_cons_self).2; omega) (by have := (h e List.mem_cons_self).2; omega)
    refine lc_take (S1 := S) (S2 := S) rfl rfl ?_ (by omega) (gv_loop hf x0 x2 es (j + 1) S (by omega) fun x hx => h x (List.mem_cons_of_mem _ hx))
    simp only [x_bnd, x_bnS, x_c, x_var, x_varK, x_stl, x_stlV, x_stlL, x_stlE, x_stlD, x_bxd, x_bxV, x_bxK, x_okv, x_okm, x_d2, x_d2K, x_d2L, x_tst, x_tstK, x_ch, x_chK, x_chL, x_chMt, x_chMf, x_chN, x_and, x_andK, x_andT, x_andF, x_or, x_orK, x_orT, x_orF, x_not, x_notK, x_notL, x_tru, x_truK, x_truL, x_band, x_bandT, x_bandF, x_bor, x_borT, x_borF, x_bnot, x_bnotK, x_dif, x_difT, x_difF, x_anil, x_acons, x_aK, x_aL, x_tup, x_tupK, x_lst, x_lstK, x_cl, x_clK, x_fn, x_fnK, x_isi, x_isiK, x_isiL, x_neg, x_negK, x_revL, x_kget, x_kgetK, x_sl, x_slK, x_slL, x_pnone, x_psome, x_psK, x_mt, x_mtK, x_mtL, x_itA, x_itAK, x_itL, x_itSeq, x_seqK, x_itStr, x_istrK, x_comp, x_compK, x_compL, x_wipe1, x_wipe2, x_seq, x_sqN, x_sqR, x_sqB, x_sqC, x_next, x_ret, x_retK, x_retN, x_asg, x_asgB, x_asgK, x_drop, x_dropK, x_if, x_ifT, x_ifF, x_for, x_forK, x_tgt, x_tgtK, x_tgtL, x_tname, x_par, x_parK, x_dput, x_dputK, x_dputK1, x_dputK2, x_dputL, x_def, x_defR, x_defN, y_add, y_sub, y_mul, y_mulX, y_mod, y_fdiv, y_lt, y_le, y_gt, y_ge, y_eqI, y_eqS, y_neI, y_neS, y_eqYI, y_eqYS, y_neYI, y_neYS, y_ixT, y_ixL, y_trB, y_k0, y_k1, y_k2, y_k3, y_k4, y_k5, y_k6, y_lenT, y_lenL, y_lenS, startE, List.map_cons, List.map_nil, List.length_cons, List.length_nil, List.replicate, List.cons_append, List.nil_append, List.append_nil, Nat.sub_self, Nat.reduceSub, Nat.reduceAdd, Nat.reduceLeDiff, Nat.reduceEqDiff, Nat.zero_add, Nat.zero_le, Nat.sub_zero, List.set_cons_zero, List.set_cons_succ, List.getElem?_cons_zero, List.getElem?_cons_succ, Bool.not_true, Bool.not_false, decide_true, decide_false, v]
theorem map_vals (es : List Ex) : (es.map fun e => D.int (val fs e)) = (es.map (val fs)).map .int := by rw [List.map_map]; rfl
theorem y_tupL (S : Sto) (ds : List D) : tupleD S [.lst ds] = some (.val (.tup ds)) := rfl
theorem given_eq : den_given_by = defD 3 (sSeq (loopW wc ws 10) (sRet (dIf (tst (d2 eqX (d2 ixD (dVar 0) (dC (.int 0))) (dC (.str "give")))) (dCl tupleD (aCons (dComp (itSeq (d2 ixD (dVar 0) (dC (.int 1)))) (tName 2) bYes (dFn 2 (den_value_of 12) (aCons (dVar 2) (aCons (dVar 1) aNil))) [2]) aNil)) (dC .non)))) := rfl
theorem e_given (hf : okF cs fs) (b : Bd) (S : Sto) (h : okB cs many b) (hd : b.deep ≤ 10) (hm : many ≤ 100) : den_given_by [b.d, fD fs] S = some (.ok (.val (gO (given fs b))) S) := by
  have lp := strip_loop hf none S b 10 h hd
  rcases strip_ok (fs := fs) b h with ⟨e1, e2⟩ | ⟨es, e1, e2, e3, e4⟩
  · rw [e1] at lp
    simp only [given_eq, x_bnd, x_bnS, x_c, x_var, x_varK, x_stl, x_stlV, x_stlL, x_stlE, x_stlD, x_bxd, x_bxV, x_bxK, x_okv, x_okm, x_d2, x_d2K, x_d2L, x_tst, x_tstK, x_ch, x_chK, x_chL, x_chMt, x_chMf, x_chN, x_and, x_andK, x_andT, x_andF, x_or, x_orK, x_orT, x_orF, x_not, x_notK, x_notL, x_tru, x_truK, x_truL, x_band, x_bandT, x_bandF, x_bor, x_borT, x_borF, x_bnot, x_bnotK, x_dif, x_difT, x_difF, x_anil, x_acons, x_aK, x_aL, x_tup, x_tupK, x_lst, x_lstK, x_cl, x_clK, x_fn, x_fnK, x_isi, x_isiK, x_isiL, x_neg, x_negK, x_revL, x_kget, x_kgetK, x_sl, x_slK, x_slL, x_pnone, x_psome, x_psK, x_mt, x_mtK, x_mtL, x_itA, x_itAK, x_itL, x_itSeq, x_seqK, x_itStr, x_istrK, x_comp, x_compK, x_compL, x_wipe1, x_wipe2, x_seq, x_sqN, x_sqR, x_sqB, x_sqC, x_next, x_ret, x_retK, x_retN, x_asg, x_asgB, x_asgK, x_drop, x_dropK, x_if, x_ifT, x_ifF, x_for, x_forK, x_tgt, x_tgtK, x_tgtL, x_tname, x_par, x_parK, x_dput, x_dputK, x_dputK1, x_dputK2, x_dputL, x_def, x_defR, x_defN, y_add, y_sub, y_mul, y_mulX, y_mod, y_fdiv, y_lt, y_le, y_gt, y_ge, y_eqI, y_eqS, y_neI, y_neS, y_eqYI, y_eqYS, y_neYI, y_neYS, y_ixT, y_ixL, y_trB, y_k0, y_k1, y_k2, y_k3, y_k4, y_k5, y_k6, y_lenT, y_lenL, y_lenS, startE, List.map_cons, List.map_nil, List.length_cons, List.length_nil, List.replicate, List.cons_append, List.nil_append, List.append_nil, Nat.sub_self, Nat.reduceSub, Nat.reduceAdd, Nat.reduceLeDiff, Nat.reduceEqDiff, Nat.zero_add, Nat.zero_le, Nat.sub_zero, List.set_cons_zero, List.set_cons_succ, List.getElem?_cons_zero, List.getElem?_cons_succ, Bool.not_true, Bool.not_false, decide_true, decide_false, lp, Bd.d, at0, Option.map_some, n_number_in, n_number_rest, n_number_if, n_number_plus, n_number_less, n_number_times, n_number_same, n_number_under, n_number_give, n_number_refuse, n_number_when, n_in_number, n_in_rest, n_in_if, n_in_plus, n_in_less, n_in_times, n_in_same, n_in_under, n_in_give, n_in_refuse, n_in_when, n_rest_number, n_rest_in, n_rest_if, n_rest_plus, n_rest_less, n_rest_times, n_rest_same, n_rest_under, n_rest_give, n_rest_refuse, n_rest_when, n_if_number, n_if_in, n_if_rest, n_if_plus, n_if_less, n_if_times, n_if_same, n_if_under, n_if_give, n_if_refuse, n_if_when, n_plus_number, n_plus_in, n_plus_rest, n_plus_if, n_plus_less, n_plus_times, n_plus_same, n_plus_under, n_plus_give, n_plus_refuse, n_plus_when, n_less_number, n_less_in, n_less_rest, n_less_if, n_less_plus, n_less_times, n_less_same, n_less_under, n_less_give, n_less_refuse, n_less_when, n_times_number, n_times_in, n_times_rest, n_times_if, n_times_plus, n_times_less, n_times_same, n_times_under, n_times_give, n_times_refuse, n_times_when, n_same_number, n_same_in, n_same_rest, n_same_if, n_same_plus, n_same_less, n_same_times, n_same_under, n_same_give, n_same_refuse, n_same_when, n_under_number, n_under_in, n_under_rest, n_under_if, n_under_plus, n_under_less, n_under_times, n_under_same, n_under_give, n_under_refuse, n_under_when, n_give_number, n_give_in, n_give_rest, n_give_if, n_give_plus, n_give_less, n_give_times, n_give_same, n_give_under, n_give_refuse, n_give_when, n_refuse_number, n_refuse_in, n_refuse_rest, n_refuse_if, n_refuse_plus, n_refuse_less, n_refuse_times, n_refuse_same, n_refuse_under, n_refuse_give, n_refuse_when, n_when_number, n_when_in, n_when_rest, n_when_if, n_when_plus, n_when_less, n_when_times, n_when_same, n_when_under, n_when_give, n_when_refuse, e2, gO]
  · rw [e1] at lp
    have gl := gv_loop hf (some (Bd.give es).d) none es 0 S (by omega) e4
    simp only [Bd.d] at gl
    simp only [given_eq, x_bnd, x_bnS, x_c, x_var, x_varK, x_stl, x_stlV, x_stlL, x_stlE, x_stlD, x_bxd, x_bxV, x_bxK, x_okv, x_okm, x_d2, x_d2K, x_d2L, x_tst, x_tstK, x_ch, x_chK, x_chL, x_chMt, x_chMf, x_chN, x_and, x_andK, x_andT, x_andF, x_or, x_orK, x_orT, x_orF, x_not, x_notK, x_notL, x_tru, x_truK, x_truL, x_band, x_bandT, x_bandF, x_bor, x_borT, x_borF, x_bnot, x_bnotK, x_dif, x_difT, x_difF, x_anil, x_acons, x_aK, x_aL, x_tup, x_tupK, x_lst, x_lstK, x_cl, x_clK, x_fn, x_fnK, x_isi, x_isiK, x_isiL, x_neg, x_negK, x_revL, x_kget, x_kgetK, x_sl, x_slK, x_slL, x_pnone, x_psome, x_psK, x_mt, x_mtK, x_mtL, x_itA, x_itAK, x_itL, x_itSeq, x_seqK, x_itStr, x_istrK, x_comp, x_compK, x_compL, x_wipe1, x_wipe2, x_seq, x_sqN, x_sqR, x_sqB, x_sqC, x_next, x_ret, x_retK, x_retN, x_asg, x_asgB, x_asgK, x_drop, x_dropK, x_if, x_ifT, x_ifF, x_for, x_forK, x_tgt, x_tgtK, x_tgtL, x_tname, x_par, x_parK, x_dput, x_dputK, x_dputK1, x_dputK2, x_dputL, x_def, x_defR, x_defN, y_add, y_sub, y_mul, y_mulX, y_mod, y_fdiv, y_lt, y_le, y_gt, y_ge, y_eqI, y_eqS, y_neI, y_neS, y_eqYI, y_eqYS, y_neYI, y_neYS, y_ixT, y_ixL, y_trB, y_k0, y_k1, y_k2, y_k3, y_k4, y_k5, y_k6, y_lenT, y_lenL, y_lenS, startE, List.map_cons, List.map_nil, List.length_cons, List.length_nil, List.replicate, List.cons_append, List.nil_append, List.append_nil, Nat.sub_self, Nat.reduceSub, Nat.reduceAdd, Nat.reduceLeDiff, Nat.reduceEqDiff, Nat.zero_add, Nat.zero_le, Nat.sub_zero, List.set_cons_zero, List.set_cons_succ, List.getElem?_cons_zero, List.getElem?_cons_succ, Bool.not_true, Bool.not_false, decide_true, decide_false, lp, Bd.d, at0, at1, Option.map_some, n_number_in, n_number_rest, n_number_if, n_number_plus, n_number_less, n_number_times, n_number_same, n_number_under, n_number_give, n_number_refuse, n_number_when, n_in_number, n_in_rest, n_in_if, n_in_plus, n_in_less, n_in_times, n_in_same, n_in_under, n_in_give, n_in_refuse, n_in_when, n_rest_number, n_rest_in, n_rest_if, n_rest_plus, n_rest_less, n_rest_times, n_rest_same, n_rest_under, n_rest_give, n_rest_refuse, n_rest_when, n_if_number, n_if_in, n_if_rest, n_if_plus, n_if_less, n_if_times, n_if_same, n_if_under, n_if_give, n_if_refuse, n_if_when, n_plus_number, n_plus_in, n_plus_rest, n_plus_if, n_plus_less, n_plus_times, n_plus_same, n_plus_under, n_plus_give, n_plus_refuse, n_plus_when, n_less_number, n_less_in, n_less_rest, n_less_if, n_less_plus, n_less_times, n_less_same, n_less_under, n_less_give, n_less_refuse, n_less_when, n_times_number, n_times_in, n_times_rest, n_times_if, n_times_plus, n_times_less, n_times_same, n_times_under, n_times_give, n_times_refuse, n_times_when, n_same_number, n_same_in, n_same_rest, n_same_if, n_same_plus, n_same_less, n_same_times, n_same_under, n_same_give, n_same_refuse, n_same_when, n_under_number, n_under_in, n_under_rest, n_under_if, n_under_plus, n_under_less, n_under_times, n_under_same, n_under_give, n_under_refuse, n_under_when, n_give_number, n_give_in, n_give_rest, n_give_if, n_give_plus, n_give_less, n_give_times, n_give_same, n_give_under, n_give_refuse, n_give_when, n_refuse_number, n_refuse_in, n_refuse_rest, n_refuse_if, n_refuse_plus, n_refuse_less, n_refuse_times, n_refuse_same, n_refuse_under, n_refuse_give, n_refuse_when, n_when_number, n_when_in, n_when_rest, n_when_if, n_when_plus, n_when_less, n_when_times, n_when_same, n_when_under, n_when_give, n_when_refuse, eq_self, fixed, gl, y_tupL, e2, gO, map_vals]
theorem lg_loop (hf : okF cs fs) (x0 x2 : Option D) : ∀ (es : List Ex) (j : Nat) (S : Sto), j + es.length ≤ 1000 → (∀ e ∈ es, okE cs e ∧ e.deep ≤ 3) →
    ∃ S', loopC (tName 2) bYes (dFn 2 (den_law_value 12) (aCons (dVar 2) (aCons (dVar 1) aNil))) [x0, some (fD fs), x2] (es.map Ex.d) j S = some (es.map fun e => .int (val fs e), S') ∧ Gr S S'
  | [], _, S, _, _ => ⟨S, rfl, Gr.refl S⟩
  | e :: es, j, S, hj, h => by
    rw [List.length_cons] at hj
    obtain ⟨S1, v, g1⟩ := e_lval hf e 12 S (h e List.mem_cons_self).1 (by have := (h e List.mem_cons_self).2; omega) (by have := (h e List.mem_cons_self).2; omega)
    obtain ⟨S2, lp, g2⟩ := lg_loop hf x0 x2 es (j + 1) S1 (by omega) fun x hx => h x (List.mem_cons_of_mem _ hx)
    refine ⟨S2, lc_take (S1 := S) (S2 := S1) rfl rfl ?_ (by omega) lp, g1.trans g2⟩
    simp only [x_bnd, x_bnS, x_c, x_var, x_varK, x_stl, x_stlV, x_stlL, x_stlE, x_stlD, x_bxd, x_bxV, x_bxK, x_okv, x_okm, x_d2, x_d2K, x_d2L, x_tst, x_tstK, x_ch, x_chK, x_chL, x_chMt, x_chMf, x_chN, x_and, x_andK, x_andT, x_andF, x_or, x_orK, x_orT, x_orF, x_not, x_notK, x_notL, x_tru, x_truK, x_truL, x_band, x_bandT, x_bandF, x_bor, x_borT, x_borF, x_bnot, x_bnotK, x_dif, x_difT, x_difF, x_anil, x_acons, x_aK, x_aL, x_tup, x_tupK, x_lst, x_lstK, x_cl, x_clK, x_fn, x_fnK, x_isi, x_isiK, x_isiL, x_neg, x_negK, x_revL, x_kget, x_kgetK, x_sl, x_slK, x_slL, x_pnone, x_psome, x_psK, x_mt, x_mtK, x_mtL, x_itA, x_itAK, x_itL, x_itSeq, x_seqK, x_itStr, x_istrK, x_comp, x_compK, x_compL, x_wipe1, x_wipe2, x_seq, x_sqN, x_sqR, x_sqB, x_sqC, x_next, x_ret, x_retK, x_retN, x_asg, x_asgB, x_asgK, x_drop, x_dropK, x_if, x_ifT, x_ifF, x_for, x_forK, x_tgt, x_tgtK, x_tgtL, x_tname, x_par, x_parK, x_dput, x_dputK, x_dputK1, x_dputK2, x_dputL, x_def, x_defR, x_defN, y_add, y_sub, y_mul, y_mulX, y_mod, y_fdiv, y_lt, y_le, y_gt, y_ge, y_eqI, y_eqS, y_neI, y_neS, y_eqYI, y_eqYS, y_neYI, y_neYS, y_ixT, y_ixL, y_trB, y_k0, y_k1, y_k2, y_k3, y_k4, y_k5, y_k6, y_lenT, y_lenL, y_lenS, startE, List.map_cons, List.map_nil, List.length_cons, List.length_nil, List.replicate, List.cons_append, List.nil_append, List.append_nil, Nat.sub_self, Nat.reduceSub, Nat.reduceAdd, Nat.reduceLeDiff, Nat.reduceEqDiff, Nat.zero_add, Nat.zero_le, Nat.sub_zero, List.set_cons_zero, List.set_cons_succ, List.getElem?_cons_zero, List.getElem?_cons_succ, Bool.not_true, Bool.not_false, decide_true, decide_false, v]
theorem e_lgiven (hf : okF cs fs) (hm : many ≤ 100) : ∀ (b : Bd) (k : Nat) (S : Sto), okB cs many b → b.deep ≤ k → ∃ S', den_law_given k [b.d, fD fs] S = some (.ok (lgO (given fs b)) S') ∧ Gr S S'
  | .refuse, k, S, h, hk => by
    obtain ⟨k, rfl⟩ : ∃ k', k = k' + 1 := ⟨k - 1, by simp only [Bd.deep] at hk; omega⟩
    refine ⟨S, ?_, Gr.refl S⟩
    simp only [den_law_given, Bd.d, x_bnd, x_bnS, x_c, x_var, x_varK, x_stl, x_stlV, x_stlL, x_stlE, x_stlD, x_bxd, x_bxV, x_bxK, x_okv, x_okm, x_d2, x_d2K, x_d2L, x_tst, x_tstK, x_ch, x_chK, x_chL, x_chMt, x_chMf, x_chN, x_and, x_andK, x_andT, x_andF, x_or, x_orK, x_orT, x_orF, x_not, x_notK, x_notL, x_tru, x_truK, x_truL, x_band, x_bandT, x_bandF, x_bor, x_borT, x_borF, x_bnot, x_bnotK, x_dif, x_difT, x_difF, x_anil, x_acons, x_aK, x_aL, x_tup, x_tupK, x_lst, x_lstK, x_cl, x_clK, x_fn, x_fnK, x_isi, x_isiK, x_isiL, x_neg, x_negK, x_revL, x_kget, x_kgetK, x_sl, x_slK, x_slL, x_pnone, x_psome, x_psK, x_mt, x_mtK, x_mtL, x_itA, x_itAK, x_itL, x_itSeq, x_seqK, x_itStr, x_istrK, x_comp, x_compK, x_compL, x_wipe1, x_wipe2, x_seq, x_sqN, x_sqR, x_sqB, x_sqC, x_next, x_ret, x_retK, x_retN, x_asg, x_asgB, x_asgK, x_drop, x_dropK, x_if, x_ifT, x_ifF, x_for, x_forK, x_tgt, x_tgtK, x_tgtL, x_tname, x_par, x_parK, x_dput, x_dputK, x_dputK1, x_dputK2, x_dputL, x_def, x_defR, x_defN, y_add, y_sub, y_mul, y_mulX, y_mod, y_fdiv, y_lt, y_le, y_gt, y_ge, y_eqI, y_eqS, y_neI, y_neS, y_eqYI, y_eqYS, y_neYI, y_neYS, y_ixT, y_ixL, y_trB, y_k0, y_k1, y_k2, y_k3, y_k4, y_k5, y_k6, y_lenT, y_lenL, y_lenS, startE, List.map_cons, List.map_nil, List.length_cons, List.length_nil, List.replicate, List.cons_append, List.nil_append, List.append_nil, Nat.sub_self, Nat.reduceSub, Nat.reduceAdd, Nat.reduceLeDiff, Nat.reduceEqDiff, Nat.zero_add, Nat.zero_le, Nat.sub_zero, List.set_cons_zero, List.set_cons_succ, List.getElem?_cons_zero, List.getElem?_cons_succ, Bool.not_true, Bool.not_false, decide_true, decide_false, at0, Option.map_some, n_number_in, n_number_rest, n_number_if, n_number_plus, n_number_less, n_number_times, n_number_same, n_number_under, n_number_give, n_number_refuse, n_number_when, n_in_number, n_in_rest, n_in_if, n_in_plus, n_in_less, n_in_times, n_in_same, n_in_under, n_in_give, n_in_refuse, n_in_when, n_rest_number, n_rest_in, n_rest_if, n_rest_plus, n_rest_less, n_rest_times, n_rest_same, n_rest_under, n_rest_give, n_rest_refuse, n_rest_when, n_if_number, n_if_in, n_if_rest, n_if_plus, n_if_less, n_if_times, n_if_same, n_if_under, n_if_give, n_if_refuse, n_if_when, n_plus_number, n_plus_in, n_plus_rest, n_plus_if, n_plus_less, n_plus_times, n_plus_same, n_plus_under, n_plus_give, n_plus_refuse, n_plus_when, n_less_number, n_less_in, n_less_rest, n_less_if, n_less_plus, n_less_times, n_less_same, n_less_under, n_less_give, n_less_refuse, n_less_when, n_times_number, n_times_in, n_times_rest, n_times_if, n_times_plus, n_times_less, n_times_same, n_times_under, n_times_give, n_times_refuse, n_times_when, n_same_number, n_same_in, n_same_rest, n_same_if, n_same_plus, n_same_less, n_same_times, n_same_under, n_same_give, n_same_refuse, n_same_when, n_under_number, n_under_in, n_under_rest, n_under_if, n_under_plus, n_under_less, n_under_times, n_under_same, n_under_give, n_under_refuse, n_under_when, n_give_number, n_give_in, n_give_rest, n_give_if, n_give_plus, n_give_less, n_give_times, n_give_same, n_give_under, n_give_refuse, n_give_when, n_refuse_number, n_refuse_in, n_refuse_rest, n_refuse_if, n_refuse_plus, n_refuse_less, n_refuse_times, n_refuse_same, n_refuse_under, n_refuse_give, n_refuse_when, n_when_number, n_when_in, n_when_rest, n_when_if, n_when_plus, n_when_less, n_when_times, n_when_same, n_when_under, n_when_give, n_when_refuse, eq_self, given, lgO]
  | .give es, k, S, h, hk => by
    obtain ⟨k, rfl⟩ : ∃ k', k = k' + 1 := ⟨k - 1, by simp only [Bd.deep] at hk; omega⟩
    obtain ⟨S1, lp, g1⟩ := lg_loop hf (some (Bd.give es).d) none es 0 S (by have := h.1; omega) h.2
    refine ⟨S1, ?_, g1⟩
    simp only [Bd.d] at lp
    simp only [den_law_given, Bd.d, x_bnd, x_bnS, x_c, x_var, x_varK, x_stl, x_stlV, x_stlL, x_stlE, x_stlD, x_bxd, x_bxV, x_bxK, x_okv, x_okm, x_d2, x_d2K, x_d2L, x_tst, x_tstK, x_ch, x_chK, x_chL, x_chMt, x_chMf, x_chN, x_and, x_andK, x_andT, x_andF, x_or, x_orK, x_orT, x_orF, x_not, x_notK, x_notL, x_tru, x_truK, x_truL, x_band, x_bandT, x_bandF, x_bor, x_borT, x_borF, x_bnot, x_bnotK, x_dif, x_difT, x_difF, x_anil, x_acons, x_aK, x_aL, x_tup, x_tupK, x_lst, x_lstK, x_cl, x_clK, x_fn, x_fnK, x_isi, x_isiK, x_isiL, x_neg, x_negK, x_revL, x_kget, x_kgetK, x_sl, x_slK, x_slL, x_pnone, x_psome, x_psK, x_mt, x_mtK, x_mtL, x_itA, x_itAK, x_itL, x_itSeq, x_seqK, x_itStr, x_istrK, x_comp, x_compK, x_compL, x_wipe1, x_wipe2, x_seq, x_sqN, x_sqR, x_sqB, x_sqC, x_next, x_ret, x_retK, x_retN, x_asg, x_asgB, x_asgK, x_drop, x_dropK, x_if, x_ifT, x_ifF, x_for, x_forK, x_tgt, x_tgtK, x_tgtL, x_tname, x_par, x_parK, x_dput, x_dputK, x_dputK1, x_dputK2, x_dputL, x_def, x_defR, x_defN, y_add, y_sub, y_mul, y_mulX, y_mod, y_fdiv, y_lt, y_le, y_gt, y_ge, y_eqI, y_eqS, y_neI, y_neS, y_eqYI, y_eqYS, y_neYI, y_neYS, y_ixT, y_ixL, y_trB, y_k0, y_k1, y_k2, y_k3, y_k4, y_k5, y_k6, y_lenT, y_lenL, y_lenS, startE, List.map_cons, List.map_nil, List.length_cons, List.length_nil, List.replicate, List.cons_append, List.nil_append, List.append_nil, Nat.sub_self, Nat.reduceSub, Nat.reduceAdd, Nat.reduceLeDiff, Nat.reduceEqDiff, Nat.zero_add, Nat.zero_le, Nat.sub_zero, List.set_cons_zero, List.set_cons_succ, List.getElem?_cons_zero, List.getElem?_cons_succ, Bool.not_true, Bool.not_false, decide_true, decide_false, at0, at1, Option.map_some, n_number_in, n_number_rest, n_number_if, n_number_plus, n_number_less, n_number_times, n_number_same, n_number_under, n_number_give, n_number_refuse, n_number_when, n_in_number, n_in_rest, n_in_if, n_in_plus, n_in_less, n_in_times, n_in_same, n_in_under, n_in_give, n_in_refuse, n_in_when, n_rest_number, n_rest_in, n_rest_if, n_rest_plus, n_rest_less, n_rest_times, n_rest_same, n_rest_under, n_rest_give, n_rest_refuse, n_rest_when, n_if_number, n_if_in, n_if_rest, n_if_plus, n_if_less, n_if_times, n_if_same, n_if_under, n_if_give, n_if_refuse, n_if_when, n_plus_number, n_plus_in, n_plus_rest, n_plus_if, n_plus_less, n_plus_times, n_plus_same, n_plus_under, n_plus_give, n_plus_refuse, n_plus_when, n_less_number, n_less_in, n_less_rest, n_less_if, n_less_plus, n_less_times, n_less_same, n_less_under, n_less_give, n_less_refuse, n_less_when, n_times_number, n_times_in, n_times_rest, n_times_if, n_times_plus, n_times_less, n_times_same, n_times_under, n_times_give, n_times_refuse, n_times_when, n_same_number, n_same_in, n_same_rest, n_same_if, n_same_plus, n_same_less, n_same_times, n_same_under, n_same_give, n_same_refuse, n_same_when, n_under_number, n_under_in, n_under_rest, n_under_if, n_under_plus, n_under_less, n_under_times, n_under_same, n_under_give, n_under_refuse, n_under_when, n_give_number, n_give_in, n_give_rest, n_give_if, n_give_plus, n_give_less, n_give_times, n_give_same, n_give_under, n_give_refuse, n_give_when, n_refuse_number, n_refuse_in, n_refuse_rest, n_refuse_if, n_refuse_plus, n_refuse_less, n_refuse_times, n_refuse_same, n_refuse_under, n_refuse_give, n_refuse_when, n_when_number, n_when_in, n_when_rest, n_when_if, n_when_plus, n_when_less, n_when_times, n_when_same, n_when_under, n_when_give, n_when_refuse, eq_self, fixed, lp, given, lgO, map_vals]
  | .whn c a b, k, S, h, hk => by
    simp only [Bd.deep] at hk
    obtain ⟨k, rfl⟩ : ∃ k', k = k' + 1 := ⟨k - 1, by omega⟩
    obtain ⟨S1, v, g1⟩ := e_lval hf c 12 S h.1.1 (by have := h.1.2; omega) (by have := h.1.2; omega)
    by_cases hc : val fs c = 0
    · obtain ⟨S2, ih, g2⟩ := e_lgiven hf hm b k S1 h.2.2 (by omega)
      refine ⟨S2, ?_, g1.trans g2⟩
      simp only [den_law_given, Bd.d, x_bnd, x_bnS, x_c, x_var, x_varK, x_stl, x_stlV, x_stlL, x_stlE, x_stlD, x_bxd, x_bxV, x_bxK, x_okv, x_okm, x_d2, x_d2K, x_d2L, x_tst, x_tstK, x_ch, x_chK, x_chL, x_chMt, x_chMf, x_chN, x_and, x_andK, x_andT, x_andF, x_or, x_orK, x_orT, x_orF, x_not, x_notK, x_notL, x_tru, x_truK, x_truL, x_band, x_bandT, x_bandF, x_bor, x_borT, x_borF, x_bnot, x_bnotK, x_dif, x_difT, x_difF, x_anil, x_acons, x_aK, x_aL, x_tup, x_tupK, x_lst, x_lstK, x_cl, x_clK, x_fn, x_fnK, x_isi, x_isiK, x_isiL, x_neg, x_negK, x_revL, x_kget, x_kgetK, x_sl, x_slK, x_slL, x_pnone, x_psome, x_psK, x_mt, x_mtK, x_mtL, x_itA, x_itAK, x_itL, x_itSeq, x_seqK, x_itStr, x_istrK, x_comp, x_compK, x_compL, x_wipe1, x_wipe2, x_seq, x_sqN, x_sqR, x_sqB, x_sqC, x_next, x_ret, x_retK, x_retN, x_asg, x_asgB, x_asgK, x_drop, x_dropK, x_if, x_ifT, x_ifF, x_for, x_forK, x_tgt, x_tgtK, x_tgtL, x_tname, x_par, x_parK, x_dput, x_dputK, x_dputK1, x_dputK2, x_dputL, x_def, x_defR, x_defN, y_add, y_sub, y_mul, y_mulX, y_mod, y_fdiv, y_lt, y_le, y_gt, y_ge, y_eqI, y_eqS, y_neI, y_neS, y_eqYI, y_eqYS, y_neYI, y_neYS, y_ixT, y_ixL, y_trB, y_k0, y_k1, y_k2, y_k3, y_k4, y_k5, y_k6, y_lenT, y_lenL, y_lenS, startE, List.map_cons, List.map_nil, List.length_cons, List.length_nil, List.replicate, List.cons_append, List.nil_append, List.append_nil, Nat.sub_self, Nat.reduceSub, Nat.reduceAdd, Nat.reduceLeDiff, Nat.reduceEqDiff, Nat.zero_add, Nat.zero_le, Nat.sub_zero, List.set_cons_zero, List.set_cons_succ, List.getElem?_cons_zero, List.getElem?_cons_succ, Bool.not_true, Bool.not_false, decide_true, decide_false, at0, at1, at3, Option.map_some, n_number_in, n_number_rest, n_number_if, n_number_plus, n_number_less, n_number_times, n_number_same, n_number_under, n_number_give, n_number_refuse, n_number_when, n_in_number, n_in_rest, n_in_if, n_in_plus, n_in_less, n_in_times, n_in_same, n_in_under, n_in_give, n_in_refuse, n_in_when, n_rest_number, n_rest_in, n_rest_if, n_rest_plus, n_rest_less, n_rest_times, n_rest_same, n_rest_under, n_rest_give, n_rest_refuse, n_rest_when, n_if_number, n_if_in, n_if_rest, n_if_plus, n_if_less, n_if_times, n_if_same, n_if_under, n_if_give, n_if_refuse, n_if_when, n_plus_number, n_plus_in, n_plus_rest, n_plus_if, n_plus_less, n_plus_times, n_plus_same, n_plus_under, n_plus_give, n_plus_refuse, n_plus_when, n_less_number, n_less_in, n_less_rest, n_less_if, n_less_plus, n_less_times, n_less_same, n_less_under, n_less_give, n_less_refuse, n_less_when, n_times_number, n_times_in, n_times_rest, n_times_if, n_times_plus, n_times_less, n_times_same, n_times_under, n_times_give, n_times_refuse, n_times_when, n_same_number, n_same_in, n_same_rest, n_same_if, n_same_plus, n_same_less, n_same_times, n_same_under, n_same_give, n_same_refuse, n_same_when, n_under_number, n_under_in, n_under_rest, n_under_if, n_under_plus, n_under_less, n_under_times, n_under_same, n_under_give, n_under_refuse, n_under_when, n_give_number, n_give_in, n_give_rest, n_give_if, n_give_plus, n_give_less, n_give_times, n_give_same, n_give_under, n_give_refuse, n_give_when, n_refuse_number, n_refuse_in, n_refuse_rest, n_refuse_if, n_refuse_plus, n_refuse_less, n_refuse_times, n_refuse_same, n_refuse_under, n_refuse_give, n_refuse_when, n_when_number, n_when_in, n_when_rest, n_when_if, n_when_plus, n_when_less, n_when_times, n_when_same, n_when_under, n_when_give, n_when_refuse, eq_self, v, decide_eq_true hc, ih, given, if_pos hc]
    · obtain ⟨S2, ih, g2⟩ := e_lgiven hf hm a k S1 h.2.1 (by omega)
      refine ⟨S2, ?_, g1.trans g2⟩
      simp only [den_law_given, Bd.d, x_bnd, x_bnS, x_c, x_var, x_varK, x_stl, x_stlV, x_stlL, x_stlE, x_stlD, x_bxd, x_bxV, x_bxK, x_okv, x_okm, x_d2, x_d2K, x_d2L, x_tst, x_tstK, x_ch, x_chK, x_chL, x_chMt, x_chMf, x_chN, x_and, x_andK, x_andT, x_andF, x_or, x_orK, x_orT, x_orF, x_not, x_notK, x_notL, x_tru, x_truK, x_truL, x_band, x_bandT, x_bandF, x_bor, x_borT, x_borF, x_bnot, x_bnotK, x_dif, x_difT, x_difF, x_anil, x_acons, x_aK, x_aL, x_tup, x_tupK, x_lst, x_lstK, x_cl, x_clK, x_fn, x_fnK, x_isi, x_isiK, x_isiL, x_neg, x_negK, x_revL, x_kget, x_kgetK, x_sl, x_slK, x_slL, x_pnone, x_psome, x_psK, x_mt, x_mtK, x_mtL, x_itA, x_itAK, x_itL, x_itSeq, x_seqK, x_itStr, x_istrK, x_comp, x_compK, x_compL, x_wipe1, x_wipe2, x_seq, x_sqN, x_sqR, x_sqB, x_sqC, x_next, x_ret, x_retK, x_retN, x_asg, x_asgB, x_asgK, x_drop, x_dropK, x_if, x_ifT, x_ifF, x_for, x_forK, x_tgt, x_tgtK, x_tgtL, x_tname, x_par, x_parK, x_dput, x_dputK, x_dputK1, x_dputK2, x_dputL, x_def, x_defR, x_defN, y_add, y_sub, y_mul, y_mulX, y_mod, y_fdiv, y_lt, y_le, y_gt, y_ge, y_eqI, y_eqS, y_neI, y_neS, y_eqYI, y_eqYS, y_neYI, y_neYS, y_ixT, y_ixL, y_trB, y_k0, y_k1, y_k2, y_k3, y_k4, y_k5, y_k6, y_lenT, y_lenL, y_lenS, startE, List.map_cons, List.map_nil, List.length_cons, List.length_nil, List.replicate, List.cons_append, List.nil_append, List.append_nil, Nat.sub_self, Nat.reduceSub, Nat.reduceAdd, Nat.reduceLeDiff, Nat.reduceEqDiff, Nat.zero_add, Nat.zero_le, Nat.sub_zero, List.set_cons_zero, List.set_cons_succ, List.getElem?_cons_zero, List.getElem?_cons_succ, Bool.not_true, Bool.not_false, decide_true, decide_false, at0, at1, at2, Option.map_some, n_number_in, n_number_rest, n_number_if, n_number_plus, n_number_less, n_number_times, n_number_same, n_number_under, n_number_give, n_number_refuse, n_number_when, n_in_number, n_in_rest, n_in_if, n_in_plus, n_in_less, n_in_times, n_in_same, n_in_under, n_in_give, n_in_refuse, n_in_when, n_rest_number, n_rest_in, n_rest_if, n_rest_plus, n_rest_less, n_rest_times, n_rest_same, n_rest_under, n_rest_give, n_rest_refuse, n_rest_when, n_if_number, n_if_in, n_if_rest, n_if_plus, n_if_less, n_if_times, n_if_same, n_if_under, n_if_give, n_if_refuse, n_if_when, n_plus_number, n_plus_in, n_plus_rest, n_plus_if, n_plus_less, n_plus_times, n_plus_same, n_plus_under, n_plus_give, n_plus_refuse, n_plus_when, n_less_number, n_less_in, n_less_rest, n_less_if, n_less_plus, n_less_times, n_less_same, n_less_under, n_less_give, n_less_refuse, n_less_when, n_times_number, n_times_in, n_times_rest, n_times_if, n_times_plus, n_times_less, n_times_same, n_times_under, n_times_give, n_times_refuse, n_times_when, n_same_number, n_same_in, n_same_rest, n_same_if, n_same_plus, n_same_less, n_same_times, n_same_under, n_same_give, n_same_refuse, n_same_when, n_under_number, n_under_in, n_under_rest, n_under_if, n_under_plus, n_under_less, n_under_times, n_under_same, n_under_give, n_under_refuse, n_under_when, n_give_number, n_give_in, n_give_rest, n_give_if, n_give_plus, n_give_less, n_give_times, n_give_same, n_give_under, n_give_refuse, n_give_when, n_refuse_number, n_refuse_in, n_refuse_rest, n_refuse_if, n_refuse_plus, n_refuse_less, n_refuse_times, n_refuse_same, n_refuse_under, n_refuse_give, n_refuse_when, n_when_number, n_when_in, n_when_rest, n_when_if, n_when_plus, n_when_less, n_when_times, n_when_same, n_when_under, n_when_give, n_when_refuse, eq_self, v, decide_eq_false hc, ih, given, if_neg hc]
end
end W10
namespace W10
open Sf L2 PySem PySem.Spec PyProof.Rows
/-! sizes -/
theorem fit_bits {k : Nat} {i : Int} (h : Bits k i) (hk : k ≤ 1300) : Fit k 0 (.int i) := by
  refine ⟨?_, ?_, Nat.le_refl _⟩
  · simp only [fitB, decide_eq_true_eq]
    exact Nat.lt_of_lt_of_le h (Nat.le_trans (Nat.pow_le_pow_right (by decide) hk) (show 2 ^ 1300 ≤ 10 ^ 400 by decide +kernel))
  · simp only [wt, D.py, PyData.weight]
    by_cases h0 : i.natAbs = 0
    · have : i = 0 := by omega
      rw [this]
      exact Nat.zero_le _
    · have := (Nat.log2_lt h0).mpr h
      split <;> omega
theorem fit_small {i : Int} (h : i.natAbs < 1024) : Fit 10 0 (.int i) := fit_bits (k := 10) h (by decide)
def wordL : List Str := ["number", "in", "rest", "if", "plus", "less", "times", "same", "under", "give", "refuse", "when"]
theorem fit_word : ∀ s ∈ wordL, Fit 10 0 (.str s) := by
  intro s hs
  have f : wordL.all (fun s => fitB (.str s) && (decide (wt (.str s) ≤ 10) && decide (dp (.str s) ≤ 0))) = true := by decide +kernel
  have q := List.all_eq_true.mp f s hs
  rw [Bool.and_eq_true, Bool.and_eq_true] at q
  exact ⟨q.1, of_decide_eq_true q.2.1, of_decide_eq_true q.2.2⟩
def fW : Nat → Nat
  | 0 => 0
  | d + 1 => 3 * fW d + 40
def fB : Nat → Nat
  | 0 => 0
  | d + 1 => 2 * fB d + 1700
theorem fW_mono : ∀ {d e : Nat}, d ≤ e → fW d ≤ fW e
  | 0, _, _ => Nat.zero_le _
  | d + 1, 0, h => absurd h (by omega)
  | d + 1, e + 1, h => by
    have := fW_mono (d := d) (e := e) (by omega)
    simp only [fW]
    omega
structure okC (cs : List Int) : Prop where
  len : cs.length ≤ 3
  row : ∀ m ∈ cs, 1 ≤ m ∧ m ≤ 3
section
variable {cs : List Int} {fs : List (List Int)} {many : Nat}
theorem w_mem (w : Wd) : w.t ∈ wordL := by
  unfold wordL
  cases w <;> simp [Wd.t]
theorem ex_fit (hc : okC cs) : ∀ (e : Ex) (d : Nat), okE cs e → e.deep ≤ d → Fit (fW d) d e.d
  | .num i, d, h, hd => by
    obtain ⟨d, rfl⟩ : ∃ k', d = k' + 1 := ⟨d - 1, by simp only [Ex.deep] at hd; omega⟩
    have h : 0 ≤ i ∧ i ≤ 99 := h
    refine (FitL.cons (fit_word "number" (by simp [wordL])) (FitL.cons (fit_small (show i.natAbs < 1024 by omega)) (FitL.nil (w := 0)))).tup.mono ?_ (by omega)
    simp only [fW]; omega
  | .inn a b, d, h, hd => by
    obtain ⟨d, rfl⟩ : ∃ k', d = k' + 1 := ⟨d - 1, by simp only [Ex.deep] at hd; omega⟩
    obtain ⟨h1, h2, m, h3, h4, h5⟩ := h
    have := hc.len
    have := hc.row m (List.mem_of_getElem? h3)
    refine (FitL.cons (fit_word "in" (by simp [wordL])) (FitL.cons (fit_small (show a.natAbs < 1024 by omega)) (FitL.cons (fit_small (show b.natAbs < 1024 by omega)) (FitL.nil (w := 0))))).tup.mono ?_ (by omega)
    simp only [fW]; omega
  | .rest e m, d, h, hd => by
    obtain ⟨d, rfl⟩ : ∃ k', d = k' + 1 := ⟨d - 1, by simp only [Ex.deep] at hd; omega⟩
    simp only [Ex.deep] at hd
    obtain ⟨h1, h2, h3⟩ := h
    refine (FitL.cons ((fit_word "rest" (by simp [wordL])).mono (Nat.le_refl _) (Nat.zero_le _)) (FitL.cons (ex_fit hc e d h1 (by omega)) (FitL.cons ((fit_small (show m.natAbs < 1024 by omega)).mono (Nat.le_refl _) (Nat.zero_le _)) (FitL.nil (w := 0))))).tup.mono ?_ (Nat.le_refl _)
    simp only [fW]; omega
  | .iff c a b, d, h, hd => by
    obtain ⟨d, rfl⟩ : ∃ k', d = k' + 1 := ⟨d - 1, by simp only [Ex.deep] at hd; omega⟩
    simp only [Ex.deep] at hd
    obtain ⟨h1, h2, h3⟩ := h
    refine (FitL.cons ((fit_word "if" (by simp [wordL])).mono (Nat.le_refl _) (Nat.zero_le _)) (FitL.cons (ex_fit hc c d h1 (by omega)) (FitL.cons (ex_fit hc a d h2 (by omega)) (FitL.cons (ex_fit hc b d h3 (by omega)) (FitL.nil (w := 0)))))).tup.mono ?_ (Nat.le_refl _)
    simp only [fW]; omega
  | .two w a b, d, h, hd => by
    obtain ⟨d, rfl⟩ : ∃ k', d = k' + 1 := ⟨d - 1, by simp only [Ex.deep] at hd; omega⟩
    simp only [Ex.deep] at hd
    obtain ⟨h1, h2⟩ := h
    refine (FitL.cons ((fit_word w.t (w_mem w)).mono (Nat.le_refl _) (Nat.zero_le _)) (FitL.cons (ex_fit hc a d h1 (by omega)) (FitL.cons (ex_fit hc b d h2 (by omega)) (FitL.nil (w := 0))))).tup.mono ?_ (Nat.le_refl _)
    simp only [fW]; omega
theorem fitL_map {α : Type} {g : α → D} {w p : Nat} : ∀ (l : List α), (∀ x ∈ l, Fit w p (g x)) → FitL (l.length * (w + 1)) p (l.map g)
  | [], _ => FitL.nil
  | x :: l, h => by
    have := FitL.cons (h x List.mem_cons_self) (fitL_map l fun y hy => h y (List.mem_cons_of_mem _ hy))
    refine this.mono ?_ (Nat.le_refl _)
    rw [List.length_cons, Nat.succ_mul]
    omega
theorem fW3 : fW 3 = 520 := rfl
theorem bd_fit (hc : okC cs) (hm : many ≤ 3) : ∀ (b : Bd) (d : Nat), okB cs many b → b.deep ≤ d → Fit (fB d) (d + 4) b.d
  | .refuse, d, h, hd => by
    obtain ⟨d, rfl⟩ : ∃ k', d = k' + 1 := ⟨d - 1, by simp only [Bd.deep] at hd; omega⟩
    refine (FitL.cons (fit_word "refuse" (by simp [wordL])) (FitL.nil (w := 0))).tup.mono ?_ (by omega)
    simp only [fB]; omega
  | .give es, d, h, hd => by
    obtain ⟨d, rfl⟩ : ∃ k', d = k' + 1 := ⟨d - 1, by simp only [Bd.deep] at hd; omega⟩
    have f := fitL_map (g := Ex.d) (w := fW 3) (p := 3) es fun e he => ex_fit hc e 3 (h.2 e he).1 (h.2 e he).2
    have hl : es.length * (fW 3 + 1) ≤ 3 * 521 := Nat.mul_le_mul (by have := h.1; omega) (by rw [fW3]; omega)
    refine (FitL.cons ((fit_word "give" (by simp [wordL])).mono (Nat.le_refl _) (Nat.zero_le _)) (FitL.cons f.tup (FitL.nil (w := 0)))).tup.mono ?_ (by omega)
    simp only [fB]; omega
  | .whn c a b, d, h, hd => by
    obtain ⟨d, rfl⟩ : ∃ k', d = k' + 1 := ⟨d - 1, by simp only [Bd.deep] at hd; omega⟩
    simp only [Bd.deep] at hd
    obtain ⟨h1, h2, h3⟩ := h
    have f := (ex_fit hc c 3 h1.1 h1.2).mono (Nat.le_refl _) (show 3 ≤ d + 4 by omega)
    rw [fW3] at f
    refine (FitL.cons ((fit_word "when" (by simp [wordL])).mono (Nat.le_refl _) (Nat.zero_le _)) (FitL.cons f (FitL.cons (bd_fit hc hm a d h2 (by omega)) (FitL.cons (bd_fit hc hm b d h3 (by omega)) (FitL.nil (w := 0)))))).tup.mono ?_ (Nat.le_refl _)
    simp only [fB]; omega
theorem row_len (hc : okC cs) (hf : okF cs fs) : ∀ f ∈ fs, f.length ≤ 3 := fun f h => by
  obtain ⟨i, hi, e⟩ := List.mem_iff_getElem.mp h
  have hi' : i < cs.length := by rw [← hf.len]; exact hi
  obtain ⟨g, h1, h2⟩ := hf.row i cs[i] (List.getElem?_eq_getElem hi')
  rw [List.getElem?_eq_getElem hi] at h1
  have := (hc.row cs[i] (List.getElem_mem hi')).2
  have e2 : fs[i] = g := Option.some.inj h1
  rw [← e, e2]
  omega
theorem fd_fit (hc : okC cs) (hf : okF cs fs) : Fit 600 2 (fD fs) := by
  have r : ∀ f ∈ fs, Fit 195 1 (.tup (f.map .int)) := fun f h => by
    have := fitL_map (g := D.int) (w := 64) (p := 0) f fun x hx => fit_bits (hf.bits f h x hx) (by decide)
    refine this.tup.mono ?_ (Nat.le_refl _)
    have : f.length * (64 + 1) ≤ 3 * 65 := Nat.mul_le_mul (row_len hc hf f h) (by decide)
    omega
  have := (fitL_map (g := fun f : List Int => D.tup (f.map .int)) fs r).tup
  refine this.mono ?_ (Nat.le_refl _)
  have := hf.len
  have : fs.length * (195 + 1) ≤ 3 * 196 := Nat.mul_le_mul (by have := hc.len; omega) (by decide)
  omega
theorem go_fit (hf : okF cs fs) (b : Bd) (h : okB cs many b) (hm : many ≤ 3) : Fit 3100 1 (gO (given fs b)) := by
  rcases strip_ok (fs := fs) b h with ⟨_, e2⟩ | ⟨es, _, e2, e3, e4⟩
  · rw [e2]
    exact ⟨rfl, Nat.zero_le _, Nat.zero_le _⟩
  · rw [e2]
    have : ∀ v ∈ es.map (val fs), Fit 1024 0 (.int v) := fun v hv => by
      obtain ⟨e, he, rfl⟩ := List.mem_map.mp hv
      have := e_bits hf e 4 (e4 e he).1 (by have := (e4 e he).2; omega)
      exact fit_bits this (by decide)
    have := (fitL_map (g := D.int) _ this).tup
    refine this.mono ?_ (Nat.le_refl _)
    have : (es.map (val fs)).length * (1024 + 1) ≤ 3 * 1025 := Nat.mul_le_mul (by rw [List.length_map]; omega) (by decide)
    omega
/-! one right turn -/
theorem is_nn (S : Sto) : isD S .non .non = some (.val (.bl true)) := rfl
theorem is_ln (S : Sto) (ds : List D) : isD S (.lst ds) .non = some (.val (.bl false)) := rfl
theorem e_right (hc : okC cs) (hf : okF cs fs) (hm : many ≤ 3) {e : Ex} {b : Bd} (he : okE cs e) (hd : e.deep ≤ 4) (hb : okB cs many b) (hbd : b.deep ≤ 4) (S : Sto) :
    ∃ S', den_law_right [e.d, b.d, fD fs] S = some (.ok (.val (.bl true)) S') ∧ Gr S S' := by
  obtain ⟨S1, g1, q1⟩ := e_lgiven hf (by omega) b 8 S hb (by omega)
  obtain ⟨S2, g2, q2⟩ := e_lval hf e 12 S1 he (by omega) (by omega)
  have v1 := e_val hf e 12 S1 he (by omega) (by omega)
  have gb := e_given hf b S2 hb (by omega) (by omega)
  have r1 := fun S => y_repr (S := S) (fit_bits (e_bits hf e 4 he hd) (by decide)) (by decide) (by decide)
  have r2 := fun S => y_repr (S := S) (go_fit hf b hb hm) (by decide) (by decide)
  have f3 : Fit 28000 9 (.lst [e.d, b.d, fD fs]) := by
    have a1 := (ex_fit hc e 4 he hd).mono (show fW 4 ≤ 1600 by decide) (show 4 ≤ 8 by decide)
    have a2 := (bd_fit hc hm b 4 hb hbd).mono (show fB 4 ≤ 25500 by decide) (Nat.le_refl _)
    have a3 := (fd_fit hc hf).mono (Nat.le_refl _) (show 2 ≤ 8 by decide)
    exact (FitL.cons a1 (FitL.cons a2 (FitL.cons a3 (FitL.nil (w := 0))))).lst.mono (by omega) (by omega)
  have r3 := fun S => y_repr (S := S) f3 (by decide) (by decide)
  refine ⟨S2, ?_, q1.trans q2⟩
  generalize (D.lst [e.d, b.d, fD fs]).py.shown = t3 at r3
  generalize (D.int (val fs e)).py.shown = t1 at r1
  generalize (gO (given fs b)).py.shown = t2 at r2
  generalize val fs e = v at *
  generalize e.d = De at *
  generalize b.d = Db at *
  generalize fD fs = F at *
  cases hg : given fs b with
  | none =>
    rw [hg] at g1 gb r2
    simp only [gO, lgO] at g1 gb r2
    simp only [den_law_right, x_bnd, x_bnS, x_c, x_var, x_varK, x_stl, x_stlV, x_stlL, x_stlE, x_stlD, x_bxd, x_bxV, x_bxK, x_okv, x_okm, x_d2, x_d2K, x_d2L, x_tst, x_tstK, x_ch, x_chK, x_chL, x_chMt, x_chMf, x_chN, x_and, x_andK, x_andT, x_andF, x_or, x_orK, x_orT, x_orF, x_not, x_notK, x_notL, x_tru, x_truK, x_truL, x_band, x_bandT, x_bandF, x_bor, x_borT, x_borF, x_bnot, x_bnotK, x_dif, x_difT, x_difF, x_anil, x_acons, x_aK, x_aL, x_tup, x_tupK, x_lst, x_lstK, x_cl, x_clK, x_fn, x_fnK, x_isi, x_isiK, x_isiL, x_neg, x_negK, x_revL, x_kget, x_kgetK, x_sl, x_slK, x_slL, x_pnone, x_psome, x_psK, x_mt, x_mtK, x_mtL, x_itA, x_itAK, x_itL, x_itSeq, x_seqK, x_itStr, x_istrK, x_comp, x_compK, x_compL, x_wipe1, x_wipe2, x_seq, x_sqN, x_sqR, x_sqB, x_sqC, x_next, x_ret, x_retK, x_retN, x_asg, x_asgB, x_asgK, x_drop, x_dropK, x_if, x_ifT, x_ifF, x_for, x_forK, x_tgt, x_tgtK, x_tgtL, x_tname, x_par, x_parK, x_dput, x_dputK, x_dputK1, x_dputK2, x_dputL, x_def, x_defR, x_defN, y_add, y_sub, y_mul, y_mulX, y_mod, y_fdiv, y_lt, y_le, y_gt, y_ge, y_eqI, y_eqS, y_neI, y_neS, y_eqYI, y_eqYS, y_neYI, y_neYS, y_ixT, y_ixL, y_trB, y_k0, y_k1, y_k2, y_k3, y_k4, y_k5, y_k6, y_lenT, y_lenL, y_lenS, startE, List.map_cons, List.map_nil, List.length_cons, List.length_nil, List.replicate, List.cons_append, List.nil_append, List.append_nil, Nat.sub_self, Nat.reduceSub, Nat.reduceAdd, Nat.reduceLeDiff, Nat.reduceEqDiff, Nat.zero_add, Nat.zero_le, Nat.sub_zero, List.set_cons_zero, List.set_cons_succ, List.getElem?_cons_zero, List.getElem?_cons_succ, Bool.not_true, Bool.not_false, decide_true, decide_false, g1, is_nn, r3, v1, r1, g2, eq_self, gb, r2]
  | some vs =>
    rw [hg] at g1 gb r2
    simp only [gO, lgO] at g1 gb r2
    generalize vs.map D.int = ds at *
    simp only [den_law_right, x_bnd, x_bnS, x_c, x_var, x_varK, x_stl, x_stlV, x_stlL, x_stlE, x_stlD, x_bxd, x_bxV, x_bxK, x_okv, x_okm, x_d2, x_d2K, x_d2L, x_tst, x_tstK, x_ch, x_chK, x_chL, x_chMt, x_chMf, x_chN, x_and, x_andK, x_andT, x_andF, x_or, x_orK, x_orT, x_orF, x_not, x_notK, x_notL, x_tru, x_truK, x_truL, x_band, x_bandT, x_bandF, x_bor, x_borT, x_borF, x_bnot, x_bnotK, x_dif, x_difT, x_difF, x_anil, x_acons, x_aK, x_aL, x_tup, x_tupK, x_lst, x_lstK, x_cl, x_clK, x_fn, x_fnK, x_isi, x_isiK, x_isiL, x_neg, x_negK, x_revL, x_kget, x_kgetK, x_sl, x_slK, x_slL, x_pnone, x_psome, x_psK, x_mt, x_mtK, x_mtL, x_itA, x_itAK, x_itL, x_itSeq, x_seqK, x_itStr, x_istrK, x_comp, x_compK, x_compL, x_wipe1, x_wipe2, x_seq, x_sqN, x_sqR, x_sqB, x_sqC, x_next, x_ret, x_retK, x_retN, x_asg, x_asgB, x_asgK, x_drop, x_dropK, x_if, x_ifT, x_ifF, x_for, x_forK, x_tgt, x_tgtK, x_tgtL, x_tname, x_par, x_parK, x_dput, x_dputK, x_dputK1, x_dputK2, x_dputL, x_def, x_defR, x_defN, y_add, y_sub, y_mul, y_mulX, y_mod, y_fdiv, y_lt, y_le, y_gt, y_ge, y_eqI, y_eqS, y_neI, y_neS, y_eqYI, y_eqYS, y_neYI, y_neYS, y_ixT, y_ixL, y_trB, y_k0, y_k1, y_k2, y_k3, y_k4, y_k5, y_k6, y_lenT, y_lenL, y_lenS, startE, List.map_cons, List.map_nil, List.length_cons, List.length_nil, List.replicate, List.cons_append, List.nil_append, List.append_nil, Nat.sub_self, Nat.reduceSub, Nat.reduceAdd, Nat.reduceLeDiff, Nat.reduceEqDiff, Nat.zero_add, Nat.zero_le, Nat.sub_zero, List.set_cons_zero, List.set_cons_succ, List.getElem?_cons_zero, List.getElem?_cons_succ, Bool.not_true, Bool.not_false, decide_true, decide_false, g1, is_ln, y_tupL, r3, v1, r1, g2, eq_self, gb, r2]
end
end W10
namespace W10
open Sf L2 PySem PySem.Spec PyProof.Rows
/-! the law's look at good things -/
def cD (cs : List Int) : D := .tup (cs.map .int)
def pr (p : Int × Int) : D := .tup [.int p.1, .int p.2]
def fk (k : Nat) : Dn Out := dFn 3 (den_law_looked k) (aCons (dVar 8) (aCons (dVar 1) (aCons (dVar 9) aNil)))
def t89 : Tn := tTup (tsCons (tName 8) (tsCons (tName 9) tsNil))
def c0 : Dn Out := d2 ixD (dVar 8) (dC (.int 0))
def c1 : Dn Out := d2 ixD (dVar 8) (dC (.int 1))
def tailS (k : Nat) : Sn := (sSeq (sIf (tst (d2 isD (dVar 3) (dC .non))) (sRet (dC .non)) sNext)
 (sSeq (sAsg 5 (dComp (itSeq (dVar 3)) t89 bYes (fk k) [8, 9]))
 (sSeq (sIf (tst (d2 inD (dC .non) (dVar 5))) (sRet (dC .non)) sNext)
 (sRet (dTup (aCons (d2 addD (dC (.int 1)) (dCl sumD (aCons (dComp (itSeq (dVar 5)) (tName 8) bYes c0 [8]) aNil))) (aCons (d2 addD (dC (.int 1)) (dCl maxD (aCons (d2 addD (dLst (aCons (dC (.int 0)) aNil)) (dComp (itSeq (dVar 5)) (tName 8) bYes c1 [8])) aNil))) aNil)))))))
/-- what is looked at is told by two numbers -/
def Lk (k : Nat) (C : D) (x : D × D) : Prop := ∀ S, ∃ (p : Int × Int) (S' : Sto), den_law_looked k [x.1, C, x.2] S = some (.ok (.val (pr p)) S') ∧ Gr S S'
theorem lk_loop {k : Nat} {C : D} (x0 x2 x3 x4 x5 x6 x7 x8 x9 : Option D) : ∀ (xs : List (D × D)) (j : Nat) (S : Sto), (∀ x ∈ xs, Lk k C x) → j + xs.length ≤ 1000 →
    ∃ (ps : List (Int × Int)) (S' : Sto), ps.length = xs.length ∧ loopC t89 bYes (fk k) [x0, some C, x2, x3, x4, x5, x6, x7, x8, x9] (xs.map fun x => .tup [x.1, x.2]) j S = some (ps.map pr, S') ∧ Gr S S'
  | [], _, S, _, _ => ⟨[], S, rfl, rfl, Gr.refl S⟩
  | x :: xs, j, S, h, hj => by
    rw [List.length_cons] at hj
    obtain ⟨p, S1, e1, g1⟩ := h x List.mem_cons_self S
    obtain ⟨ps, S2, l2, e2, g2⟩ := lk_loop x0 x2 x3 x4 x5 x6 x7 x8 x9 xs (j + 1) S1 (fun y hy => h y (List.mem_cons_of_mem _ hy)) (by omega)
    refine ⟨p :: ps, S2, by rw [List.length_cons, List.length_cons, l2], ?_, g1.trans g2⟩
    refine lc_take (S1 := S) (S2 := S1) (ρ1 := [x0, some C, x2, x3, x4, x5, x6, x7, some x.1, some x.2]) rfl rfl ?_ (by omega) e2
    unfold pr at e1 ⊢
    simp only [fk, x_bnd, x_bnS, x_c, x_var, x_varK, x_stl, x_stlV, x_stlL, x_stlE, x_stlD, x_bxd, x_bxV, x_bxK, x_okv, x_okm, x_d2, x_d2K, x_d2L, x_tst, x_tstK, x_ch, x_chK, x_chL, x_chMt, x_chMf, x_chN, x_and, x_andK, x_andT, x_andF, x_or, x_orK, x_orT, x_orF, x_not, x_notK, x_notL, x_tru, x_truK, x_truL, x_band, x_bandT, x_bandF, x_bor, x_borT, x_borF, x_bnot, x_bnotK, x_dif, x_difT, x_difF, x_anil, x_acons, x_aK, x_aL, x_tup, x_tupK, x_lst, x_lstK, x_cl, x_clK, x_fn, x_fnK, x_isi, x_isiK, x_isiL, x_neg, x_negK, x_revL, x_kget, x_kgetK, x_sl, x_slK, x_slL, x_pnone, x_psome, x_psK, x_mt, x_mtK, x_mtL, x_itA, x_itAK, x_itL, x_itSeq, x_seqK, x_itStr, x_istrK, x_comp, x_compK, x_compL, x_wipe1, x_wipe2, x_seq, x_sqN, x_sqR, x_sqB, x_sqC, x_next, x_ret, x_retK, x_retN, x_asg, x_asgB, x_asgK, x_drop, x_dropK, x_if, x_ifT, x_ifF, x_for, x_forK, x_tgt, x_tgtK, x_tgtL, x_tname, x_par, x_parK, x_dput, x_dputK, x_dputK1, x_dputK2, x_dputL, x_def, x_defR, x_defN, y_add, y_sub, y_mul, y_mulX, y_mod, y_fdiv, y_lt, y_le, y_gt, y_ge, y_eqI, y_eqS, y_neI, y_neS, y_eqYI, y_eqYS, y_neYI, y_neYS, y_ixT, y_ixL, y_trB, y_k0, y_k1, y_k2, y_k3, y_k4, y_k5, y_k6, y_lenT, y_lenL, y_lenS, startE, List.map_cons, List.map_nil, List.length_cons, List.length_nil, List.replicate, List.cons_append, List.nil_append, List.append_nil, Nat.sub_self, Nat.reduceSub, Nat.reduceAdd, Nat.reduceLeDiff, Nat.reduceEqDiff, Nat.zero_add, Nat.zero_le, Nat.sub_zero, List.set_cons_zero, List.set_cons_succ, List.getElem?_cons_zero, List.getElem?_cons_succ, Bool.not_true, Bool.not_false, decide_true, decide_false, e1]
theorem p_loop {f : Dn Out} {g : Int × Int → Int} {ρ : En} (hf : ∀ p S, f (ρ.set 8 (some (pr p))) S = some (.ok (.val (.int (g p))) S)) : ∀ (ps : List (Int × Int)) (j : Nat) (S : Sto), j + ps.length ≤ 1000 →
    loopC (tName 8) bYes f ρ (ps.map pr) j S = some ((ps.map g).map .int, S)
  | [], _, _, _ => rfl
  | p :: ps, j, S, hj => by
    rw [List.length_cons] at hj
    refine lc_take (S1 := S) (S2 := S) (ρ1 := ρ.set 8 (some (pr p))) rfl rfl ?_ (by omega) (p_loop hf ps (j + 1) S (by omega))
    rw [x_stl, hf, x_bnd, x_stlV]
theorem ints_map : ∀ ns : List Int, intsD (ns.map .int) = some ns
  | [] => rfl
  | n :: ns => by
    simp only [List.map_cons, intsD, ints_map ns]
    rfl
theorem y_sumL (S : Sto) (ns : List Int) : sumD S [.lst (ns.map .int)] = some (.val (.int ns.sum)) := by
  have e : sumD S [.lst (ns.map .int)] = match intsD (ns.map .int) with
    | some ns => some (.val (.int ns.sum))
    | none => none := rfl
  rw [e, ints_map]
theorem y_maxL (S : Sto) (n : Int) (ns : List Int) : maxD S [.lst (.int n :: ns.map .int)] = some (.val (.int (maxI n ns))) := by
  have e : maxD S [.lst (.int n :: ns.map .int)] = match intsD ((n :: ns).map .int) with
    | some (n :: ns) => some (.val (.int (maxI n ns)))
    | _ => none := rfl
  rw [e, ints_map]
theorem pr_flat : ∀ ps : List (Int × Int), ps ≠ [] → (ps.map pr).all D.flat = false
  | [], h => absurd rfl h
  | p :: ps, _ => rfl
theorem pr_plain : ∀ ps : List (Int × Int), plainL (ps.map pr) = true
  | [] => rfl
  | p :: ps => by
    rw [List.map_cons, plainL, pr_plain ps]
    rfl
theorem pr_can : ∀ ps : List (Int × Int), PyData.canLayAll0 (pyL (ps.map pr)) = true ∧ PyData.depthAll (pyL (ps.map pr)) ≤ 1
  | [] => ⟨rfl, Nat.zero_le _⟩
  | p :: ps => by
    obtain ⟨h1, h2⟩ := pr_can ps
    refine ⟨?_, ?_⟩
    · simp only [List.map_cons, pr, pyL, D.py, PyData.canLayAll0, PyData.canLay0] at h1 ⊢
      exact h1
    · have e : PyData.depthAll (pyL ((p :: ps).map pr)) = max (D.py (pr p)).depth (PyData.depthAll (pyL (ps.map pr))) := by simp only [List.map_cons, pyL, PyData.depthAll]
      have e2 : (D.py (pr p)).depth = 1 := by simp only [pr, D.py, pyL, PyData.depth, PyData.depthAll]; decide
      rw [e, e2]
      omega
theorem pr_none : ∀ ps : List (Int × Int), ((ps.map pr).any fun z => PyData.eqv z.py D.non.py) = false
  | [] => rfl
  | p :: ps => by
    rw [List.map_cons, List.any_cons, pr_none ps]
    rfl
theorem in_pairs (S : Sto) (ps : List (Int × Int)) : inD S .non (.lst (ps.map pr)) = some (.val (.bl false)) := by
  by_cases h : ps = []
  · subst h; rfl
  · have e : inB S .non (.lst (ps.map pr)) = if (D.non.flat && (ps.map pr).all D.flat) = true then some ((ps.map pr).any fun d => eqF d .non) else
        if (shp .non && SeqAt.shaped (.list (pyL (ps.map pr))) && plainL (ps.map pr)) = true then some ((ps.map pr).any fun z => PyData.eqv z.py D.non.py) else none := rfl
    have s1 : SeqAt.shaped (.list (pyL (ps.map pr))) = true := by
      obtain ⟨h1, h2⟩ := pr_can ps
      unfold SeqAt.shaped
      rw [Bool.and_eq_true]
      refine ⟨?_, decide_eq_true ?_⟩
      · simp only [PyData.canLay0]; exact h1
      · simp only [PyData.depth]; omega
    unfold inD
    rw [e, pr_flat ps h, s1, pr_plain, pr_none]
    rfl
theorem y_add0 (S : Sto) (d : D) (l : List D) (hl : l.length ≤ 1000) : addD S (.lst [d]) (.lst l) = some (.own (.lst (d :: l))) := if_pos (by
  rw [List.length_singleton]
  show 1 + l.length ≤ 2 ^ 24
  omega)
theorem look_end {k : Nat} {C : D} (x0 x2 x4 x5 x6 x7 x8 x9 : Option D) (xs : List (D × D)) (S : Sto) (h : ∀ x ∈ xs, Lk k C x) (hj : xs.length ≤ 100) :
    ∃ (p : Int × Int) (S' : Sto), tailS k [x0, some C, x2, some (.lst (xs.map fun x => .tup [x.1, x.2])), x4, x5, x6, x7, x8, x9] S = some (.rt (.val (pr p)) S') ∧ Gr S S' := by
  obtain ⟨ps, S1, l1, e1, g1⟩ := lk_loop (k := k) (C := C) x0 x2 (some (.lst (xs.map fun x => .tup [x.1, x.2]))) x4 x5 x6 x7 none none xs 0 S h (by omega)
  have hp : ps.length ≤ 100 := by omega
  have i0 := in_pairs S1 ps
  have q0 : ∀ j S, j + ps.length ≤ 1000 → loopC (tName 8) bYes c0 [x0, some C, x2, some (.lst (xs.map fun x => .tup [x.1, x.2])), x4, some (.lst (ps.map pr)), x6, x7, none, x9] (ps.map pr) j S = some ((ps.map Prod.fst).map .int, S) :=
    p_loop (fun p S => by simp only [c0, pr, x_bnd, x_bnS, x_c, x_var, x_varK, x_stl, x_stlV, x_stlL, x_stlE, x_stlD, x_bxd, x_bxV, x_bxK, x_okv, x_okm, x_d2, x_d2K, x_d2L, x_tst, x_tstK, x_ch, x_chK, x_chL, x_chMt, x_chMf, x_chN, x_and, x_andK, x_andT, x_andF, x_or, x_orK, x_orT, x_orF, x_not, x_notK, x_notL, x_tru, x_truK, x_truL, x_band, x_bandT, x_bandF, x_bor, x_borT, x_borF, x_bnot, x_bnotK, x_dif, x_difT, x_difF, x_anil, x_acons, x_aK, x_aL, x_tup, x_tupK, x_lst, x_lstK, x_cl, x_clK, x_fn, x_fnK, x_isi, x_isiK, x_isiL, x_neg, x_negK, x_revL, x_kget, x_kgetK, x_sl, x_slK, x_slL, x_pnone, x_psome, x_psK, x_mt, x_mtK, x_mtL, x_itA, x_itAK, x_itL, x_itSeq, x_seqK, x_itStr, x_istrK, x_comp, x_compK, x_compL, x_wipe1, x_wipe2, x_seq, x_sqN, x_sqR, x_sqB, x_sqC, x_next, x_ret, x_retK, x_retN, x_asg, x_asgB, x_asgK, x_drop, x_dropK, x_if, x_ifT, x_ifF, x_for, x_forK, x_tgt, x_tgtK, x_tgtL, x_tname, x_par, x_parK, x_dput, x_dputK, x_dputK1, x_dputK2, x_dputL, x_def, x_defR, x_defN, y_add, y_sub, y_mul, y_mulX, y_mod, y_fdiv, y_lt, y_le, y_gt, y_ge, y_eqI, y_eqS, y_neI, y_neS, y_eqYI, y_eqYS, y_neYI, y_neYS, y_ixT, y_ixL, y_trB, y_k0, y_k1, y_k2, y_k3, y_k4, y_k5, y_k6, y_lenT, y_lenL, y_lenS, startE, List.map_cons, List.map_nil, List.length_cons, List.length_nil, List.replicate, List.cons_append, List.nil_append, List.append_nil, Nat.sub_self, Nat.reduceSub, Nat.reduceAdd, Nat.reduceLeDiff, Nat.reduceEqDiff, Nat.zero_add, Nat.zero_le, Nat.sub_zero, List.set_cons_zero, List.set_cons_succ, List.getElem?_cons_zero, List.getElem?_cons_succ, Bool.not_true, Bool.not_false, decide_true, decide_false, at0, Option.map_some]) ps
  have q1 : ∀ j S, j + ps.length ≤ 1000 → loopC (tName 8) bYes c1 [x0, some C, x2, some (.lst (xs.map fun x => .tup [x.1, x.2])), x4, some (.lst (ps.map pr)), x6, x7, none, x9] (ps.map pr) j S = some ((ps.map Prod.snd).map .int, S) :=
    p_loop (fun p S => by simp only [c1, pr, x_bnd, x_bnS, x_c, x_var, x_varK, x_stl, x_stlV, x_stlL, x_stlE, x_stlD, x_bxd, x_bxV, x_bxK, x_okv, x_okm, x_d2, x_d2K, x_d2L, x_tst, x_tstK, x_ch, x_chK, x_chL, x_chMt, x_chMf, x_chN, x_and, x_andK, x_andT, x_andF, x_or, x_orK, x_orT, x_orF, x_not, x_notK, x_notL, x_tru, x_truK, x_truL, x_band, x_bandT, x_bandF, x_bor, x_borT, x_borF, x_bnot, x_bnotK, x_dif, x_difT, x_difF, x_anil, x_acons, x_aK, x_aL, x_tup, x_tupK, x_lst, x_lstK, x_cl, x_clK, x_fn, x_fnK, x_isi, x_isiK, x_isiL, x_neg, x_negK, x_revL, x_kget, x_kgetK, x_sl, x_slK, x_slL, x_pnone, x_psome, x_psK, x_mt, x_mtK, x_mtL, x_itA, x_itAK, x_itL, x_itSeq, x_seqK, x_itStr, x_istrK, x_comp, x_compK, x_compL, x_wipe1, x_wipe2, x_seq, x_sqN, x_sqR, x_sqB, x_sqC, x_next, x_ret, x_retK, x_retN, x_asg, x_asgB, x_asgK, x_drop, x_dropK, x_if, x_ifT, x_ifF, x_for, x_forK, x_tgt, x_tgtK, x_tgtL, x_tname, x_par, x_parK, x_dput, x_dputK, x_dputK1, x_dputK2, x_dputL, x_def, x_defR, x_defN, y_add, y_sub, y_mul, y_mulX, y_mod, y_fdiv, y_lt, y_le, y_gt, y_ge, y_eqI, y_eqS, y_neI, y_neS, y_eqYI, y_eqYS, y_neYI, y_neYS, y_ixT, y_ixL, y_trB, y_k0, y_k1, y_k2, y_k3, y_k4, y_k5, y_k6, y_lenT, y_lenL, y_lenS, startE, List.map_cons, List.map_nil, List.length_cons, List.length_nil, List.replicate, List.cons_append, List.nil_append, List.append_nil, Nat.sub_self, Nat.reduceSub, Nat.reduceAdd, Nat.reduceLeDiff, Nat.reduceEqDiff, Nat.zero_add, Nat.zero_le, Nat.sub_zero, List.set_cons_zero, List.set_cons_succ, List.getElem?_cons_zero, List.getElem?_cons_succ, Bool.not_true, Bool.not_false, decide_true, decide_false, at1, Option.map_some]) ps
  have q0 := q0 0 S1 (by omega)
  have q1 := q1 0 S1 (by omega)
  have ya := y_add0 S1 (.int 0) ((ps.map Prod.snd).map .int) (by rw [List.length_map, List.length_map]; omega)
  have ys := y_sumL S1 (ps.map Prod.fst)
  have ym := y_maxL S1 0 (ps.map Prod.snd)
  refine ⟨(1 + (ps.map Prod.fst).sum, 1 + maxI 0 (ps.map Prod.snd)), S1, ?_, g1⟩
  simp only [pr]
  generalize (xs.map fun x => D.tup [x.1, x.2]) = X at e1 q0 q1 ⊢
  generalize ps.map pr = Y at e1 i0 q0 q1 ⊢
  generalize (ps.map Prod.fst).sum = a at ys ⊢
  generalize maxI 0 (ps.map Prod.snd) = b at ym ⊢
  generalize (ps.map Prod.fst).map D.int = A at ys q0 ⊢
  generalize (ps.map Prod.snd).map D.int = B at ym q1 ya ⊢
  simp only [tailS, x_bnd, x_bnS, x_c, x_var, x_varK, x_stl, x_stlV, x_stlL, x_stlE, x_stlD, x_bxd, x_bxV, x_bxK, x_okv, x_okm, x_d2, x_d2K, x_d2L, x_tst, x_tstK, x_ch, x_chK, x_chL, x_chMt, x_chMf, x_chN, x_and, x_andK, x_andT, x_andF, x_or, x_orK, x_orT, x_orF, x_not, x_notK, x_notL, x_tru, x_truK, x_truL, x_band, x_bandT, x_bandF, x_bor, x_borT, x_borF, x_bnot, x_bnotK, x_dif, x_difT, x_difF, x_anil, x_acons, x_aK, x_aL, x_tup, x_tupK, x_lst, x_lstK, x_cl, x_clK, x_fn, x_fnK, x_isi, x_isiK, x_isiL, x_neg, x_negK, x_revL, x_kget, x_kgetK, x_sl, x_slK, x_slL, x_pnone, x_psome, x_psK, x_mt, x_mtK, x_mtL, x_itA, x_itAK, x_itL, x_itSeq, x_seqK, x_itStr, x_istrK, x_comp, x_compK, x_compL, x_wipe1, x_wipe2, x_seq, x_sqN, x_sqR, x_sqB, x_sqC, x_next, x_ret, x_retK, x_retN, x_asg, x_asgB, x_asgK, x_drop, x_dropK, x_if, x_ifT, x_ifF, x_for, x_forK, x_tgt, x_tgtK, x_tgtL, x_tname, x_par, x_parK, x_dput, x_dputK, x_dputK1, x_dputK2, x_dputL, x_def, x_defR, x_defN, y_add, y_sub, y_mul, y_mulX, y_mod, y_fdiv, y_lt, y_le, y_gt, y_ge, y_eqI, y_eqS, y_neI, y_neS, y_eqYI, y_eqYS, y_neYI, y_neYS, y_ixT, y_ixL, y_trB, y_k0, y_k1, y_k2, y_k3, y_k4, y_k5, y_k6, y_lenT, y_lenL, y_lenS, startE, List.map_cons, List.map_nil, List.length_cons, List.length_nil, List.replicate, List.cons_append, List.nil_append, List.append_nil, Nat.sub_self, Nat.reduceSub, Nat.reduceAdd, Nat.reduceLeDiff, Nat.reduceEqDiff, Nat.zero_add, Nat.zero_le, Nat.sub_zero, List.set_cons_zero, List.set_cons_succ, List.getElem?_cons_zero, List.getElem?_cons_succ, Bool.not_true, Bool.not_false, decide_true, decide_false, is_ln, fixed, e1, i0, q0, q1, ya, ys, ym]
/-! what stands ahead of it -/
theorem e_among (S : Sto) (i lo hi : Int) : den_law_among [.int i, .int lo, .int hi] S = some (.ok (.val (.bl (decide (lo ≤ i) && decide (i ≤ hi)))) S) := by
  by_cases h1 : lo ≤ i
  · simp only [den_law_among, x_bnd, x_bnS, x_c, x_var, x_varK, x_stl, x_stlV, x_stlL, x_stlE, x_stlD, x_bxd, x_bxV, x_bxK, x_okv, x_okm, x_d2, x_d2K, x_d2L, x_tst, x_tstK, x_ch, x_chK, x_chL, x_chMt, x_chMf, x_chN, x_and, x_andK, x_andT, x_andF, x_or, x_orK, x_orT, x_orF, x_not, x_notK, x_notL, x_tru, x_truK, x_truL, x_band, x_bandT, x_bandF, x_bor, x_borT, x_borF, x_bnot, x_bnotK, x_dif, x_difT, x_difF, x_anil, x_acons, x_aK, x_aL, x_tup, x_tupK, x_lst, x_lstK, x_cl, x_clK, x_fn, x_fnK, x_isi, x_isiK, x_isiL, x_neg, x_negK, x_revL, x_kget, x_kgetK, x_sl, x_slK, x_slL, x_pnone, x_psome, x_psK, x_mt, x_mtK, x_mtL, x_itA, x_itAK, x_itL, x_itSeq, x_seqK, x_itStr, x_istrK, x_comp, x_compK, x_compL, x_wipe1, x_wipe2, x_seq, x_sqN, x_sqR, x_sqB, x_sqC, x_next, x_ret, x_retK, x_retN, x_asg, x_asgB, x_asgK, x_drop, x_dropK, x_if, x_ifT, x_ifF, x_for, x_forK, x_tgt, x_tgtK, x_tgtL, x_tname, x_par, x_parK, x_dput, x_dputK, x_dputK1, x_dputK2, x_dputL, x_def, x_defR, x_defN, y_add, y_sub, y_mul, y_mulX, y_mod, y_fdiv, y_lt, y_le, y_gt, y_ge, y_eqI, y_eqS, y_neI, y_neS, y_eqYI, y_eqYS, y_neYI, y_neYS, y_ixT, y_ixL, y_trB, y_k0, y_k1, y_k2, y_k3, y_k4, y_k5, y_k6, y_lenT, y_lenL, y_lenS, startE, List.map_cons, List.map_nil, List.length_cons, List.length_nil, List.replicate, List.cons_append, List.nil_append, List.append_nil, Nat.sub_self, Nat.reduceSub, Nat.reduceAdd, Nat.reduceLeDiff, Nat.reduceEqDiff, Nat.zero_add, Nat.zero_le, Nat.sub_zero, List.set_cons_zero, List.set_cons_succ, List.getElem?_cons_zero, List.getElem?_cons_succ, Bool.not_true, Bool.not_false, decide_true, decide_false, z_int0, z_int1, z_int2, z_int3, z_int4, z_int5, z_int6, z_bool0, z_bool1, z_bool2, z_bool3, z_bool4, z_bool5, z_bool6, z_str0, z_str1, z_str2, z_str3, z_str4, z_str5, z_str6, z_tuple0, z_tuple1, z_tuple2, z_tuple3, z_tuple4, z_tuple5, z_tuple6, z_list0, z_list1, z_list2, z_list3, z_list4, z_list5, z_list6, z_dict0, z_dict1, z_dict2, z_dict3, z_dict4, z_dict5, z_dict6, decide_eq_true h1, Bool.true_and]
  · simp only [den_law_among, x_bnd, x_bnS, x_c, x_var, x_varK, x_stl, x_stlV, x_stlL, x_stlE, x_stlD, x_bxd, x_bxV, x_bxK, x_okv, x_okm, x_d2, x_d2K, x_d2L, x_tst, x_tstK, x_ch, x_chK, x_chL, x_chMt, x_chMf, x_chN, x_and, x_andK, x_andT, x_andF, x_or, x_orK, x_orT, x_orF, x_not, x_notK, x_notL, x_tru, x_truK, x_truL, x_band, x_bandT, x_bandF, x_bor, x_borT, x_borF, x_bnot, x_bnotK, x_dif, x_difT, x_difF, x_anil, x_acons, x_aK, x_aL, x_tup, x_tupK, x_lst, x_lstK, x_cl, x_clK, x_fn, x_fnK, x_isi, x_isiK, x_isiL, x_neg, x_negK, x_revL, x_kget, x_kgetK, x_sl, x_slK, x_slL, x_pnone, x_psome, x_psK, x_mt, x_mtK, x_mtL, x_itA, x_itAK, x_itL, x_itSeq, x_seqK, x_itStr, x_istrK, x_comp, x_compK, x_compL, x_wipe1, x_wipe2, x_seq, x_sqN, x_sqR, x_sqB, x_sqC, x_next, x_ret, x_retK, x_retN, x_asg, x_asgB, x_asgK, x_drop, x_dropK, x_if, x_ifT, x_ifF, x_for, x_forK, x_tgt, x_tgtK, x_tgtL, x_tname, x_par, x_parK, x_dput, x_dputK, x_dputK1, x_dputK2, x_dputL, x_def, x_defR, x_defN, y_add, y_sub, y_mul, y_mulX, y_mod, y_fdiv, y_lt, y_le, y_gt, y_ge, y_eqI, y_eqS, y_neI, y_neS, y_eqYI, y_eqYS, y_neYI, y_neYS, y_ixT, y_ixL, y_trB, y_k0, y_k1, y_k2, y_k3, y_k4, y_k5, y_k6, y_lenT, y_lenL, y_lenS, startE, List.map_cons, List.map_nil, List.length_cons, List.length_nil, List.replicate, List.cons_append, List.nil_append, List.append_nil, Nat.sub_self, Nat.reduceSub, Nat.reduceAdd, Nat.reduceLeDiff, Nat.reduceEqDiff, Nat.zero_add, Nat.zero_le, Nat.sub_zero, List.set_cons_zero, List.set_cons_succ, List.getElem?_cons_zero, List.getElem?_cons_succ, Bool.not_true, Bool.not_false, decide_true, decide_false, z_int0, z_int1, z_int2, z_int3, z_int4, z_int5, z_int6, z_bool0, z_bool1, z_bool2, z_bool3, z_bool4, z_bool5, z_bool6, z_str0, z_str1, z_str2, z_str3, z_str4, z_str5, z_str6, z_tuple0, z_tuple1, z_tuple2, z_tuple3, z_tuple4, z_tuple5, z_tuple6, z_list0, z_list1, z_list2, z_list3, z_list4, z_list5, z_list6, z_dict0, z_dict1, z_dict2, z_dict3, z_dict4, z_dict5, z_dict6, decide_eq_false h1, Bool.false_and]
def szO : Ob := .dct [(.inr "plus", .int 2), (.inr "less", .int 2), (.inr "times", .int 2), (.inr "same", .int 2), (.inr "under", .int 2), (.inr "if", .int 3)]
def dsz : Dn Out := dDisp [("plus", (dC (.int 2))), ("less", (dC (.int 2))), ("times", (dC (.int 2))), ("same", (dC (.int 2))), ("under", (dC (.int 2))), ("if", (dC (.int 3)))]
theorem e_dsz (ρ : En) (S : Sto) : dsz ρ S = some (.ok (.own szO) S) := by
  simp only [dsz, dDisp, vals, x_bnd, x_bnS, x_c, x_var, x_varK, x_stl, x_stlV, x_stlL, x_stlE, x_stlD, x_bxd, x_bxV, x_bxK, x_okv, x_okm, x_d2, x_d2K, x_d2L, x_tst, x_tstK, x_ch, x_chK, x_chL, x_chMt, x_chMf, x_chN, x_and, x_andK, x_andT, x_andF, x_or, x_orK, x_orT, x_orF, x_not, x_notK, x_notL, x_tru, x_truK, x_truL, x_band, x_bandT, x_bandF, x_bor, x_borT, x_borF, x_bnot, x_bnotK, x_dif, x_difT, x_difF, x_anil, x_acons, x_aK, x_aL, x_tup, x_tupK, x_lst, x_lstK, x_cl, x_clK, x_fn, x_fnK, x_isi, x_isiK, x_isiL, x_neg, x_negK, x_revL, x_kget, x_kgetK, x_sl, x_slK, x_slL, x_pnone, x_psome, x_psK, x_mt, x_mtK, x_mtL, x_itA, x_itAK, x_itL, x_itSeq, x_seqK, x_itStr, x_istrK, x_comp, x_compK, x_compL, x_wipe1, x_wipe2, x_seq, x_sqN, x_sqR, x_sqB, x_sqC, x_next, x_ret, x_retK, x_retN, x_asg, x_asgB, x_asgK, x_drop, x_dropK, x_if, x_ifT, x_ifF, x_for, x_forK, x_tgt, x_tgtK, x_tgtL, x_tname, x_par, x_parK, x_dput, x_dputK, x_dputK1, x_dputK2, x_dputL, x_def, x_defR, x_defN, y_add, y_sub, y_mul, y_mulX, y_mod, y_fdiv, y_lt, y_le, y_gt, y_ge, y_eqI, y_eqS, y_neI, y_neS, y_eqYI, y_eqYS, y_neYI, y_neYS, y_ixT, y_ixL, y_trB, y_k0, y_k1, y_k2, y_k3, y_k4, y_k5, y_k6, y_lenT, y_lenL, y_lenS, startE, List.map_cons, List.map_nil, List.length_cons, List.length_nil, List.replicate, List.cons_append, List.nil_append, List.append_nil, Nat.sub_self, Nat.reduceSub, Nat.reduceAdd, Nat.reduceLeDiff, Nat.reduceEqDiff, Nat.zero_add, Nat.zero_le, Nat.sub_zero, List.set_cons_zero, List.set_cons_succ, List.getElem?_cons_zero, List.getElem?_cons_succ, Bool.not_true, Bool.not_false, decide_true, decide_false]
  rfl
theorem s_dsz (S : Sto) : stlK (.own szO) S = some (.ok (.ref S.length) (S ++ [szO])) := rfl
theorem sz_at (S : Sto) : (S ++ [szO])[S.length]? = some szO := by
  rw [List.getElem?_append_right (Nat.le_refl _), Nat.sub_self]; rfl
theorem sz_ty (S : Sto) : tyB "dict" (S ++ [szO]) (.ref S.length) = true := ty_dct (sz_at S)
def szI (w : Str) : Int := if w = "plus" ∨ w = "less" ∨ w = "times" ∨ w = "same" ∨ w = "under" then 2 else if w = "if" then 3 else 0
theorem sz_get (S : Sto) : ∀ w ∈ wordL, dgetD (S ++ [szO]) (.ref S.length) [.str w, .int 0] = some (.val (.int (szI w)), S ++ [szO]) := by
  intro w hw
  have v : viewD (S ++ [szO]) (.ref S.length) = some [(.inr "plus", .int 2), (.inr "less", .int 2), (.inr "times", .int 2), (.inr "same", .int 2), (.inr "under", .int 2), (.inr "if", .int 3)] := by
    simp only [viewD, sz_at]
    rfl
  have e : dgetD (S ++ [szO]) (.ref S.length) [.str w, .int 0] = match viewD (S ++ [szO]) (.ref S.length) with
    | some kvs => (getB kvs (.str w) (.int 0)).map fun d => (Out.val d, S ++ [szO])
    | none => none := by
    unfold dgetD
    rw [v]
  rw [e, v]
  unfold wordL at hw
  simp only [List.mem_cons, List.not_mem_nil, or_false] at hw
  rcases hw with rfl | rfl | rfl | rfl | rfl | rfl | rfl | rfl | rfl | rfl | rfl | rfl <;> rfl
theorem looked_eq (k : Nat) : den_law_looked (k + 1) = defD 10 ((sSeq (sIf (bOr (bNot (dTru (dIsi "tuple" (dVar 0)))) (bOr (tst (d2 eqX (dVar 0) (dTup aNil))) (bNot (dTru (dIsi "str" (d2 ixD (dVar 0) (dC (.int 0)))))))) (sRet (dC .non)) sNext)
 (sSeq (sPar 6 7 (aCons (d2 ixD (dVar 0) (dC (.int 0))) (aCons (dSl (dVar 0) (pSome (dC (.int 1))) pNone) aNil)))
 (sSeq (sAsg 3 (dC .non))
 (sSeq (sIf (bAnd (tst (d2 isD (dVar 2) (dC .non))) (bAnd (tst (d2 eqX (dVar 6) (dC (.str "number")))) (bAnd (tst (d2 eqX (dCl lenD (aCons (dVar 7) aNil)) (dC (.int 1)))) (dTru (dFn 3 den_law_among (aCons (d2 ixD (dVar 7) (dC (.int 0))) (aCons (dC (.int 0)) (aCons (dC (.int 99)) aNil)))))))) (sAsg 3 (dLst aNil)) sNext)
 (sSeq (sIf (bAnd (tst (d2 isD (dVar 2) (dC .non))) (bAnd (tst (d2 eqX (dVar 6) (dC (.str "in")))) (bAnd (tst (d2 eqX (dCl lenD (aCons (dVar 7) aNil)) (dC (.int 2)))) (dTru (dFn 3 den_law_among (aCons (d2 ixD (dVar 7) (dC (.int 0))) (aCons (dC (.int 0)) (aCons (d2 subD (dCl lenD (aCons (dVar 1) aNil)) (dC (.int 1))) aNil)))))))) (sAsg 3 (dIf (dTru (dFn 3 den_law_among (aCons (d2 ixD (dVar 7) (dC (.int 1))) (aCons (dC (.int 0)) (aCons (d2 subD (d2 ixD (dVar 1) (d2 ixD (dVar 7) (dC (.int 0)))) (dC (.int 1))) aNil))))) (dLst aNil) (dC .non))) sNext)
 (sSeq (sIf (bAnd (tst (d2 isD (dVar 2) (dC .non))) (bAnd (tst (d2 eqX (dVar 6) (dC (.str "rest")))) (bAnd (tst (d2 eqX (dCl lenD (aCons (dVar 7) aNil)) (dC (.int 2)))) (dTru (dFn 3 den_law_among (aCons (d2 ixD (dVar 7) (dC (.int 1))) (aCons (dC (.int 2)) (aCons (dC (.int 99)) aNil)))))))) (sAsg 3 (dLst (aCons (dTup (aCons (d2 ixD (dVar 7) (dC (.int 0))) (aCons (dC .non) aNil))) aNil))) sNext)
 (sSeq (sAsg 4 dsz)
 (sSeq (sIf (bAnd (tst (d2 isD (dVar 2) (dC .non))) (tst (dChain eqX gtD (dMt "dict" dgetD (dVar 4) (aCons (dVar 6) (aCons (dC (.int 0)) aNil))) (dCl lenD (aCons (dVar 7) aNil)) (dC (.int 0))))) (sAsg 3 (dComp (itSeq (dVar 7)) (tName 8) bYes (dTup (aCons (dVar 8) (aCons (dC .non) aNil))) [8])) sNext)
 (sSeq (sIf (bAnd (tst (d2 isNotD (dVar 2) (dC .non))) (bAnd (tst (d2 eqX (dVar 6) (dC (.str "refuse")))) (tst (d2 eqX (dVar 7) (dTup aNil))))) (sAsg 3 (dLst aNil)) sNext)
 (sSeq (sIf (bAnd (tst (d2 isNotD (dVar 2) (dC .non))) (bAnd (tst (d2 eqX (dVar 6) (dC (.str "give")))) (bAnd (tst (d2 eqX (dCl lenD (aCons (dVar 7) aNil)) (dC (.int 1)))) (bAnd (dTru (dIsi "tuple" (d2 ixD (dVar 7) (dC (.int 0))))) (tst (d2 eqX (dCl lenD (aCons (d2 ixD (dVar 7) (dC (.int 0))) aNil)) (dVar 2))))))) (sAsg 3 (dComp (itSeq (d2 ixD (dVar 7) (dC (.int 0)))) (tName 8) bYes (dTup (aCons (dVar 8) (aCons (dC .non) aNil))) [8])) sNext)
 (sSeq (sIf (bAnd (tst (d2 isNotD (dVar 2) (dC .non))) (bAnd (tst (d2 eqX (dVar 6) (dC (.str "when")))) (tst (d2 eqX (dCl lenD (aCons (dVar 7) aNil)) (dC (.int 3)))))) (sAsg 3 (dLst (aCons (dTup (aCons (d2 ixD (dVar 7) (dC (.int 0))) (aCons (dC .non) aNil))) (aCons (dTup (aCons (d2 ixD (dVar 7) (dC (.int 1))) (aCons (dVar 2) aNil))) (aCons (dTup (aCons (d2 ixD (dVar 7) (dC (.int 2))) (aCons (dVar 2) aNil))) aNil))))) sNext)
 (tailS k)))))))))))))  := rfl
end W10
namespace W10
open Sf L2 PySem PySem.Spec PyProof.Rows
theorem lenT0 (S : Sto) : lenD S [.tup []] = some (.val (.int 0)) := rfl
theorem lenT1 (S : Sto) (a : D) : lenD S [.tup [a]] = some (.val (.int 1)) := rfl
theorem lenT2 (S : Sto) (a b : D) : lenD S [.tup [a, b]] = some (.val (.int 2)) := rfl
theorem lenT3 (S : Sto) (a b c : D) : lenD S [.tup [a, b, c]] = some (.val (.int 3)) := rfl
theorem lenC (S : Sto) (cs : List Int) : lenD S [cD cs] = some (.val (.int cs.length)) := by
  show some (Out.val (.int ((cs.map D.int).length : Nat))) = _
  rw [List.length_map]
theorem is_in (S : Sto) (i : Int) : isD S (.int i) .non = some (.val (.bl false)) := rfl
theorem isn_in (S : Sto) (i : Int) : isNotD S (.int i) .non = some (.val (.bl true)) := rfl
theorem isn_nn (S : Sto) : isNotD S .non .non = some (.val (.bl false)) := rfl
theorem am_ok (S : Sto) {i lo hi : Int} (h1 : lo ≤ i) (h2 : i ≤ hi) : den_law_among [.int i, .int lo, .int hi] S = some (.ok (.val (.bl true)) S) := by
  rw [e_among, decide_eq_true h1, decide_eq_true h2]
  rfl
def fN : Dn Out := dTup (aCons (dVar 8) (aCons (dC .non) aNil))
theorem pair_loop (x0 x1 x2 x3 x4 x5 x6 x7 x8 x9 : Option D) : ∀ (ds : List D) (j : Nat) (S : Sto), j + ds.length ≤ 1000 →
    loopC (tName 8) bYes (dTup (aCons (dVar 8) (aCons (dC .non) aNil))) [x0, x1, x2, x3, x4, x5, x6, x7, x8, x9] ds j S = some (ds.map (fun d => .tup [d, .non]), S)
  | [], _, _, _ => rfl
  | d :: ds, j, S, hj => by
    rw [List.length_cons] at hj
    refine lc_take (S1 := S) (S2 := S) (ρ1 := [x0, x1, x2, x3, x4, x5, x6, x7, some d, x9]) rfl rfl ?_ (by omega) (pair_loop x0 x1 x2 x3 x4 x5 x6 x7 x8 x9 ds (j + 1) S (by omega))
    simp only [x_bnd, x_bnS, x_c, x_var, x_varK, x_stl, x_stlV, x_stlL, x_stlE, x_stlD, x_bxd, x_bxV, x_bxK, x_okv, x_okm, x_d2, x_d2K, x_d2L, x_tst, x_tstK, x_ch, x_chK, x_chL, x_chMt, x_chMf, x_chN, x_and, x_andK, x_andT, x_andF, x_or, x_orK, x_orT, x_orF, x_not, x_notK, x_notL, x_tru, x_truK, x_truL, x_band, x_bandT, x_bandF, x_bor, x_borT, x_borF, x_bnot, x_bnotK, x_dif, x_difT, x_difF, x_anil, x_acons, x_aK, x_aL, x_tup, x_tupK, x_lst, x_lstK, x_cl, x_clK, x_fn, x_fnK, x_isi, x_isiK, x_isiL, x_neg, x_negK, x_revL, x_kget, x_kgetK, x_sl, x_slK, x_slL, x_pnone, x_psome, x_psK, x_mt, x_mtK, x_mtL, x_itA, x_itAK, x_itL, x_itSeq, x_seqK, x_itStr, x_istrK, x_comp, x_compK, x_compL, x_wipe1, x_wipe2, x_seq, x_sqN, x_sqR, x_sqB, x_sqC, x_next, x_ret, x_retK, x_retN, x_asg, x_asgB, x_asgK, x_drop, x_dropK, x_if, x_ifT, x_ifF, x_for, x_forK, x_tgt, x_tgtK, x_tgtL, x_tname, x_par, x_parK, x_dput, x_dputK, x_dputK1, x_dputK2, x_dputL, x_def, x_defR, x_defN, y_add, y_sub, y_mul, y_mulX, y_mod, y_fdiv, y_lt, y_le, y_gt, y_ge, y_eqI, y_eqS, y_neI, y_neS, y_eqYI, y_eqYS, y_neYI, y_neYS, y_ixT, y_ixL, y_trB, y_k0, y_k1, y_k2, y_k3, y_k4, y_k5, y_k6, y_lenT, y_lenL, y_lenS, startE, List.map_cons, List.map_nil, List.length_cons, List.length_nil, List.replicate, List.cons_append, List.nil_append, List.append_nil, Nat.sub_self, Nat.reduceSub, Nat.reduceAdd, Nat.reduceLeDiff, Nat.reduceEqDiff, Nat.zero_add, Nat.zero_le, Nat.sub_zero, List.set_cons_zero, List.set_cons_succ, List.getElem?_cons_zero, List.getElem?_cons_succ, Bool.not_true, Bool.not_false, decide_true, decide_false]
section
variable {cs : List Int} {many : Nat}
theorem e_lookE (hc : okC cs) : ∀ (e : Ex) (k : Nat), okE cs e → e.deep ≤ k → Lk k (cD cs) (e.d, .non)
  | .num i, k, h, hk => fun S => by
    obtain ⟨k, rfl⟩ : ∃ k', k = k' + 1 := ⟨k - 1, by simp only [Ex.deep] at hk; omega⟩
    have am := am_ok S (lo := 0) (hi := 99) h.1 h.2
    have g := sz_get S "number" (by simp [wordL])
    have z : szI "number" = 0 := by decide +kernel
    rw [z] at g
    have sd := s_dsz S
    have ty := sz_ty S
    obtain ⟨p, S', tl, gr⟩ := look_end (k := k) (C := cD cs) (some (.tup [.str "number", .int i])) (some .non) (some (.ref S.length)) none (some (.str "number")) (some (.tup [.int i])) none none [] (S ++ [szO]) (fun _ h => absurd h (by simp)) (by simp)
    simp only [List.map_nil] at tl
    refine ⟨p, S', ?_, (Gr.push S [szO]).trans gr⟩
    generalize S ++ [szO] = S0 at *
    generalize cD cs = C at *
    simp only [looked_eq, Ex.d, x_bnd, x_bnS, x_c, x_var, x_varK, x_stl, x_stlV, x_stlL, x_stlE, x_stlD, x_bxd, x_bxV, x_bxK, x_okv, x_okm, x_d2, x_d2K, x_d2L, x_tst, x_tstK, x_ch, x_chK, x_chL, x_chMt, x_chMf, x_chN, x_and, x_andK, x_andT, x_andF, x_or, x_orK, x_orT, x_orF, x_not, x_notK, x_notL, x_tru, x_truK, x_truL, x_band, x_bandT, x_bandF, x_bor, x_borT, x_borF, x_bnot, x_bnotK, x_dif, x_difT, x_difF, x_anil, x_acons, x_aK, x_aL, x_tup, x_tupK, x_lst, x_lstK, x_cl, x_clK, x_fn, x_fnK, x_isi, x_isiK, x_isiL, x_neg, x_negK, x_revL, x_kget, x_kgetK, x_sl, x_slK, x_slL, x_pnone, x_psome, x_psK, x_mt, x_mtK, x_mtL, x_itA, x_itAK, x_itL, x_itSeq, x_seqK, x_itStr, x_istrK, x_comp, x_compK, x_compL, x_wipe1, x_wipe2, x_seq, x_sqN, x_sqR, x_sqB, x_sqC, x_next, x_ret, x_retK, x_retN, x_asg, x_asgB, x_asgK, x_drop, x_dropK, x_if, x_ifT, x_ifF, x_for, x_forK, x_tgt, x_tgtK, x_tgtL, x_tname, x_par, x_parK, x_dput, x_dputK, x_dputK1, x_dputK2, x_dputL, x_def, x_defR, x_defN, y_add, y_sub, y_mul, y_mulX, y_mod, y_fdiv, y_lt, y_le, y_gt, y_ge, y_eqI, y_eqS, y_neI, y_neS, y_eqYI, y_eqYS, y_neYI, y_neYS, y_ixT, y_ixL, y_trB, y_k0, y_k1, y_k2, y_k3, y_k4, y_k5, y_k6, y_lenL, y_lenS, startE, List.map_cons, List.map_nil, List.length_cons, List.length_nil, List.replicate, List.cons_append, List.nil_append, List.append_nil, Nat.sub_self, Nat.reduceSub, Nat.reduceAdd, Nat.reduceLeDiff, Nat.reduceEqDiff, Nat.zero_add, Nat.zero_le, Nat.sub_zero, List.set_cons_zero, List.set_cons_succ, List.getElem?_cons_zero, List.getElem?_cons_succ, Bool.not_true, Bool.not_false, decide_true, decide_false, Int.reduceEq, Int.reduceLT, Int.reduceLE, Int.reduceSub, Int.reduceAdd, eq_self, Option.map_some, z_int0, z_int1, z_int2, z_int3, z_int4, z_int5, z_int6, z_bool0, z_bool1, z_bool2, z_bool3, z_bool4, z_bool5, z_bool6, z_str0, z_str1, z_str2, z_str3, z_str4, z_str5, z_str6, z_tuple0, z_tuple1, z_tuple2, z_tuple3, z_tuple4, z_tuple5, z_tuple6, z_list0, z_list1, z_list2, z_list3, z_list4, z_list5, z_list6, z_dict0, z_dict1, z_dict2, z_dict3, z_dict4, z_dict5, z_dict6, n_number_in, n_number_rest, n_number_if, n_number_plus, n_number_less, n_number_times, n_number_same, n_number_under, n_number_give, n_number_refuse, n_number_when, n_in_number, n_in_rest, n_in_if, n_in_plus, n_in_less, n_in_times, n_in_same, n_in_under, n_in_give, n_in_refuse, n_in_when, n_rest_number, n_rest_in, n_rest_if, n_rest_plus, n_rest_less, n_rest_times, n_rest_same, n_rest_under, n_rest_give, n_rest_refuse, n_rest_when, n_if_number, n_if_in, n_if_rest, n_if_plus, n_if_less, n_if_times, n_if_same, n_if_under, n_if_give, n_if_refuse, n_if_when, n_plus_number, n_plus_in, n_plus_rest, n_plus_if, n_plus_less, n_plus_times, n_plus_same, n_plus_under, n_plus_give, n_plus_refuse, n_plus_when, n_less_number, n_less_in, n_less_rest, n_less_if, n_less_plus, n_less_times, n_less_same, n_less_under, n_less_give, n_less_refuse, n_less_when, n_times_number, n_times_in, n_times_rest, n_times_if, n_times_plus, n_times_less, n_times_same, n_times_under, n_times_give, n_times_refuse, n_times_when, n_same_number, n_same_in, n_same_rest, n_same_if, n_same_plus, n_same_less, n_same_times, n_same_under, n_same_give, n_same_refuse, n_same_when, n_under_number, n_under_in, n_under_rest, n_under_if, n_under_plus, n_under_less, n_under_times, n_under_same, n_under_give, n_under_refuse, n_under_when, n_give_number, n_give_in, n_give_rest, n_give_if, n_give_plus, n_give_less, n_give_times, n_give_same, n_give_under, n_give_refuse, n_give_when, n_refuse_number, n_refuse_in, n_refuse_rest, n_refuse_if, n_refuse_plus, n_refuse_less, n_refuse_times, n_refuse_same, n_refuse_under, n_refuse_give, n_refuse_when, n_when_number, n_when_in, n_when_rest, n_when_if, n_when_plus, n_when_less, n_when_times, n_when_same, n_when_under, n_when_give, n_when_refuse, y_eqTup0, List.isEmpty_cons, at0, slT, is_nn, isn_nn, lenT1, am, e_dsz, sd, ty, g, tl]
  | .inn a b, k, h, hk => fun S => by
    obtain ⟨k, rfl⟩ : ∃ k', k = k' + 1 := ⟨k - 1, by simp only [Ex.deep] at hk; omega⟩
    obtain ⟨h1, h2, m, h3, h4, h5⟩ := h
    have am := am_ok S (i := a) (lo := 0) (hi := (cs.length : Int) - 1) h1 (by omega)
    have am2 := am_ok S (i := b) (lo := 0) (hi := m - 1) h4 (by omega)
    have lc := lenC S cs
    have ix : ixD S (cD cs) (.int a) = some (.val (.int m)) := by
      unfold cD
      rw [y_ixT, atI_map, atI_some h1 h2, h3]
      rfl
    have g := sz_get S "in" (by simp [wordL])
    have z : szI "in" = 0 := by decide +kernel
    rw [z] at g
    have sd := s_dsz S
    have ty := sz_ty S
    obtain ⟨p, S', tl, gr⟩ := look_end (k := k) (C := cD cs) (some (.tup [.str "in", .int a, .int b])) (some .non) (some (.ref S.length)) none (some (.str "in")) (some (.tup [.int a, .int b])) none none [] (S ++ [szO]) (fun _ h => absurd h (by simp)) (by simp)
    simp only [List.map_nil] at tl
    refine ⟨p, S', ?_, (Gr.push S [szO]).trans gr⟩
    generalize S ++ [szO] = S0 at *
    generalize cD cs = C at *
    simp only [looked_eq, Ex.d, x_bnd, x_bnS, x_c, x_var, x_varK, x_stl, x_stlV, x_stlL, x_stlE, x_stlD, x_bxd, x_bxV, x_bxK, x_okv, x_okm, x_d2, x_d2K, x_d2L, x_tst, x_tstK, x_ch, x_chK, x_chL, x_chMt, x_chMf, x_chN, x_and, x_andK, x_andT, x_andF, x_or, x_orK, x_orT, x_orF, x_not, x_notK, x_notL, x_tru, x_truK, x_truL, x_band, x_bandT, x_bandF, x_bor, x_borT, x_borF, x_bnot, x_bnotK, x_dif, x_difT, x_difF, x_anil, x_acons, x_aK, x_aL, x_tup, x_tupK, x_lst, x_lstK, x_cl, x_clK, x_fn, x_fnK, x_isi, x_isiK, x_isiL, x_neg, x_negK, x_revL, x_kget, x_kgetK, x_sl, x_slK, x_slL, x_pnone, x_psome, x_psK, x_mt, x_mtK, x_mtL, x_itA, x_itAK, x_itL, x_itSeq, x_seqK, x_itStr, x_istrK, x_comp, x_compK, x_compL, x_wipe1, x_wipe2, x_seq, x_sqN, x_sqR, x_sqB, x_sqC, x_next, x_ret, x_retK, x_retN, x_asg, x_asgB, x_asgK, x_drop, x_dropK, x_if, x_ifT, x_ifF, x_for, x_forK, x_tgt, x_tgtK, x_tgtL, x_tname, x_par, x_parK, x_dput, x_dputK, x_dputK1, x_dputK2, x_dputL, x_def, x_defR, x_defN, y_add, y_sub, y_mul, y_mulX, y_mod, y_fdiv, y_lt, y_le, y_gt, y_ge, y_eqI, y_eqS, y_neI, y_neS, y_eqYI, y_eqYS, y_neYI, y_neYS, y_ixT, y_ixL, y_trB, y_k0, y_k1, y_k2, y_k3, y_k4, y_k5, y_k6, y_lenL, y_lenS, startE, List.map_cons, List.map_nil, List.length_cons, List.length_nil, List.replicate, List.cons_append, List.nil_append, List.append_nil, Nat.sub_self, Nat.reduceSub, Nat.reduceAdd, Nat.reduceLeDiff, Nat.reduceEqDiff, Nat.zero_add, Nat.zero_le, Nat.sub_zero, List.set_cons_zero, List.set_cons_succ, List.getElem?_cons_zero, List.getElem?_cons_succ, Bool.not_true, Bool.not_false, decide_true, decide_false, Int.reduceEq, Int.reduceLT, Int.reduceLE, Int.reduceSub, Int.reduceAdd, eq_self, Option.map_some, z_int0, z_int1, z_int2, z_int3, z_int4, z_int5, z_int6, z_bool0, z_bool1, z_bool2, z_bool3, z_bool4, z_bool5, z_bool6, z_str0, z_str1, z_str2, z_str3, z_str4, z_str5, z_str6, z_tuple0, z_tuple1, z_tuple2, z_tuple3, z_tuple4, z_tuple5, z_tuple6, z_list0, z_list1, z_list2, z_list3, z_list4, z_list5, z_list6, z_dict0, z_dict1, z_dict2, z_dict3, z_dict4, z_dict5, z_dict6, n_number_in, n_number_rest, n_number_if, n_number_plus, n_number_less, n_number_times, n_number_same, n_number_under, n_number_give, n_number_refuse, n_number_when, n_in_number, n_in_rest, n_in_if, n_in_plus, n_in_less, n_in_times, n_in_same, n_in_under, n_in_give, n_in_refuse, n_in_when, n_rest_number, n_rest_in, n_rest_if, n_rest_plus, n_rest_less, n_rest_times, n_rest_same, n_rest_under, n_rest_give, n_rest_refuse, n_rest_when, n_if_number, n_if_in, n_if_rest, n_if_plus, n_if_less, n_if_times, n_if_same, n_if_under, n_if_give, n_if_refuse, n_if_when, n_plus_number, n_plus_in, n_plus_rest, n_plus_if, n_plus_less, n_plus_times, n_plus_same, n_plus_under, n_plus_give, n_plus_refuse, n_plus_when, n_less_number, n_less_in, n_less_rest, n_less_if, n_less_plus, n_less_times, n_less_same, n_less_under, n_less_give, n_less_refuse, n_less_when, n_times_number, n_times_in, n_times_rest, n_times_if, n_times_plus, n_times_less, n_times_same, n_times_under, n_times_give, n_times_refuse, n_times_when, n_same_number, n_same_in, n_same_rest, n_same_if, n_same_plus, n_same_less, n_same_times, n_same_under, n_same_give, n_same_refuse, n_same_when, n_under_number, n_under_in, n_under_rest, n_under_if, n_under_plus, n_under_less, n_under_times, n_under_same, n_under_give, n_under_refuse, n_under_when, n_give_number, n_give_in, n_give_rest, n_give_if, n_give_plus, n_give_less, n_give_times, n_give_same, n_give_under, n_give_refuse, n_give_when, n_refuse_number, n_refuse_in, n_refuse_rest, n_refuse_if, n_refuse_plus, n_refuse_less, n_refuse_times, n_refuse_same, n_refuse_under, n_refuse_give, n_refuse_when, n_when_number, n_when_in, n_when_rest, n_when_if, n_when_plus, n_when_less, n_when_times, n_when_same, n_when_under, n_when_give, n_when_refuse, y_eqTup0, List.isEmpty_cons, at0, at1, slT, is_nn, isn_nn, lenT2, lc, am, ix, am2, e_dsz, sd, ty, g, tl]
  | .rest e m, k, h, hk => fun S => by
    simp only [Ex.deep] at hk
    obtain ⟨k, rfl⟩ : ∃ k', k = k' + 1 := ⟨k - 1, by omega⟩
    obtain ⟨h1, h2, h3⟩ := h
    have am := am_ok S (lo := 2) (hi := 99) h2 h3
    have g := sz_get S "rest" (by simp [wordL])
    have z : szI "rest" = 0 := by decide +kernel
    rw [z] at g
    have sd := s_dsz S
    have ty := sz_ty S
    have ih := e_lookE hc e k h1 (by omega)
    obtain ⟨p, S', tl, gr⟩ := look_end (k := k) (C := cD cs) (some (.tup [.str "rest", e.d, .int m])) (some .non) (some (.ref S.length)) none (some (.str "rest")) (some (.tup [e.d, .int m])) none none [(e.d, .non)] (S ++ [szO]) (fun x hx => by rw [List.mem_singleton.mp hx]; exact ih) (by simp)
    simp only [List.map_cons, List.map_nil] at tl
    refine ⟨p, S', ?_, (Gr.push S [szO]).trans gr⟩
    generalize S ++ [szO] = S0 at *
    generalize cD cs = C at *
    simp only [looked_eq, Ex.d, x_bnd, x_bnS, x_c, x_var, x_varK, x_stl, x_stlV, x_stlL, x_stlE, x_stlD, x_bxd, x_bxV, x_bxK, x_okv, x_okm, x_d2, x_d2K, x_d2L, x_tst, x_tstK, x_ch, x_chK, x_chL, x_chMt, x_chMf, x_chN, x_and, x_andK, x_andT, x_andF, x_or, x_orK, x_orT, x_orF, x_not, x_notK, x_notL, x_tru, x_truK, x_truL, x_band, x_bandT, x_bandF, x_bor, x_borT, x_borF, x_bnot, x_bnotK, x_dif, x_difT, x_difF, x_anil, x_acons, x_aK, x_aL, x_tup, x_tupK, x_lst, x_lstK, x_cl, x_clK, x_fn, x_fnK, x_isi, x_isiK, x_isiL, x_neg, x_negK, x_revL, x_kget, x_kgetK, x_sl, x_slK, x_slL, x_pnone, x_psome, x_psK, x_mt, x_mtK, x_mtL, x_itA, x_itAK, x_itL, x_itSeq, x_seqK, x_itStr, x_istrK, x_comp, x_compK, x_compL, x_wipe1, x_wipe2, x_seq, x_sqN, x_sqR, x_sqB, x_sqC, x_next, x_ret, x_retK, x_retN, x_asg, x_asgB, x_asgK, x_drop, x_dropK, x_if, x_ifT, x_ifF, x_for, x_forK, x_tgt, x_tgtK, x_tgtL, x_tname, x_par, x_parK, x_dput, x_dputK, x_dputK1, x_dputK2, x_dputL, x_def, x_defR, x_defN, y_add, y_sub, y_mul, y_mulX, y_mod, y_fdiv, y_lt, y_le, y_gt, y_ge, y_eqI, y_eqS, y_neI, y_neS, y_eqYI, y_eqYS, y_neYI, y_neYS, y_ixT, y_ixL, y_trB, y_k0, y_k1, y_k2, y_k3, y_k4, y_k5, y_k6, y_lenL, y_lenS, startE, List.map_cons, List.map_nil, List.length_cons, List.length_nil, List.replicate, List.cons_append, List.nil_append, List.append_nil, Nat.sub_self, Nat.reduceSub, Nat.reduceAdd, Nat.reduceLeDiff, Nat.reduceEqDiff, Nat.zero_add, Nat.zero_le, Nat.sub_zero, List.set_cons_zero, List.set_cons_succ, List.getElem?_cons_zero, List.getElem?_cons_succ, Bool.not_true, Bool.not_false, decide_true, decide_false, Int.reduceEq, Int.reduceLT, Int.reduceLE, Int.reduceSub, Int.reduceAdd, eq_self, Option.map_some, z_int0, z_int1, z_int2, z_int3, z_int4, z_int5, z_int6, z_bool0, z_bool1, z_bool2, z_bool3, z_bool4, z_bool5, z_bool6, z_str0, z_str1, z_str2, z_str3, z_str4, z_str5, z_str6, z_tuple0, z_tuple1, z_tuple2, z_tuple3, z_tuple4, z_tuple5, z_tuple6, z_list0, z_list1, z_list2, z_list3, z_list4, z_list5, z_list6, z_dict0, z_dict1, z_dict2, z_dict3, z_dict4, z_dict5, z_dict6, n_number_in, n_number_rest, n_number_if, n_number_plus, n_number_less, n_number_times, n_number_same, n_number_under, n_number_give, n_number_refuse, n_number_when, n_in_number, n_in_rest, n_in_if, n_in_plus, n_in_less, n_in_times, n_in_same, n_in_under, n_in_give, n_in_refuse, n_in_when, n_rest_number, n_rest_in, n_rest_if, n_rest_plus, n_rest_less, n_rest_times, n_rest_same, n_rest_under, n_rest_give, n_rest_refuse, n_rest_when, n_if_number, n_if_in, n_if_rest, n_if_plus, n_if_less, n_if_times, n_if_same, n_if_under, n_if_give, n_if_refuse, n_if_when, n_plus_number, n_plus_in, n_plus_rest, n_plus_if, n_plus_less, n_plus_times, n_plus_same, n_plus_under, n_plus_give, n_plus_refuse, n_plus_when, n_less_number, n_less_in, n_less_rest, n_less_if, n_less_plus, n_less_times, n_less_same, n_less_under, n_less_give, n_less_refuse, n_less_when, n_times_number, n_times_in, n_times_rest, n_times_if, n_times_plus, n_times_less, n_times_same, n_times_under, n_times_give, n_times_refuse, n_times_when, n_same_number, n_same_in, n_same_rest, n_same_if, n_same_plus, n_same_less, n_same_times, n_same_under, n_same_give, n_same_refuse, n_same_when, n_under_number, n_under_in, n_under_rest, n_under_if, n_under_plus, n_under_less, n_under_times, n_under_same, n_under_give, n_under_refuse, n_under_when, n_give_number, n_give_in, n_give_rest, n_give_if, n_give_plus, n_give_less, n_give_times, n_give_same, n_give_under, n_give_refuse, n_give_when, n_refuse_number, n_refuse_in, n_refuse_rest, n_refuse_if, n_refuse_plus, n_refuse_less, n_refuse_times, n_refuse_same, n_refuse_under, n_refuse_give, n_refuse_when, n_when_number, n_when_in, n_when_rest, n_when_if, n_when_plus, n_when_less, n_when_times, n_when_same, n_when_under, n_when_give, n_when_refuse, y_eqTup0, List.isEmpty_cons, at0, at1, slT, is_nn, isn_nn, lenT2, am, e_dsz, sd, ty, g, tl]
  | .iff c a b, k, h, hk => fun S => by
    simp only [Ex.deep] at hk
    obtain ⟨k, rfl⟩ : ∃ k', k = k' + 1 := ⟨k - 1, by omega⟩
    obtain ⟨h1, h2, h3⟩ := h
    have g := sz_get S "if" (by simp [wordL])
    have z : szI "if" = 3 := by decide +kernel
    rw [z] at g
    have sd := s_dsz S
    have ty := sz_ty S
    have i1 := e_lookE hc c k h1 (by omega)
    have i2 := e_lookE hc a k h2 (by omega)
    have i3 := e_lookE hc b k h3 (by omega)
    obtain ⟨p, S', tl, gr⟩ := look_end (k := k) (C := cD cs) (some (.tup [.str "if", c.d, a.d, b.d])) (some .non) (some (.ref S.length)) none (some (.str "if")) (some (.tup [c.d, a.d, b.d])) none none [(c.d, .non), (a.d, .non), (b.d, .non)] (S ++ [szO])
      (fun x hx => by
        simp only [List.mem_cons, List.not_mem_nil, or_false] at hx
        rcases hx with rfl | rfl | rfl
        · exact i1
        · exact i2
        · exact i3) (by simp)
    have pl := pair_loop (some (.tup [.str "if", c.d, a.d, b.d])) (some (cD cs)) (some .non) (some .non) (some (.ref S.length)) none (some (.str "if")) (some (.tup [c.d, a.d, b.d])) none none [c.d, a.d, b.d] 0 (S ++ [szO]) (by simp)
    simp only [List.map_cons, List.map_nil] at tl pl
    refine ⟨p, S', ?_, (Gr.push S [szO]).trans gr⟩
    generalize S ++ [szO] = S0 at *
    generalize cD cs = C at *
    simp only [looked_eq, Ex.d, x_bnd, x_bnS, x_c, x_var, x_varK, x_stl, x_stlV, x_stlL, x_stlE, x_stlD, x_bxd, x_bxV, x_bxK, x_okv, x_okm, x_d2, x_d2K, x_d2L, x_tst, x_tstK, x_ch, x_chK, x_chL, x_chMt, x_chMf, x_chN, x_and, x_andK, x_andT, x_andF, x_or, x_orK, x_orT, x_orF, x_not, x_notK, x_notL, x_tru, x_truK, x_truL, x_band, x_bandT, x_bandF, x_bor, x_borT, x_borF, x_bnot, x_bnotK, x_dif, x_difT, x_difF, x_anil, x_acons, x_aK, x_aL, x_tup, x_tupK, x_lst, x_lstK, x_cl, x_clK, x_fn, x_fnK, x_isi, x_isiK, x_isiL, x_neg, x_negK, x_revL, x_kget, x_kgetK, x_sl, x_slK, x_slL, x_pnone, x_psome, x_psK, x_mt, x_mtK, x_mtL, x_itA, x_itAK, x_itL, x_itSeq, x_seqK, x_itStr, x_istrK, x_comp, x_compK, x_compL, x_wipe1, x_wipe2, x_seq, x_sqN, x_sqR, x_sqB, x_sqC, x_next, x_ret, x_retK, x_retN, x_asg, x_asgB, x_asgK, x_drop, x_dropK, x_if, x_ifT, x_ifF, x_for, x_forK, x_tgt, x_tgtK, x_tgtL, x_tname, x_par, x_parK, x_dput, x_dputK, x_dputK1, x_dputK2, x_dputL, x_def, x_defR, x_defN, y_add, y_sub, y_mul, y_mulX, y_mod, y_fdiv, y_lt, y_le, y_gt, y_ge, y_eqI, y_eqS, y_neI, y_neS, y_eqYI, y_eqYS, y_neYI, y_neYS, y_ixT, y_ixL, y_trB, y_k0, y_k1, y_k2, y_k3, y_k4, y_k5, y_k6, y_lenL, y_lenS, startE, List.map_cons, List.map_nil, List.length_cons, List.length_nil, List.replicate, List.cons_append, List.nil_append, List.append_nil, Nat.sub_self, Nat.reduceSub, Nat.reduceAdd, Nat.reduceLeDiff, Nat.reduceEqDiff, Nat.zero_add, Nat.zero_le, Nat.sub_zero, List.set_cons_zero, List.set_cons_succ, List.getElem?_cons_zero, List.getElem?_cons_succ, Bool.not_true, Bool.not_false, decide_true, decide_false, Int.reduceEq, Int.reduceLT, Int.reduceLE, Int.reduceSub, Int.reduceAdd, eq_self, Option.map_some, z_int0, z_int1, z_int2, z_int3, z_int4, z_int5, z_int6, z_bool0, z_bool1, z_bool2, z_bool3, z_bool4, z_bool5, z_bool6, z_str0, z_str1, z_str2, z_str3, z_str4, z_str5, z_str6, z_tuple0, z_tuple1, z_tuple2, z_tuple3, z_tuple4, z_tuple5, z_tuple6, z_list0, z_list1, z_list2, z_list3, z_list4, z_list5, z_list6, z_dict0, z_dict1, z_dict2, z_dict3, z_dict4, z_dict5, z_dict6, n_number_in, n_number_rest, n_number_if, n_number_plus, n_number_less, n_number_times, n_number_same, n_number_under, n_number_give, n_number_refuse, n_number_when, n_in_number, n_in_rest, n_in_if, n_in_plus, n_in_less, n_in_times, n_in_same, n_in_under, n_in_give, n_in_refuse, n_in_when, n_rest_number, n_rest_in, n_rest_if, n_rest_plus, n_rest_less, n_rest_times, n_rest_same, n_rest_under, n_rest_give, n_rest_refuse, n_rest_when, n_if_number, n_if_in, n_if_rest, n_if_plus, n_if_less, n_if_times, n_if_same, n_if_under, n_if_give, n_if_refuse, n_if_when, n_plus_number, n_plus_in, n_plus_rest, n_plus_if, n_plus_less, n_plus_times, n_plus_same, n_plus_under, n_plus_give, n_plus_refuse, n_plus_when, n_less_number, n_less_in, n_less_rest, n_less_if, n_less_plus, n_less_times, n_less_same, n_less_under, n_less_give, n_less_refuse, n_less_when, n_times_number, n_times_in, n_times_rest, n_times_if, n_times_plus, n_times_less, n_times_same, n_times_under, n_times_give, n_times_refuse, n_times_when, n_same_number, n_same_in, n_same_rest, n_same_if, n_same_plus, n_same_less, n_same_times, n_same_under, n_same_give, n_same_refuse, n_same_when, n_under_number, n_under_in, n_under_rest, n_under_if, n_under_plus, n_under_less, n_under_times, n_under_same, n_under_give, n_under_refuse, n_under_when, n_give_number, n_give_in, n_give_rest, n_give_if, n_give_plus, n_give_less, n_give_times, n_give_same, n_give_under, n_give_refuse, n_give_when, n_refuse_number, n_refuse_in, n_refuse_rest, n_refuse_if, n_refuse_plus, n_refuse_less, n_refuse_times, n_refuse_same, n_refuse_under, n_refuse_give, n_refuse_when, n_when_number, n_when_in, n_when_rest, n_when_if, n_when_plus, n_when_less, n_when_times, n_when_same, n_when_under, n_when_give, n_when_refuse, y_eqTup0, List.isEmpty_cons, at0, at1, slT, is_nn, isn_nn, lenT3, fixed, e_dsz, sd, ty, g, pl, tl]
  | .two w a b, k, h, hk => fun S => by
    simp only [Ex.deep] at hk
    obtain ⟨k, rfl⟩ : ∃ k', k = k' + 1 := ⟨k - 1, by omega⟩
    obtain ⟨h1, h2⟩ := h
    have g := sz_get S w.t (w_mem w)
    have z : szI w.t = 2 := by cases w <;> decide +kernel
    rw [z] at g
    have sd := s_dsz S
    have ty := sz_ty S
    have i1 := e_lookE hc a k h1 (by omega)
    have i2 := e_lookE hc b k h2 (by omega)
    obtain ⟨w1, w2, w3, w4⟩ := wne w
    obtain ⟨p, S', tl, gr⟩ := look_end (k := k) (C := cD cs) (some (.tup [.str w.t, a.d, b.d])) (some .non) (some (.ref S.length)) none (some (.str w.t)) (some (.tup [a.d, b.d])) none none [(a.d, .non), (b.d, .non)] (S ++ [szO])
      (fun x hx => by
        simp only [List.mem_cons, List.not_mem_nil, or_false] at hx
        rcases hx with rfl | rfl
        · exact i1
        · exact i2) (by simp)
    have pl := pair_loop (some (.tup [.str w.t, a.d, b.d])) (some (cD cs)) (some .non) (some .non) (some (.ref S.length)) none (some (.str w.t)) (some (.tup [a.d, b.d])) none none [a.d, b.d] 0 (S ++ [szO]) (by simp)
    simp only [List.map_cons, List.map_nil] at tl pl
    refine ⟨p, S', ?_, (Gr.push S [szO]).trans gr⟩
    generalize S ++ [szO] = S0 at *
    generalize cD cs = C at *
    simp only [looked_eq, Ex.d, x_bnd, x_bnS, x_c, x_var, x_varK, x_stl, x_stlV, x_stlL, x_stlE, x_stlD, x_bxd, x_bxV, x_bxK, x_okv, x_okm, x_d2, x_d2K, x_d2L, x_tst, x_tstK, x_ch, x_chK, x_chL, x_chMt, x_chMf, x_chN, x_and, x_andK, x_andT, x_andF, x_or, x_orK, x_orT, x_orF, x_not, x_notK, x_notL, x_tru, x_truK, x_truL, x_band, x_bandT, x_bandF, x_bor, x_borT, x_borF, x_bnot, x_bnotK, x_dif, x_difT, x_difF, x_anil, x_acons, x_aK, x_aL, x_tup, x_tupK, x_lst, x_lstK, x_cl, x_clK, x_fn, x_fnK, x_isi, x_isiK, x_isiL, x_neg, x_negK, x_revL, x_kget, x_kgetK, x_sl, x_slK, x_slL, x_pnone, x_psome, x_psK, x_mt, x_mtK, x_mtL, x_itA, x_itAK, x_itL, x_itSeq, x_seqK, x_itStr, x_istrK, x_comp, x_compK, x_compL, x_wipe1, x_wipe2, x_seq, x_sqN, x_sqR, x_sqB, x_sqC, x_next, x_ret, x_retK, x_retN, x_asg, x_asgB, x_asgK, x_drop, x_dropK, x_if, x_ifT, x_ifF, x_for, x_forK, x_tgt, x_tgtK, x_tgtL, x_tname, x_par, x_parK, x_dput, x_dputK, x_dputK1, x_dputK2, x_dputL, x_def, x_defR, x_defN, y_add, y_sub, y_mul, y_mulX, y_mod, y_fdiv, y_lt, y_le, y_gt, y_ge, y_eqI, y_eqS, y_neI, y_neS, y_eqYI, y_eqYS, y_neYI, y_neYS, y_ixT, y_ixL, y_trB, y_k0, y_k1, y_k2, y_k3, y_k4, y_k5, y_k6, y_lenL, y_lenS, startE, List.map_cons, List.map_nil, List.length_cons, List.length_nil, List.replicate, List.cons_append, List.nil_append, List.append_nil, Nat.sub_self, Nat.reduceSub, Nat.reduceAdd, Nat.reduceLeDiff, Nat.reduceEqDiff, Nat.zero_add, Nat.zero_le, Nat.sub_zero, List.set_cons_zero, List.set_cons_succ, List.getElem?_cons_zero, List.getElem?_cons_succ, Bool.not_true, Bool.not_false, decide_true, decide_false, Int.reduceEq, Int.reduceLT, Int.reduceLE, Int.reduceSub, Int.reduceAdd, eq_self, Option.map_some, z_int0, z_int1, z_int2, z_int3, z_int4, z_int5, z_int6, z_bool0, z_bool1, z_bool2, z_bool3, z_bool4, z_bool5, z_bool6, z_str0, z_str1, z_str2, z_str3, z_str4, z_str5, z_str6, z_tuple0, z_tuple1, z_tuple2, z_tuple3, z_tuple4, z_tuple5, z_tuple6, z_list0, z_list1, z_list2, z_list3, z_list4, z_list5, z_list6, z_dict0, z_dict1, z_dict2, z_dict3, z_dict4, z_dict5, z_dict6, w1, w2, w3, w4, y_eqTup0, List.isEmpty_cons, at0, at1, slT, is_nn, isn_nn, lenT2, fixed, e_dsz, sd, ty, g, pl, tl]
end
end W10
namespace W10
open Sf L2 PySem PySem.Spec PyProof.Rows
section
variable {cs : List Int} {many : Nat}
theorem e_lookB (hc : okC cs) (hm : many ≤ 50) : ∀ (b : Bd) (k : Nat), okB cs many b → b.deep + 3 ≤ k → Lk k (cD cs) (b.d, .int (many : Int))
  | .refuse, k, h, hk => fun S => by
    obtain ⟨k, rfl⟩ : ∃ k', k = k' + 1 := ⟨k - 1, by omega⟩
    have sd := s_dsz S
    obtain ⟨p, S', tl, gr⟩ := look_end (k := k) (C := cD cs) (some (.tup [.str "refuse"])) (some (.int (many : Int))) (some (.ref S.length)) none (some (.str "refuse")) (some (.tup [])) none none [] (S ++ [szO]) (fun _ h => absurd h (by simp)) (by simp)
    simp only [List.map_nil] at tl
    refine ⟨p, S', ?_, (Gr.push S [szO]).trans gr⟩
    generalize S ++ [szO] = S0 at *
    generalize cD cs = C at *
    simp only [looked_eq, Bd.d, x_bnd, x_bnS, x_c, x_var, x_varK, x_stl, x_stlV, x_stlL, x_stlE, x_stlD, x_bxd, x_bxV, x_bxK, x_okv, x_okm, x_d2, x_d2K, x_d2L, x_tst, x_tstK, x_ch, x_chK, x_chL, x_chMt, x_chMf, x_chN, x_and, x_andK, x_andT, x_andF, x_or, x_orK, x_orT, x_orF, x_not, x_notK, x_notL, x_tru, x_truK, x_truL, x_band, x_bandT, x_bandF, x_bor, x_borT, x_borF, x_bnot, x_bnotK, x_dif, x_difT, x_difF, x_anil, x_acons, x_aK, x_aL, x_tup, x_tupK, x_lst, x_lstK, x_cl, x_clK, x_fn, x_fnK, x_isi, x_isiK, x_isiL, x_neg, x_negK, x_revL, x_kget, x_kgetK, x_sl, x_slK, x_slL, x_pnone, x_psome, x_psK, x_mt, x_mtK, x_mtL, x_itA, x_itAK, x_itL, x_itSeq, x_seqK, x_itStr, x_istrK, x_comp, x_compK, x_compL, x_wipe1, x_wipe2, x_seq, x_sqN, x_sqR, x_sqB, x_sqC, x_next, x_ret, x_retK, x_retN, x_asg, x_asgB, x_asgK, x_drop, x_dropK, x_if, x_ifT, x_ifF, x_for, x_forK, x_tgt, x_tgtK, x_tgtL, x_tname, x_par, x_parK, x_dput, x_dputK, x_dputK1, x_dputK2, x_dputL, x_def, x_defR, x_defN, y_add, y_sub, y_mul, y_mulX, y_mod, y_fdiv, y_lt, y_le, y_gt, y_ge, y_eqI, y_eqS, y_neI, y_neS, y_eqYI, y_eqYS, y_neYI, y_neYS, y_ixT, y_ixL, y_trB, y_k0, y_k1, y_k2, y_k3, y_k4, y_k5, y_k6, y_lenL, y_lenS, startE, List.map_cons, List.map_nil, List.length_cons, List.length_nil, List.replicate, List.cons_append, List.nil_append, List.append_nil, Nat.sub_self, Nat.reduceSub, Nat.reduceAdd, Nat.reduceLeDiff, Nat.reduceEqDiff, Nat.zero_add, Nat.zero_le, Nat.sub_zero, List.set_cons_zero, List.set_cons_succ, List.getElem?_cons_zero, List.getElem?_cons_succ, Bool.not_true, Bool.not_false, decide_true, decide_false, Int.reduceEq, Int.reduceLT, Int.reduceLE, Int.reduceSub, Int.reduceAdd, eq_self, Option.map_some, z_int0, z_int1, z_int2, z_int3, z_int4, z_int5, z_int6, z_bool0, z_bool1, z_bool2, z_bool3, z_bool4, z_bool5, z_bool6, z_str0, z_str1, z_str2, z_str3, z_str4, z_str5, z_str6, z_tuple0, z_tuple1, z_tuple2, z_tuple3, z_tuple4, z_tuple5, z_tuple6, z_list0, z_list1, z_list2, z_list3, z_list4, z_list5, z_list6, z_dict0, z_dict1, z_dict2, z_dict3, z_dict4, z_dict5, z_dict6, n_number_in, n_number_rest, n_number_if, n_number_plus, n_number_less, n_number_times, n_number_same, n_number_under, n_number_give, n_number_refuse, n_number_when, n_in_number, n_in_rest, n_in_if, n_in_plus, n_in_less, n_in_times, n_in_same, n_in_under, n_in_give, n_in_refuse, n_in_when, n_rest_number, n_rest_in, n_rest_if, n_rest_plus, n_rest_less, n_rest_times, n_rest_same, n_rest_under, n_rest_give, n_rest_refuse, n_rest_when, n_if_number, n_if_in, n_if_rest, n_if_plus, n_if_less, n_if_times, n_if_same, n_if_under, n_if_give, n_if_refuse, n_if_when, n_plus_number, n_plus_in, n_plus_rest, n_plus_if, n_plus_less, n_plus_times, n_plus_same, n_plus_under, n_plus_give, n_plus_refuse, n_plus_when, n_less_number, n_less_in, n_less_rest, n_less_if, n_less_plus, n_less_times, n_less_same, n_less_under, n_less_give, n_less_refuse, n_less_when, n_times_number, n_times_in, n_times_rest, n_times_if, n_times_plus, n_times_less, n_times_same, n_times_under, n_times_give, n_times_refuse, n_times_when, n_same_number, n_same_in, n_same_rest, n_same_if, n_same_plus, n_same_less, n_same_times, n_same_under, n_same_give, n_same_refuse, n_same_when, n_under_number, n_under_in, n_under_rest, n_under_if, n_under_plus, n_under_less, n_under_times, n_under_same, n_under_give, n_under_refuse, n_under_when, n_give_number, n_give_in, n_give_rest, n_give_if, n_give_plus, n_give_less, n_give_times, n_give_same, n_give_under, n_give_refuse, n_give_when, n_refuse_number, n_refuse_in, n_refuse_rest, n_refuse_if, n_refuse_plus, n_refuse_less, n_refuse_times, n_refuse_same, n_refuse_under, n_refuse_give, n_refuse_when, n_when_number, n_when_in, n_when_rest, n_when_if, n_when_plus, n_when_less, n_when_times, n_when_same, n_when_under, n_when_give, n_when_refuse, y_eqTup0, List.isEmpty_cons, List.isEmpty_nil, at0, slT, is_in, isn_in, e_dsz, sd, tl]
  | .give es, k, h, hk => fun S => by
    obtain ⟨k, rfl⟩ : ∃ k', k = k' + 1 := ⟨k - 1, by omega⟩
    simp only [Bd.deep] at hk
    have sd := s_dsz S
    have ih : ∀ e ∈ es, Lk k (cD cs) (e.d, .non) := fun e he => e_lookE hc e k (h.2 e he).1 (by have := (h.2 e he).2; omega)
    have hl : (es.map Ex.d).length = many := by rw [List.length_map]; exact h.1
    have ln : ∀ S, lenD S [.tup (es.map Ex.d)] = some (.val (.int (many : Int))) := fun S => by rw [← hl]; rfl
    obtain ⟨p, S', tl, gr⟩ := look_end (k := k) (C := cD cs) (some (.tup [.str "give", .tup (es.map Ex.d)])) (some (.int (many : Int))) (some (.ref S.length)) none (some (.str "give")) (some (.tup [.tup (es.map Ex.d)])) none none (es.map fun e => (e.d, .non)) (S ++ [szO])
      (fun x hx => by
        obtain ⟨e, he, rfl⟩ := List.mem_map.mp hx
        exact ih e he) (by rw [List.length_map]; have := h.1; omega)
    have pl := pair_loop (some (.tup [.str "give", .tup (es.map Ex.d)])) (some (cD cs)) (some (.int (many : Int))) (some .non) (some (.ref S.length)) none (some (.str "give")) (some (.tup [.tup (es.map Ex.d)])) none none (es.map Ex.d) 0 (S ++ [szO]) (by omega)
    rw [List.map_map] at tl pl
    refine ⟨p, S', ?_, (Gr.push S [szO]).trans gr⟩
    have e1 : (fun x : D × D => D.tup [x.1, x.2]) ∘ (fun e : Ex => (e.d, D.non)) = (fun d : D => D.tup [d, .non]) ∘ Ex.d := rfl
    rw [e1] at tl
    generalize List.map ((fun d : D => D.tup [d, .non]) ∘ Ex.d) es = Q at tl pl
    generalize S ++ [szO] = S0 at *
    generalize cD cs = C at *
    simp only [Bd.d]
    generalize es.map Ex.d = E at *
    simp only [looked_eq, x_bnd, x_bnS, x_c, x_var, x_varK, x_stl, x_stlV, x_stlL, x_stlE, x_stlD, x_bxd, x_bxV, x_bxK, x_okv, x_okm, x_d2, x_d2K, x_d2L, x_tst, x_tstK, x_ch, x_chK, x_chL, x_chMt, x_chMf, x_chN, x_and, x_andK, x_andT, x_andF, x_or, x_orK, x_orT, x_orF, x_not, x_notK, x_notL, x_tru, x_truK, x_truL, x_band, x_bandT, x_bandF, x_bor, x_borT, x_borF, x_bnot, x_bnotK, x_dif, x_difT, x_difF, x_anil, x_acons, x_aK, x_aL, x_tup, x_tupK, x_lst, x_lstK, x_cl, x_clK, x_fn, x_fnK, x_isi, x_isiK, x_isiL, x_neg, x_negK, x_revL, x_kget, x_kgetK, x_sl, x_slK, x_slL, x_pnone, x_psome, x_psK, x_mt, x_mtK, x_mtL, x_itA, x_itAK, x_itL, x_itSeq, x_seqK, x_itStr, x_istrK, x_comp, x_compK, x_compL, x_wipe1, x_wipe2, x_seq, x_sqN, x_sqR, x_sqB, x_sqC, x_next, x_ret, x_retK, x_retN, x_asg, x_asgB, x_asgK, x_drop, x_dropK, x_if, x_ifT, x_ifF, x_for, x_forK, x_tgt, x_tgtK, x_tgtL, x_tname, x_par, x_parK, x_dput, x_dputK, x_dputK1, x_dputK2, x_dputL, x_def, x_defR, x_defN, y_add, y_sub, y_mul, y_mulX, y_mod, y_fdiv, y_lt, y_le, y_gt, y_ge, y_eqI, y_eqS, y_neI, y_neS, y_eqYI, y_eqYS, y_neYI, y_neYS, y_ixT, y_ixL, y_trB, y_k0, y_k1, y_k2, y_k3, y_k4, y_k5, y_k6, y_lenL, y_lenS, startE, List.map_cons, List.map_nil, List.length_cons, List.length_nil, List.replicate, List.cons_append, List.nil_append, List.append_nil, Nat.sub_self, Nat.reduceSub, Nat.reduceAdd, Nat.reduceLeDiff, Nat.reduceEqDiff, Nat.zero_add, Nat.zero_le, Nat.sub_zero, List.set_cons_zero, List.set_cons_succ, List.getElem?_cons_zero, List.getElem?_cons_succ, Bool.not_true, Bool.not_false, decide_true, decide_false, Int.reduceEq, Int.reduceLT, Int.reduceLE, Int.reduceSub, Int.reduceAdd, eq_self, Option.map_some, z_int0, z_int1, z_int2, z_int3, z_int4, z_int5, z_int6, z_bool0, z_bool1, z_bool2, z_bool3, z_bool4, z_bool5, z_bool6, z_str0, z_str1, z_str2, z_str3, z_str4, z_str5, z_str6, z_tuple0, z_tuple1, z_tuple2, z_tuple3, z_tuple4, z_tuple5, z_tuple6, z_list0, z_list1, z_list2, z_list3, z_list4, z_list5, z_list6, z_dict0, z_dict1, z_dict2, z_dict3, z_dict4, z_dict5, z_dict6, n_number_in, n_number_rest, n_number_if, n_number_plus, n_number_less, n_number_times, n_number_same, n_number_under, n_number_give, n_number_refuse, n_number_when, n_in_number, n_in_rest, n_in_if, n_in_plus, n_in_less, n_in_times, n_in_same, n_in_under, n_in_give, n_in_refuse, n_in_when, n_rest_number, n_rest_in, n_rest_if, n_rest_plus, n_rest_less, n_rest_times, n_rest_same, n_rest_under, n_rest_give, n_rest_refuse, n_rest_when, n_if_number, n_if_in, n_if_rest, n_if_plus, n_if_less, n_if_times, n_if_same, n_if_under, n_if_give, n_if_refuse, n_if_when, n_plus_number, n_plus_in, n_plus_rest, n_plus_if, n_plus_less, n_plus_times, n_plus_same, n_plus_under, n_plus_give, n_plus_refuse, n_plus_when, n_less_number, n_less_in, n_less_rest, n_less_if, n_less_plus, n_less_times, n_less_same, n_less_under, n_less_give, n_less_refuse, n_less_when, n_times_number, n_times_in, n_times_rest, n_times_if, n_times_plus, n_times_less, n_times_same, n_times_under, n_times_give, n_times_refuse, n_times_when, n_same_number, n_same_in, n_same_rest, n_same_if, n_same_plus, n_same_less, n_same_times, n_same_under, n_same_give, n_same_refuse, n_same_when, n_under_number, n_under_in, n_under_rest, n_under_if, n_under_plus, n_under_less, n_under_times, n_under_same, n_under_give, n_under_refuse, n_under_when, n_give_number, n_give_in, n_give_rest, n_give_if, n_give_plus, n_give_less, n_give_times, n_give_same, n_give_under, n_give_refuse, n_give_when, n_refuse_number, n_refuse_in, n_refuse_rest, n_refuse_if, n_refuse_plus, n_refuse_less, n_refuse_times, n_refuse_same, n_refuse_under, n_refuse_give, n_refuse_when, n_when_number, n_when_in, n_when_rest, n_when_if, n_when_plus, n_when_less, n_when_times, n_when_same, n_when_under, n_when_give, n_when_refuse, y_eqTup0, List.isEmpty_cons, List.isEmpty_nil, at0, slT, is_in, isn_in, lenT1, ln, fixed, e_dsz, sd, pl, tl]
  | .whn c a b, k, h, hk => fun S => by
    simp only [Bd.deep] at hk
    obtain ⟨k, rfl⟩ : ∃ k', k = k' + 1 := ⟨k - 1, by omega⟩
    have sd := s_dsz S
    have i1 := e_lookE hc c k h.1.1 (by have := h.1.2; omega)
    have i2 := e_lookB hc hm a k h.2.1 (by omega)
    have i3 := e_lookB hc hm b k h.2.2 (by omega)
    obtain ⟨p, S', tl, gr⟩ := look_end (k := k) (C := cD cs) (some (.tup [.str "when", c.d, a.d, b.d])) (some (.int (many : Int))) (some (.ref S.length)) none (some (.str "when")) (some (.tup [c.d, a.d, b.d])) none none [(c.d, .non), (a.d, .int (many : Int)), (b.d, .int (many : Int))] (S ++ [szO])
      (fun x hx => by
        simp only [List.mem_cons, List.not_mem_nil, or_false] at hx
        rcases hx with rfl | rfl | rfl
        · exact i1
        · exact i2
        · exact i3) (by simp)
    simp only [List.map_cons, List.map_nil] at tl
    refine ⟨p, S', ?_, (Gr.push S [szO]).trans gr⟩
    generalize S ++ [szO] = S0 at *
    generalize cD cs = C at *
    simp only [looked_eq, Bd.d, x_bnd, x_bnS, x_c, x_var, x_varK, x_stl, x_stlV, x_stlL, x_stlE, x_stlD, x_bxd, x_bxV, x_bxK, x_okv, x_okm, x_d2, x_d2K, x_d2L, x_tst, x_tstK, x_ch, x_chK, x_chL, x_chMt, x_chMf, x_chN, x_and, x_andK, x_andT, x_andF, x_or, x_orK, x_orT, x_orF, x_not, x_notK, x_notL, x_tru, x_truK, x_truL, x_band, x_bandT, x_bandF, x_bor, x_borT, x_borF, x_bnot, x_bnotK, x_dif, x_difT, x_difF, x_anil, x_acons, x_aK, x_aL, x_tup, x_tupK, x_lst, x_lstK, x_cl, x_clK, x_fn, x_fnK, x_isi, x_isiK, x_isiL, x_neg, x_negK, x_revL, x_kget, x_kgetK, x_sl, x_slK, x_slL, x_pnone, x_psome, x_psK, x_mt, x_mtK, x_mtL, x_itA, x_itAK, x_itL, x_itSeq, x_seqK, x_itStr, x_istrK, x_comp, x_compK, x_compL, x_wipe1, x_wipe2, x_seq, x_sqN, x_sqR, x_sqB, x_sqC, x_next, x_ret, x_retK, x_retN, x_asg, x_asgB, x_asgK, x_drop, x_dropK, x_if, x_ifT, x_ifF, x_for, x_forK, x_tgt, x_tgtK, x_tgtL, x_tname, x_par, x_parK, x_dput, x_dputK, x_dputK1, x_dputK2, x_dputL, x_def, x_defR, x_defN, y_add, y_sub, y_mul, y_mulX, y_mod, y_fdiv, y_lt, y_le, y_gt, y_ge, y_eqI, y_eqS, y_neI, y_neS, y_eqYI, y_eqYS, y_neYI, y_neYS, y_ixT, y_ixL, y_trB, y_k0, y_k1, y_k2, y_k3, y_k4, y_k5, y_k6, y_lenL, y_lenS, startE, List.map_cons, List.map_nil, List.length_cons, List.length_nil, List.replicate, List.cons_append, List.nil_append, List.append_nil, Nat.sub_self, Nat.reduceSub, Nat.reduceAdd, Nat.reduceLeDiff, Nat.reduceEqDiff, Nat.zero_add, Nat.zero_le, Nat.sub_zero, List.set_cons_zero, List.set_cons_succ, List.getElem?_cons_zero, List.getElem?_cons_succ, Bool.not_true, Bool.not_false, decide_true, decide_false, Int.reduceEq, Int.reduceLT, Int.reduceLE, Int.reduceSub, Int.reduceAdd, eq_self, Option.map_some, z_int0, z_int1, z_int2, z_int3, z_int4, z_int5, z_int6, z_bool0, z_bool1, z_bool2, z_bool3, z_bool4, z_bool5, z_bool6, z_str0, z_str1, z_str2, z_str3, z_str4, z_str5, z_str6, z_tuple0, z_tuple1, z_tuple2, z_tuple3, z_tuple4, z_tuple5, z_tuple6, z_list0, z_list1, z_list2, z_list3, z_list4, z_list5, z_list6, z_dict0, z_dict1, z_dict2, z_dict3, z_dict4, z_dict5, z_dict6, n_number_in, n_number_rest, n_number_if, n_number_plus, n_number_less, n_number_times, n_number_same, n_number_under, n_number_give, n_number_refuse, n_number_when, n_in_number, n_in_rest, n_in_if, n_in_plus, n_in_less, n_in_times, n_in_same, n_in_under, n_in_give, n_in_refuse, n_in_when, n_rest_number, n_rest_in, n_rest_if, n_rest_plus, n_rest_less, n_rest_times, n_rest_same, n_rest_under, n_rest_give, n_rest_refuse, n_rest_when, n_if_number, n_if_in, n_if_rest, n_if_plus, n_if_less, n_if_times, n_if_same, n_if_under, n_if_give, n_if_refuse, n_if_when, n_plus_number, n_plus_in, n_plus_rest, n_plus_if, n_plus_less, n_plus_times, n_plus_same, n_plus_under, n_plus_give, n_plus_refuse, n_plus_when, n_less_number, n_less_in, n_less_rest, n_less_if, n_less_plus, n_less_times, n_less_same, n_less_under, n_less_give, n_less_refuse, n_less_when, n_times_number, n_times_in, n_times_rest, n_times_if, n_times_plus, n_times_less, n_times_same, n_times_under, n_times_give, n_times_refuse, n_times_when, n_same_number, n_same_in, n_same_rest, n_same_if, n_same_plus, n_same_less, n_same_times, n_same_under, n_same_give, n_same_refuse, n_same_when, n_under_number, n_under_in, n_under_rest, n_under_if, n_under_plus, n_under_less, n_under_times, n_under_same, n_under_give, n_under_refuse, n_under_when, n_give_number, n_give_in, n_give_rest, n_give_if, n_give_plus, n_give_less, n_give_times, n_give_same, n_give_under, n_give_refuse, n_give_when, n_refuse_number, n_refuse_in, n_refuse_rest, n_refuse_if, n_refuse_plus, n_refuse_less, n_refuse_times, n_refuse_same, n_refuse_under, n_refuse_give, n_refuse_when, n_when_number, n_when_in, n_when_rest, n_when_if, n_when_plus, n_when_less, n_when_times, n_when_same, n_when_under, n_when_give, n_when_refuse, y_eqTup0, List.isEmpty_cons, at0, at1, at2, slT, is_in, isn_in, lenT3, e_dsz, sd, tl]
end
/-! drawing -/
theorem rng {j : Int} (h1 : 0 ≤ j) (h2 : j ≤ 100) : range1D [.int j] = some (rangeL 0 j.toNat) := if_pos ⟨by omega, by omega⟩
theorem rng_len (j : Nat) : (rangeL 0 j).length = j := by
  unfold rangeL
  rw [List.length_map, List.length_range]
theorem draw_loop {α : Type} {g : α → D} {P : α → Prop} {f : Dn Out} {ρ : En} {i n : Nat} (hf : ∀ x S, At n S → ∃ a S', f (ρ.set i (some x)) S = some (.ok (.val (g a)) S') ∧ P a ∧ Ev n S S') : ∀ (xs : List D) (j : Nat) (S : Sto), At n S → j + xs.length ≤ 1000 →
    ∃ (as : List α) (S' : Sto), as.length = xs.length ∧ (∀ a ∈ as, P a) ∧ loopC (tName i) bYes f ρ xs j S = some (as.map g, S') ∧ Ev n S S'
  | [], _, S, h, _ => ⟨[], S, rfl, fun _ h => absurd h (by simp), rfl, h.refl⟩
  | x :: xs, j, S, h, hj => by
    rw [List.length_cons] at hj
    obtain ⟨a, S1, e1, p1, v1⟩ := hf x S h
    obtain ⟨as, S2, l2, p2, e2, v2⟩ := draw_loop hf xs (j + 1) S1 v1.2.1 (by omega)
    refine ⟨a :: as, S2, by rw [List.length_cons, List.length_cons, l2], fun b hb => ?_, ?_, v1.trans v2⟩
    · rcases List.mem_cons.mp hb with rfl | hb
      · exact p1
      · exact p2 b hb
    · refine lc_take (S1 := S) (S2 := S1) (ρ1 := ρ.set i (some x)) rfl rfl ?_ (by omega) e2
      rw [x_stl, e1, x_bnd, x_stlV]
theorem eqC0 (S : Sto) (cs : List Int) : eqX S (cD cs) (.tup []) = some (.val (.bl cs.isEmpty)) := by
  unfold cD
  rw [y_eqTup0]
  cases cs <;> rfl
theorem y_addT (S : Sto) (as bs : List D) (h : as.length + bs.length ≤ 1000) : addD S (.tup as) (.tup bs) = some (.val (.tup (as ++ bs))) := if_pos (Nat.le_trans h (by decide))
theorem two_of {α : Type} {l : List α} (h : l.length = 2) : ∃ a b, l = [a, b] := by
  match l, h with
  | [a, b], _ => exact ⟨a, b, rfl⟩
theorem three_of {α : Type} {l : List α} (h : l.length = 3) : ∃ a b c, l = [a, b, c] := by
  match l, h with
  | [a, b, c], _ => exact ⟨a, b, c, rfl⟩
theorem five {a b : Int} (ha : 0 ≤ a ∧ a < 5) (hb : 0 ≤ b ∧ b < 100) : ∃ i, atI [D.int 0, .int 1, .int 99, .int (b.fmod 10), .int b] a = some (.int i) ∧ 0 ≤ i ∧ i ≤ 99 := by
  have q1 := Int.fmod_nonneg_of_pos b (show (0 : Int) < 10 by decide)
  have q2 := Int.fmod_lt_of_pos b (show (0 : Int) < 10 by decide)
  have : a = 0 ∨ a = 1 ∨ a = 2 ∨ a = 3 ∨ a = 4 := by omega
  rcases this with rfl | rfl | rfl | rfl | rfl
  · exact ⟨_, rfl, by omega, by omega⟩
  · exact ⟨_, rfl, by omega, by omega⟩
  · exact ⟨_, rfl, by omega, by omega⟩
  · exact ⟨_, rfl, by omega, by omega⟩
  · exact ⟨_, rfl, by omega, by omega⟩
theorem four {a b : Int} (ha : 0 ≤ a ∧ a < 4) (hb : 2 ≤ b ∧ b < 100) : ∃ i, atI [D.int 2, .int 99, .int (2 + b.fmod 8), .int b] a = some (.int i) ∧ 2 ≤ i ∧ i ≤ 99 := by
  have q1 := Int.fmod_nonneg_of_pos b (show (0 : Int) < 8 by decide)
  have q2 := Int.fmod_lt_of_pos b (show (0 : Int) < 8 by decide)
  have : a = 0 ∨ a = 1 ∨ a = 2 ∨ a = 3 := by omega
  rcases this with rfl | rfl | rfl | rfl
  · exact ⟨_, rfl, by omega, by omega⟩
  · exact ⟨_, rfl, by omega, by omega⟩
  · exact ⟨_, rfl, by omega, by omega⟩
  · exact ⟨_, rfl, by omega, by omega⟩
theorem word5 {a : Int} (ha : 0 ≤ a ∧ a < 5) : ∃ w : Wd, atI [D.str "plus", .str "less", .str "times", .str "same", .str "under"] a = some (.str w.t) := by
  have : a = 0 ∨ a = 1 ∨ a = 2 ∨ a = 3 ∨ a = 4 := by omega
  rcases this with rfl | rfl | rfl | rfl | rfl
  · exact ⟨.plus, rfl⟩
  · exact ⟨.less, rfl⟩
  · exact ⟨.times, rfl⟩
  · exact ⟨.same, rfl⟩
  · exact ⟨.under, rfl⟩
def Dr (cs : List Int) (d : Nat) (e : Ex) : Prop := okE cs e ∧ e.deep ≤ d
end W10
namespace W10
open Sf L2 PySem PySem.Spec PyProof.Rows
def leafS : Sn := (sSeq (sPar 6 7 (aCons (dFn 2 den_law_pick (aCons (dVar 0) (aCons (dC (.int 5)) aNil))) (aCons (dFn 2 den_law_pick (aCons (dVar 0) (aCons (dC (.int 100)) aNil))) aNil)))
 (sSeq (sIf (bOr (tst (d2 eqX (dVar 1) (dTup aNil))) (bOr (tst (d2 eqX (dVar 6) (dC (.int 0)))) (tst (d2 eqX (dVar 3) (dC (.int 2)))))) (sRet (dTup (aCons (dC (.str "number")) (aCons (d2 ixD (dLst (aCons (dC (.int 0)) (aCons (dC (.int 1)) (aCons (dC (.int 99)) (aCons (d2 modD (dVar 7) (dC (.int 10))) (aCons (dVar 7) aNil)))))) (dVar 6)) aNil)))) sNext)
 (sSeq (sAsg 5 (d2 modD (dVar 7) (dCl lenD (aCons (dVar 1) aNil))))
 (sRet (dTup (aCons (dC (.str "in")) (aCons (dVar 5) (aCons (dFn 2 den_law_pick (aCons (dVar 0) (aCons (d2 ixD (dVar 1) (dVar 5)) aNil))) aNil))))))))
def fe (k : Nat) : Dn Out := dFn 3 (den_law_expression k) (aCons (dVar 0) (aCons (dVar 1) (aCons (d2 subD (dVar 2) (dC (.int 1))) aNil)))
def restS (k : Nat) : Sn := (sSeq (sIf (tst (d2 eqX (dVar 3) (dC (.int 3)))) (sSeq (sPar 6 7 (aCons (dFn 2 den_law_pick (aCons (dVar 0) (aCons (dC (.int 4)) aNil))) (aCons (d2 addD (dC (.int 2)) (dFn 2 den_law_pick (aCons (dVar 0) (aCons (dC (.int 98)) aNil)))) aNil)))
 (sRet (dTup (aCons (dC (.str "rest")) (aCons (fe k) (aCons (d2 ixD (dLst (aCons (dC (.int 2)) (aCons (dC (.int 99)) (aCons (d2 addD (dC (.int 2)) (d2 modD (dVar 7) (dC (.int 8)))) (aCons (dVar 7) aNil))))) (dVar 6)) aNil)))))) sNext)
 (sSeq (sIf (tst (d2 eqX (dVar 3) (dC (.int 4)))) (sRet (d2 addD (dTup (aCons (dC (.str "if")) aNil)) (dCl tupleD (aCons (dComp (itA range1D (aCons (dC (.int 3)) aNil)) (tName 8) bYes (fe k) [8]) aNil)))) sNext)
 (sSeq (sAsg 4 (d2 ixD (dLst (aCons (dC (.str "plus")) (aCons (dC (.str "less")) (aCons (dC (.str "times")) (aCons (dC (.str "same")) (aCons (dC (.str "under")) aNil)))))) (d2 subD (dVar 3) (dC (.int 5)))))
 (sRet (d2 addD (dTup (aCons (dVar 4) aNil)) (dCl tupleD (aCons (dComp (itA range1D (aCons (dC (.int 2)) aNil)) (tName 8) bYes (fe k) [8]) aNil)))))))
theorem expr_eq (k : Nat) : den_law_expression (k + 1) = defD 9 (sSeq (sAsg 3 (dFn 2 den_law_pick (aCons (dVar 0) (aCons (dC (.int 10)) aNil))))
 (sSeq (sIf (bOr (tst (d2 eqX (dVar 2) (dC (.int 1)))) (tst (d2 ltD (dVar 3) (dC (.int 3))))) leafS sNext) (restS k))) := rfl
section
variable {cs : List Int} {many n : Nat}
theorem leaf_ok (hc : okC cs) (d r : Int) (x4 x5 x6 x7 x8 : Option D) (S : Sto) (h : At n S) :
    ∃ e S', leafS [some (.ref n), some (cD cs), some (.int d), some (.int r), x4, x5, x6, x7, x8] S = some (.rt (.val (Ex.d e)) S') ∧ Dr cs 1 e ∧ Ev n S S' := by
  obtain ⟨a, S1, e1, a1, a2, v1⟩ := e_pick h (m := 5) (by decide)
  obtain ⟨b, S2, e2, b1, b2, v2⟩ := e_pick v1.2.1 (m := 100) (by decide)
  obtain ⟨i, fi, i1, i2⟩ := five ⟨a1, a2⟩ ⟨b1, b2⟩
  have ec := eqC0 S2 cs
  have num : ∀ x, x = true → (cs.isEmpty = x ∨ decide (a = 0) = x ∨ decide (r = 2) = x) → ∃ e S', leafS [some (.ref n), some (cD cs), some (.int d), some (.int r), x4, x5, x6, x7, x8] S = some (.rt (.val (Ex.d e)) S') ∧ Dr cs 1 e ∧ Ev n S S' := fun x hx hor => by
    subst hx
    refine ⟨.num i, S2, ?_, ⟨⟨i1, i2⟩, Nat.le_refl _⟩, v1.trans v2⟩
    generalize cD cs = C at *
    cases h1 : cs.isEmpty with
    | true => 
      rw [h1] at ec
      simp only [leafS, Ex.d, x_bnd, x_bnS, x_c, x_var, x_varK, x_stl, x_stlV, x_stlL, x_stlE, x_stlD, x_bxd, x_bxV, x_bxK, x_okv, x_okm, x_d2, x_d2K, x_d2L, x_tst, x_tstK, x_ch, x_chK, x_chL, x_chMt, x_chMf, x_chN, x_and, x_andK, x_andT, x_andF, x_or, x_orK, x_orT, x_orF, x_not, x_notK, x_notL, x_tru, x_truK, x_truL, x_band, x_bandT, x_bandF, x_bor, x_borT, x_borF, x_bnot, x_bnotK, x_dif, x_difT, x_difF, x_anil, x_acons, x_aK, x_aL, x_tup, x_tupK, x_lst, x_lstK, x_cl, x_clK, x_fn, x_fnK, x_isi, x_isiK, x_isiL, x_neg, x_negK, x_revL, x_kget, x_kgetK, x_sl, x_slK, x_slL, x_pnone, x_psome, x_psK, x_mt, x_mtK, x_mtL, x_itA, x_itAK, x_itL, x_itSeq, x_seqK, x_itStr, x_istrK, x_comp, x_compK, x_compL, x_wipe1, x_wipe2, x_seq, x_sqN, x_sqR, x_sqB, x_sqC, x_next, x_ret, x_retK, x_retN, x_asg, x_asgB, x_asgK, x_drop, x_dropK, x_if, x_ifT, x_ifF, x_for, x_forK, x_tgt, x_tgtK, x_tgtL, x_tname, x_par, x_parK, x_dput, x_dputK, x_dputK1, x_dputK2, x_dputL, x_def, x_defR, x_defN, y_add, y_sub, y_mul, y_mulX, y_mod, y_fdiv, y_lt, y_le, y_gt, y_ge, y_eqI, y_eqS, y_neI, y_neS, y_eqYI, y_eqYS, y_neYI, y_neYS, y_ixT, y_ixL, y_trB, y_k0, y_k1, y_k2, y_k3, y_k4, y_k5, y_k6, y_lenL, y_lenS, startE, List.map_cons, List.map_nil, List.length_cons, List.length_nil, List.replicate, List.cons_append, List.nil_append, List.append_nil, Nat.sub_self, Nat.reduceSub, Nat.reduceAdd, Nat.reduceLeDiff, Nat.reduceEqDiff, Nat.zero_add, Nat.zero_le, Nat.sub_zero, List.set_cons_zero, List.set_cons_succ, List.getElem?_cons_zero, List.getElem?_cons_succ, Bool.not_true, Bool.not_false, decide_true, decide_false, Int.reduceEq, Int.reduceLT, Int.reduceLE, Int.reduceSub, Int.reduceAdd, eq_self, Option.map_some, e1, e2, ec, fi]
      simp only [fi, x_bnd, x_bnS, x_c, x_var, x_varK, x_stl, x_stlV, x_stlL, x_stlE, x_stlD, x_bxd, x_bxV, x_bxK, x_okv, x_okm, x_d2, x_d2K, x_d2L, x_tst, x_tstK, x_ch, x_chK, x_chL, x_chMt, x_chMf, x_chN, x_and, x_andK, x_andT, x_andF, x_or, x_orK, x_orT, x_orF, x_not, x_notK, x_notL, x_tru, x_truK, x_truL, x_band, x_bandT, x_bandF, x_bor, x_borT, x_borF, x_bnot, x_bnotK, x_dif, x_difT, x_difF, x_anil, x_acons, x_aK, x_aL, x_tup, x_tupK, x_lst, x_lstK, x_cl, x_clK, x_fn, x_fnK, x_isi, x_isiK, x_isiL, x_neg, x_negK, x_revL, x_kget, x_kgetK, x_sl, x_slK, x_slL, x_pnone, x_psome, x_psK, x_mt, x_mtK, x_mtL, x_itA, x_itAK, x_itL, x_itSeq, x_seqK, x_itStr, x_istrK, x_comp, x_compK, x_compL, x_wipe1, x_wipe2, x_seq, x_sqN, x_sqR, x_sqB, x_sqC, x_next, x_ret, x_retK, x_retN, x_asg, x_asgB, x_asgK, x_drop, x_dropK, x_if, x_ifT, x_ifF, x_for, x_forK, x_tgt, x_tgtK, x_tgtL, x_tname, x_par, x_parK, x_dput, x_dputK, x_dputK1, x_dputK2, x_dputL, x_def, x_defR, x_defN, y_add, y_sub, y_mul, y_mulX, y_mod, y_fdiv, y_lt, y_le, y_gt, y_ge, y_eqI, y_eqS, y_neI, y_neS, y_eqYI, y_eqYS, y_neYI, y_neYS, y_ixT, y_ixL, y_trB, y_k0, y_k1, y_k2, y_k3, y_k4, y_k5, y_k6, y_lenL, y_lenS, startE, List.map_cons, List.map_nil, List.length_cons, List.length_nil, List.replicate, List.cons_append, List.nil_append, List.append_nil, Nat.sub_self, Nat.reduceSub, Nat.reduceAdd, Nat.reduceLeDiff, Nat.reduceEqDiff, Nat.zero_add, Nat.zero_le, Nat.sub_zero, List.set_cons_zero, List.set_cons_succ, List.getElem?_cons_zero, List.getElem?_cons_succ, Bool.not_true, Bool.not_false, decide_true, decide_false, Int.reduceEq, Int.reduceLT, Int.reduceLE, Int.reduceSub, Int.reduceAdd, eq_self, Option.map_some, show (10 : Int) ≠ 0 by decide, ne_eq, not_false_eq_true]
    | false =>
      rw [h1] at ec hor
      cases h2 : decide (a = 0) with
      | true =>
        simp only [leafS, Ex.d, x_bnd, x_bnS, x_c, x_var, x_varK, x_stl, x_stlV, x_stlL, x_stlE, x_stlD, x_bxd, x_bxV, x_bxK, x_okv, x_okm, x_d2, x_d2K, x_d2L, x_tst, x_tstK, x_ch, x_chK, x_chL, x_chMt, x_chMf, x_chN, x_and, x_andK, x_andT, x_andF, x_or, x_orK, x_orT, x_orF, x_not, x_notK, x_notL, x_tru, x_truK, x_truL, x_band, x_bandT, x_bandF, x_bor, x_borT, x_borF, x_bnot, x_bnotK, x_dif, x_difT, x_difF, x_anil, x_acons, x_aK, x_aL, x_tup, x_tupK, x_lst, x_lstK, x_cl, x_clK, x_fn, x_fnK, x_isi, x_isiK, x_isiL, x_neg, x_negK, x_revL, x_kget, x_kgetK, x_sl, x_slK, x_slL, x_pnone, x_psome, x_psK, x_mt, x_mtK, x_mtL, x_itA, x_itAK, x_itL, x_itSeq, x_seqK, x_itStr, x_istrK, x_comp, x_compK, x_compL, x_wipe1, x_wipe2, x_seq, x_sqN, x_sqR, x_sqB, x_sqC, x_next, x_ret, x_retK, x_retN, x_asg, x_asgB, x_asgK, x_drop, x_dropK, x_if, x_ifT, x_ifF, x_for, x_forK, x_tgt, x_tgtK, x_tgtL, x_tname, x_par, x_parK, x_dput, x_dputK, x_dputK1, x_dputK2, x_dputL, x_def, x_defR, x_defN, y_add, y_sub, y_mul, y_mulX, y_mod, y_fdiv, y_lt, y_le, y_gt, y_ge, y_eqI, y_eqS, y_neI, y_neS, y_eqYI, y_eqYS, y_neYI, y_neYS, y_ixT, y_ixL, y_trB, y_k0, y_k1, y_k2, y_k3, y_k4, y_k5, y_k6, y_lenL, y_lenS, startE, List.map_cons, List.map_nil, List.length_cons, List.length_nil, List.replicate, List.cons_append, List.nil_append, List.append_nil, Nat.sub_self, Nat.reduceSub, Nat.reduceAdd, Nat.reduceLeDiff, Nat.reduceEqDiff, Nat.zero_add, Nat.zero_le, Nat.sub_zero, List.set_cons_zero, List.set_cons_succ, List.getElem?_cons_zero, List.getElem?_cons_succ, Bool.not_true, Bool.not_false, decide_true, decide_false, Int.reduceEq, Int.reduceLT, Int.reduceLE, Int.reduceSub, Int.reduceAdd, eq_self, Option.map_some, e1, e2, ec, h2, show (10 : Int) ≠ 0 by decide, ne_eq, not_false_eq_true, fi]
      | false =>
        rw [h2] at hor
        have h3 : decide (r = 2) = true := by
          rcases hor with q | q | q
          · cases q
          · cases q
          · exact q
        simp only [leafS, Ex.d, x_bnd, x_bnS, x_c, x_var, x_varK, x_stl, x_stlV, x_stlL, x_stlE, x_stlD, x_bxd, x_bxV, x_bxK, x_okv, x_okm, x_d2, x_d2K, x_d2L, x_tst, x_tstK, x_ch, x_chK, x_chL, x_chMt, x_chMf, x_chN, x_and, x_andK, x_andT, x_andF, x_or, x_orK, x_orT, x_orF, x_not, x_notK, x_notL, x_tru, x_truK, x_truL, x_band, x_bandT, x_bandF, x_bor, x_borT, x_borF, x_bnot, x_bnotK, x_dif, x_difT, x_difF, x_anil, x_acons, x_aK, x_aL, x_tup, x_tupK, x_lst, x_lstK, x_cl, x_clK, x_fn, x_fnK, x_isi, x_isiK, x_isiL, x_neg, x_negK, x_revL, x_kget, x_kgetK, x_sl, x_slK, x_slL, x_pnone, x_psome, x_psK, x_mt, x_mtK, x_mtL, x_itA, x_itAK, x_itL, x_itSeq, x_seqK, x_itStr, x_istrK, x_comp, x_compK, x_compL, x_wipe1, x_wipe2, x_seq, x_sqN, x_sqR, x_sqB, x_sqC, x_next, x_ret, x_retK, x_retN, x_asg, x_asgB, x_asgK, x_drop, x_dropK, x_if, x_ifT, x_ifF, x_for, x_forK, x_tgt, x_tgtK, x_tgtL, x_tname, x_par, x_parK, x_dput, x_dputK, x_dputK1, x_dputK2, x_dputL, x_def, x_defR, x_defN, y_add, y_sub, y_mul, y_mulX, y_mod, y_fdiv, y_lt, y_le, y_gt, y_ge, y_eqI, y_eqS, y_neI, y_neS, y_eqYI, y_eqYS, y_neYI, y_neYS, y_ixT, y_ixL, y_trB, y_k0, y_k1, y_k2, y_k3, y_k4, y_k5, y_k6, y_lenL, y_lenS, startE, List.map_cons, List.map_nil, List.length_cons, List.length_nil, List.replicate, List.cons_append, List.nil_append, List.append_nil, Nat.sub_self, Nat.reduceSub, Nat.reduceAdd, Nat.reduceLeDiff, Nat.reduceEqDiff, Nat.zero_add, Nat.zero_le, Nat.sub_zero, List.set_cons_zero, List.set_cons_succ, List.getElem?_cons_zero, List.getElem?_cons_succ, Bool.not_true, Bool.not_false, decide_true, decide_false, Int.reduceEq, Int.reduceLT, Int.reduceLE, Int.reduceSub, Int.reduceAdd, eq_self, Option.map_some, e1, e2, ec, h2, h3, show (10 : Int) ≠ 0 by decide, ne_eq, not_false_eq_true, fi]
  cases h1 : cs.isEmpty with
  | true => exact num true rfl (.inl h1)
  | false =>
    cases h2 : decide (a = 0) with
    | true => exact num true rfl (.inr (.inl h2))
    | false =>
      cases h3 : decide (r = 2) with
      | true => exact num true rfl (.inr (.inr h3))
      | false =>
        have hl : 0 < cs.length := by
          cases cs with
          | nil => cases h1
          | cons c cs => rw [List.length_cons]; omega
        have q1 := Int.fmod_nonneg_of_pos b (show (0 : Int) < (cs.length : Int) by omega)
        have q2 := Int.fmod_lt_of_pos b (show (0 : Int) < (cs.length : Int) by omega)
        have hl0 : (cs.length : Int) ≠ 0 := by omega
        have lc := lenC S2 cs
        obtain ⟨t, ht⟩ : ∃ t, b.fmod (cs.length : Int) = t := ⟨_, rfl⟩
        rw [ht] at q1 q2
        have ht2 : t.toNat < cs.length := by omega
        have em : cs[t.toNat]? = some cs[t.toNat] := List.getElem?_eq_getElem ht2
        have hm := hc.row _ (List.getElem_mem ht2)
        generalize cs[t.toNat] = m at em hm
        have ix : ixD S2 (cD cs) (.int t) = some (.val (.int m)) := by
          unfold cD
          rw [y_ixT, atI_map, atI_some q1 q2, em]
          rfl
        obtain ⟨q, S3, e3, c1, c2, v3⟩ := e_pick v2.2.1 (m := m) (by omega)
        rw [h1] at ec
        refine ⟨.inn t q, S3, ?_, ⟨⟨q1, q2, m, em, c1, c2⟩, Nat.le_refl _⟩, (v1.trans v2).trans v3⟩
        generalize cD cs = C at *
        simp only [leafS, Ex.d, x_bnd, x_bnS, x_c, x_var, x_varK, x_stl, x_stlV, x_stlL, x_stlE, x_stlD, x_bxd, x_bxV, x_bxK, x_okv, x_okm, x_d2, x_d2K, x_d2L, x_tst, x_tstK, x_ch, x_chK, x_chL, x_chMt, x_chMf, x_chN, x_and, x_andK, x_andT, x_andF, x_or, x_orK, x_orT, x_orF, x_not, x_notK, x_notL, x_tru, x_truK, x_truL, x_band, x_bandT, x_bandF, x_bor, x_borT, x_borF, x_bnot, x_bnotK, x_dif, x_difT, x_difF, x_anil, x_acons, x_aK, x_aL, x_tup, x_tupK, x_lst, x_lstK, x_cl, x_clK, x_fn, x_fnK, x_isi, x_isiK, x_isiL, x_neg, x_negK, x_revL, x_kget, x_kgetK, x_sl, x_slK, x_slL, x_pnone, x_psome, x_psK, x_mt, x_mtK, x_mtL, x_itA, x_itAK, x_itL, x_itSeq, x_seqK, x_itStr, x_istrK, x_comp, x_compK, x_compL, x_wipe1, x_wipe2, x_seq, x_sqN, x_sqR, x_sqB, x_sqC, x_next, x_ret, x_retK, x_retN, x_asg, x_asgB, x_asgK, x_drop, x_dropK, x_if, x_ifT, x_ifF, x_for, x_forK, x_tgt, x_tgtK, x_tgtL, x_tname, x_par, x_parK, x_dput, x_dputK, x_dputK1, x_dputK2, x_dputL, x_def, x_defR, x_defN, y_add, y_sub, y_mul, y_mulX, y_mod, y_fdiv, y_lt, y_le, y_gt, y_ge, y_eqI, y_eqS, y_neI, y_neS, y_eqYI, y_eqYS, y_neYI, y_neYS, y_ixT, y_ixL, y_trB, y_k0, y_k1, y_k2, y_k3, y_k4, y_k5, y_k6, y_lenL, y_lenS, startE, List.map_cons, List.map_nil, List.length_cons, List.length_nil, List.replicate, List.cons_append, List.nil_append, List.append_nil, Nat.sub_self, Nat.reduceSub, Nat.reduceAdd, Nat.reduceLeDiff, Nat.reduceEqDiff, Nat.zero_add, Nat.zero_le, Nat.sub_zero, List.set_cons_zero, List.set_cons_succ, List.getElem?_cons_zero, List.getElem?_cons_succ, Bool.not_true, Bool.not_false, decide_true, decide_false, Int.reduceEq, Int.reduceLT, Int.reduceLE, Int.reduceSub, Int.reduceAdd, eq_self, Option.map_some, e1, e2, ec, h2, h3, lc, ne_eq, hl0, not_false_eq_true, ht, ix, e3]
theorem e_expr (hc : okC cs) : ∀ (k d : Nat) (S : Sto), 1 ≤ d → d ≤ k → d ≤ 10 → At n S → ∃ e S', den_law_expression k [.ref n, cD cs, .int (d : Int)] S = some (.ok (.val (Ex.d e)) S') ∧ Dr cs d e ∧ Ev n S S'
  | 0, d, S, h1, h2, _, _ => absurd h1 (by omega)
  | k + 1, d, S, h1, h2, h10, h => by
    obtain ⟨r, S1, e1, r1, r2, v1⟩ := e_pick h (m := 10) (by decide)
    have leaf : (decide ((d : Int) = 1) = true ∨ (decide ((d : Int) = 1) = false ∧ decide (r < 3) = true)) → ∃ e S', den_law_expression (k + 1) [.ref n, cD cs, .int (d : Int)] S = some (.ok (.val (Ex.d e)) S') ∧ Dr cs d e ∧ Ev n S S' := fun hor => by
      obtain ⟨e, S2, e2, ⟨p2, p3⟩, v2⟩ := leaf_ok hc (d : Int) r none none none none none S1 v1.2.1
      refine ⟨e, S2, ?_, ⟨p2, by omega⟩, v1.trans v2⟩
      generalize cD cs = C at *
      rcases hor with q | ⟨q, q'⟩
      · simp only [expr_eq, x_bnd, x_bnS, x_c, x_var, x_varK, x_stl, x_stlV, x_stlL, x_stlE, x_stlD, x_bxd, x_bxV, x_bxK, x_okv, x_okm, x_d2, x_d2K, x_d2L, x_tst, x_tstK, x_ch, x_chK, x_chL, x_chMt, x_chMf, x_chN, x_and, x_andK, x_andT, x_andF, x_or, x_orK, x_orT, x_orF, x_not, x_notK, x_notL, x_tru, x_truK, x_truL, x_band, x_bandT, x_bandF, x_bor, x_borT, x_borF, x_bnot, x_bnotK, x_dif, x_difT, x_difF, x_anil, x_acons, x_aK, x_aL, x_tup, x_tupK, x_lst, x_lstK, x_cl, x_clK, x_fn, x_fnK, x_isi, x_isiK, x_isiL, x_neg, x_negK, x_revL, x_kget, x_kgetK, x_sl, x_slK, x_slL, x_pnone, x_psome, x_psK, x_mt, x_mtK, x_mtL, x_itA, x_itAK, x_itL, x_itSeq, x_seqK, x_itStr, x_istrK, x_comp, x_compK, x_compL, x_wipe1, x_wipe2, x_seq, x_sqN, x_sqR, x_sqB, x_sqC, x_next, x_ret, x_retK, x_retN, x_asg, x_asgB, x_asgK, x_drop, x_dropK, x_if, x_ifT, x_ifF, x_for, x_forK, x_tgt, x_tgtK, x_tgtL, x_tname, x_par, x_parK, x_dput, x_dputK, x_dputK1, x_dputK2, x_dputL, x_def, x_defR, x_defN, y_add, y_sub, y_mul, y_mulX, y_mod, y_fdiv, y_lt, y_le, y_gt, y_ge, y_eqI, y_eqS, y_neI, y_neS, y_eqYI, y_eqYS, y_neYI, y_neYS, y_ixT, y_ixL, y_trB, y_k0, y_k1, y_k2, y_k3, y_k4, y_k5, y_k6, y_lenL, y_lenS, startE, List.map_cons, List.map_nil, List.length_cons, List.length_nil, List.replicate, List.cons_append, List.nil_append, List.append_nil, Nat.sub_self, Nat.reduceSub, Nat.reduceAdd, Nat.reduceLeDiff, Nat.reduceEqDiff, Nat.zero_add, Nat.zero_le, Nat.sub_zero, List.set_cons_zero, List.set_cons_succ, List.getElem?_cons_zero, List.getElem?_cons_succ, Bool.not_true, Bool.not_false, decide_true, decide_false, Int.reduceEq, Int.reduceLT, Int.reduceLE, Int.reduceSub, Int.reduceAdd, eq_self, Option.map_some, e1, q, e2]
      · simp only [expr_eq, x_bnd, x_bnS, x_c, x_var, x_varK, x_stl, x_stlV, x_stlL, x_stlE, x_stlD, x_bxd, x_bxV, x_bxK, x_okv, x_okm, x_d2, x_d2K, x_d2L, x_tst, x_tstK, x_ch, x_chK, x_chL, x_chMt, x_chMf, x_chN, x_and, x_andK, x_andT, x_andF, x_or, x_orK, x_orT, x_orF, x_not, x_notK, x_notL, x_tru, x_truK, x_truL, x_band, x_bandT, x_bandF, x_bor, x_borT, x_borF, x_bnot, x_bnotK, x_dif, x_difT, x_difF, x_anil, x_acons, x_aK, x_aL, x_tup, x_tupK, x_lst, x_lstK, x_cl, x_clK, x_fn, x_fnK, x_isi, x_isiK, x_isiL, x_neg, x_negK, x_revL, x_kget, x_kgetK, x_sl, x_slK, x_slL, x_pnone, x_psome, x_psK, x_mt, x_mtK, x_mtL, x_itA, x_itAK, x_itL, x_itSeq, x_seqK, x_itStr, x_istrK, x_comp, x_compK, x_compL, x_wipe1, x_wipe2, x_seq, x_sqN, x_sqR, x_sqB, x_sqC, x_next, x_ret, x_retK, x_retN, x_asg, x_asgB, x_asgK, x_drop, x_dropK, x_if, x_ifT, x_ifF, x_for, x_forK, x_tgt, x_tgtK, x_tgtL, x_tname, x_par, x_parK, x_dput, x_dputK, x_dputK1, x_dputK2, x_dputL, x_def, x_defR, x_defN, y_add, y_sub, y_mul, y_mulX, y_mod, y_fdiv, y_lt, y_le, y_gt, y_ge, y_eqI, y_eqS, y_neI, y_neS, y_eqYI, y_eqYS, y_neYI, y_neYS, y_ixT, y_ixL, y_trB, y_k0, y_k1, y_k2, y_k3, y_k4, y_k5, y_k6, y_lenL, y_lenS, startE, List.map_cons, List.map_nil, List.length_cons, List.length_nil, List.replicate, List.cons_append, List.nil_append, List.append_nil, Nat.sub_self, Nat.reduceSub, Nat.reduceAdd, Nat.reduceLeDiff, Nat.reduceEqDiff, Nat.zero_add, Nat.zero_le, Nat.sub_zero, List.set_cons_zero, List.set_cons_succ, List.getElem?_cons_zero, List.getElem?_cons_succ, Bool.not_true, Bool.not_false, decide_true, decide_false, Int.reduceEq, Int.reduceLT, Int.reduceLE, Int.reduceSub, Int.reduceAdd, eq_self, Option.map_some, e1, q, q', e2]
    cases hd : decide ((d : Int) = 1) with
    | true => exact leaf (.inl hd)
    | false =>
      cases hr : decide (r < 3) with
      | true => exact leaf (.inr ⟨hd, hr⟩)
      | false =>
        have d1 : (d : Int) ≠ 1 := of_decide_eq_false hd
        have r3 : ¬ r < 3 := of_decide_eq_false hr
        obtain ⟨d, rfl⟩ : ∃ d', d = d' + 1 := ⟨d - 1, by omega⟩
        have cd : ((d + 1 : Nat) : Int) - 1 = (d : Int) := by omega
        have ih := fun S (h : At n S) => e_expr hc k d S (by omega) (by omega) (by omega) h
        have fx : ∀ (x3 x4 x5 x6 x7 x8 : Option D) S, At n S → ∃ e S', fe k [some (.ref n), some (cD cs), some (.int ((d + 1 : Nat) : Int)), x3, x4, x5, x6, x7, x8] S = some (.ok (.val (Ex.d e)) S') ∧ Dr cs d e ∧ Ev n S S' := fun x3 x4 x5 x6 x7 x8 S h => by
          obtain ⟨e, S', q, p, v⟩ := ih S h
          refine ⟨e, S', ?_, p, v⟩
          generalize cD cs = C at *
          simp only [fe, x_bnd, x_bnS, x_c, x_var, x_varK, x_stl, x_stlV, x_stlL, x_stlE, x_stlD, x_bxd, x_bxV, x_bxK, x_okv, x_okm, x_d2, x_d2K, x_d2L, x_tst, x_tstK, x_ch, x_chK, x_chL, x_chMt, x_chMf, x_chN, x_and, x_andK, x_andT, x_andF, x_or, x_orK, x_orT, x_orF, x_not, x_notK, x_notL, x_tru, x_truK, x_truL, x_band, x_bandT, x_bandF, x_bor, x_borT, x_borF, x_bnot, x_bnotK, x_dif, x_difT, x_difF, x_anil, x_acons, x_aK, x_aL, x_tup, x_tupK, x_lst, x_lstK, x_cl, x_clK, x_fn, x_fnK, x_isi, x_isiK, x_isiL, x_neg, x_negK, x_revL, x_kget, x_kgetK, x_sl, x_slK, x_slL, x_pnone, x_psome, x_psK, x_mt, x_mtK, x_mtL, x_itA, x_itAK, x_itL, x_itSeq, x_seqK, x_itStr, x_istrK, x_comp, x_compK, x_compL, x_wipe1, x_wipe2, x_seq, x_sqN, x_sqR, x_sqB, x_sqC, x_next, x_ret, x_retK, x_retN, x_asg, x_asgB, x_asgK, x_drop, x_dropK, x_if, x_ifT, x_ifF, x_for, x_forK, x_tgt, x_tgtK, x_tgtL, x_tname, x_par, x_parK, x_dput, x_dputK, x_dputK1, x_dputK2, x_dputL, x_def, x_defR, x_defN, y_add, y_sub, y_mul, y_mulX, y_mod, y_fdiv, y_lt, y_le, y_gt, y_ge, y_eqI, y_eqS, y_neI, y_neS, y_eqYI, y_eqYS, y_neYI, y_neYS, y_ixT, y_ixL, y_trB, y_k0, y_k1, y_k2, y_k3, y_k4, y_k5, y_k6, y_lenL, y_lenS, startE, List.map_cons, List.map_nil, List.length_cons, List.length_nil, List.replicate, List.cons_append, List.nil_append, List.append_nil, Nat.sub_self, Nat.reduceSub, Nat.reduceAdd, Nat.reduceLeDiff, Nat.reduceEqDiff, Nat.zero_add, Nat.zero_le, Nat.sub_zero, List.set_cons_zero, List.set_cons_succ, List.getElem?_cons_zero, List.getElem?_cons_succ, Bool.not_true, Bool.not_false, decide_true, decide_false, Int.reduceEq, Int.reduceLT, Int.reduceLE, Int.reduceSub, Int.reduceAdd, eq_self, Option.map_some, cd, q]
        have rs : ∃ e S', restS k [some (.ref n), some (cD cs), some (.int ((d + 1 : Nat) : Int)), some (.int r), none, none, none, none, none] S1 = some (.rt (.val (Ex.d e)) S') ∧ Dr cs (d + 1) e ∧ Ev n S S' := by
          by_cases w3 : r = 3
          · obtain ⟨a, S2, e2, a1, a2, v2⟩ := e_pick v1.2.1 (m := 4) (by decide)
            obtain ⟨b, S3, e3, b1, b2, v3⟩ := e_pick v2.2.1 (m := 98) (by decide)
            obtain ⟨i, fi, i1, i2⟩ := four ⟨a1, a2⟩ (show 2 ≤ 2 + b ∧ 2 + b < 100 by omega)
            obtain ⟨e, S4, e4, p4, v4⟩ := fx (some (.int r)) none none (some (.int a)) (some (.int (2 + b))) none S3 v3.2.1
            refine ⟨.rest e i, S4, ?_, ⟨⟨p4.1, i1, i2⟩, by have := p4.2; simp only [Ex.deep]; omega⟩, ((v1.trans v2).trans v3).trans v4⟩
            obtain ⟨b2, hb2⟩ : ∃ b2, 2 + b = b2 := ⟨_, rfl⟩
            rw [hb2] at fi e4
            generalize cD cs = C at *
            generalize ((d + 1 : Nat) : Int) = dd at *
            simp only [restS, Ex.d, x_bnd, x_bnS, x_c, x_var, x_varK, x_stl, x_stlV, x_stlL, x_stlE, x_stlD, x_bxd, x_bxV, x_bxK, x_okv, x_okm, x_d2, x_d2K, x_d2L, x_tst, x_tstK, x_ch, x_chK, x_chL, x_chMt, x_chMf, x_chN, x_and, x_andK, x_andT, x_andF, x_or, x_orK, x_orT, x_orF, x_not, x_notK, x_notL, x_tru, x_truK, x_truL, x_band, x_bandT, x_bandF, x_bor, x_borT, x_borF, x_bnot, x_bnotK, x_dif, x_difT, x_difF, x_anil, x_acons, x_aK, x_aL, x_tup, x_tupK, x_lst, x_lstK, x_cl, x_clK, x_fn, x_fnK, x_isi, x_isiK, x_isiL, x_neg, x_negK, x_revL, x_kget, x_kgetK, x_sl, x_slK, x_slL, x_pnone, x_psome, x_psK, x_mt, x_mtK, x_mtL, x_itA, x_itAK, x_itL, x_itSeq, x_seqK, x_itStr, x_istrK, x_comp, x_compK, x_compL, x_wipe1, x_wipe2, x_seq, x_sqN, x_sqR, x_sqB, x_sqC, x_next, x_ret, x_retK, x_retN, x_asg, x_asgB, x_asgK, x_drop, x_dropK, x_if, x_ifT, x_ifF, x_for, x_forK, x_tgt, x_tgtK, x_tgtL, x_tname, x_par, x_parK, x_dput, x_dputK, x_dputK1, x_dputK2, x_dputL, x_def, x_defR, x_defN, y_add, y_sub, y_mul, y_mulX, y_mod, y_fdiv, y_lt, y_le, y_gt, y_ge, y_eqI, y_eqS, y_neI, y_neS, y_eqYI, y_eqYS, y_neYI, y_neYS, y_ixT, y_ixL, y_trB, y_k0, y_k1, y_k2, y_k3, y_k4, y_k5, y_k6, y_lenL, y_lenS, startE, List.map_cons, List.map_nil, List.length_cons, List.length_nil, List.replicate, List.cons_append, List.nil_append, List.append_nil, Nat.sub_self, Nat.reduceSub, Nat.reduceAdd, Nat.reduceLeDiff, Nat.reduceEqDiff, Nat.zero_add, Nat.zero_le, Nat.sub_zero, List.set_cons_zero, List.set_cons_succ, List.getElem?_cons_zero, List.getElem?_cons_succ, Bool.not_true, Bool.not_false, decide_true, decide_false, Int.reduceEq, Int.reduceLT, Int.reduceLE, Int.reduceSub, Int.reduceAdd, eq_self, Option.map_some, decide_eq_true w3, e2, e3, hb2, e4, show (8 : Int) ≠ 0 by decide, ne_eq, not_false_eq_true, fi]
          · by_cases w4 : r = 4
            · have rg := rng (show (0 : Int) ≤ 3 by decide) (by decide)
              have rl := rng_len (3 : Int).toNat
              obtain ⟨es, S2, l2, p2, e2, v2⟩ := draw_loop (g := Ex.d) (P := Dr cs d) (i := 8) (f := fe k) (ρ := [some (.ref n), some (cD cs), some (.int ((d + 1 : Nat) : Int)), some (.int r), none, none, none, none, none]) (fun x S h => fx _ _ _ _ _ _ S h) (rangeL 0 (3 : Int).toNat) 0 S1 v1.2.1 (by rw [rl]; decide)
              rw [rl] at l2
              obtain ⟨c, a, b, rfl⟩ := three_of l2
              have pc := p2 c (by simp)
              have pa := p2 a (by simp)
              have pb := p2 b (by simp)
              refine ⟨.iff c a b, S2, ?_, ⟨⟨pc.1, pa.1, pb.1⟩, by have := pc.2; have := pa.2; have := pb.2; simp only [Ex.deep]; omega⟩, v1.trans v2⟩
              have ad := y_addT S2 [.str "if"] [c.d, a.d, b.d] (by simp)
              simp only [List.map_cons, List.map_nil, List.cons_append, List.nil_append] at e2 ad
              generalize cD cs = C at *
              generalize ((d + 1 : Nat) : Int) = dd at *
              generalize rangeL 0 (3 : Int).toNat = R at *
              simp only [restS, Ex.d, x_bnd, x_bnS, x_c, x_var, x_varK, x_stl, x_stlV, x_stlL, x_stlE, x_stlD, x_bxd, x_bxV, x_bxK, x_okv, x_okm, x_d2, x_d2K, x_d2L, x_tst, x_tstK, x_ch, x_chK, x_chL, x_chMt, x_chMf, x_chN, x_and, x_andK, x_andT, x_andF, x_or, x_orK, x_orT, x_orF, x_not, x_notK, x_notL, x_tru, x_truK, x_truL, x_band, x_bandT, x_bandF, x_bor, x_borT, x_borF, x_bnot, x_bnotK, x_dif, x_difT, x_difF, x_anil, x_acons, x_aK, x_aL, x_tup, x_tupK, x_lst, x_lstK, x_cl, x_clK, x_fn, x_fnK, x_isi, x_isiK, x_isiL, x_neg, x_negK, x_revL, x_kget, x_kgetK, x_sl, x_slK, x_slL, x_pnone, x_psome, x_psK, x_mt, x_mtK, x_mtL, x_itA, x_itAK, x_itL, x_itSeq, x_seqK, x_itStr, x_istrK, x_comp, x_compK, x_compL, x_wipe1, x_wipe2, x_seq, x_sqN, x_sqR, x_sqB, x_sqC, x_next, x_ret, x_retK, x_retN, x_asg, x_asgB, x_asgK, x_drop, x_dropK, x_if, x_ifT, x_ifF, x_for, x_forK, x_tgt, x_tgtK, x_tgtL, x_tname, x_par, x_parK, x_dput, x_dputK, x_dputK1, x_dputK2, x_dputL, x_def, x_defR, x_defN, y_add, y_sub, y_mul, y_mulX, y_mod, y_fdiv, y_lt, y_le, y_gt, y_ge, y_eqI, y_eqS, y_neI, y_neS, y_eqYI, y_eqYS, y_neYI, y_neYS, y_ixT, y_ixL, y_trB, y_k0, y_k1, y_k2, y_k3, y_k4, y_k5, y_k6, y_lenL, y_lenS, startE, List.map_cons, List.map_nil, List.length_cons, List.length_nil, List.replicate, List.cons_append, List.nil_append, List.append_nil, Nat.sub_self, Nat.reduceSub, Nat.reduceAdd, Nat.reduceLeDiff, Nat.reduceEqDiff, Nat.zero_add, Nat.zero_le, Nat.sub_zero, List.set_cons_zero, List.set_cons_succ, List.getElem?_cons_zero, List.getElem?_cons_succ, Bool.not_true, Bool.not_false, decide_true, decide_false, Int.reduceEq, Int.reduceLT, Int.reduceLE, Int.reduceSub, Int.reduceAdd, eq_self, Option.map_some, decide_eq_false w3, decide_eq_true w4, rg, e2, y_tupL, ad]
            · have rg := rng (show (0 : Int) ≤ 2 by decide) (by decide)
              have rl := rng_len (2 : Int).toNat
              obtain ⟨w, hw⟩ := word5 (show 0 ≤ r - 5 ∧ r - 5 < 5 by omega)
              obtain ⟨es, S2, l2, p2, e2, v2⟩ := draw_loop (g := Ex.d) (P := Dr cs d) (i := 8) (f := fe k) (ρ := [some (.ref n), some (cD cs), some (.int ((d + 1 : Nat) : Int)), some (.int r), some (.str w.t), none, none, none, none]) (fun x S h => fx _ _ _ _ _ _ S h) (rangeL 0 (2 : Int).toNat) 0 S1 v1.2.1 (by rw [rl]; decide)
              rw [rl] at l2
              obtain ⟨a, b, rfl⟩ := two_of l2
              have pa := p2 a (by simp)
              have pb := p2 b (by simp)
              refine ⟨.two w a b, S2, ?_, ⟨⟨pa.1, pb.1⟩, by have := pa.2; have := pb.2; simp only [Ex.deep]; omega⟩, v1.trans v2⟩
              have ad := y_addT S2 [.str w.t] [a.d, b.d] (by simp)
              simp only [List.map_cons, List.map_nil, List.cons_append, List.nil_append] at e2 ad
              generalize cD cs = C at *
              generalize ((d + 1 : Nat) : Int) = dd at *
              generalize rangeL 0 (2 : Int).toNat = R at *
              simp only [restS, Ex.d, x_bnd, x_bnS, x_c, x_var, x_varK, x_stl, x_stlV, x_stlL, x_stlE, x_stlD, x_bxd, x_bxV, x_bxK, x_okv, x_okm, x_d2, x_d2K, x_d2L, x_tst, x_tstK, x_ch, x_chK, x_chL, x_chMt, x_chMf, x_chN, x_and, x_andK, x_andT, x_andF, x_or, x_orK, x_orT, x_orF, x_not, x_notK, x_notL, x_tru, x_truK, x_truL, x_band, x_bandT, x_bandF, x_bor, x_borT, x_borF, x_bnot, x_bnotK, x_dif, x_difT, x_difF, x_anil, x_acons, x_aK, x_aL, x_tup, x_tupK, x_lst, x_lstK, x_cl, x_clK, x_fn, x_fnK, x_isi, x_isiK, x_isiL, x_neg, x_negK, x_revL, x_kget, x_kgetK, x_sl, x_slK, x_slL, x_pnone, x_psome, x_psK, x_mt, x_mtK, x_mtL, x_itA, x_itAK, x_itL, x_itSeq, x_seqK, x_itStr, x_istrK, x_comp, x_compK, x_compL, x_wipe1, x_wipe2, x_seq, x_sqN, x_sqR, x_sqB, x_sqC, x_next, x_ret, x_retK, x_retN, x_asg, x_asgB, x_asgK, x_drop, x_dropK, x_if, x_ifT, x_ifF, x_for, x_forK, x_tgt, x_tgtK, x_tgtL, x_tname, x_par, x_parK, x_dput, x_dputK, x_dputK1, x_dputK2, x_dputL, x_def, x_defR, x_defN, y_add, y_sub, y_mul, y_mulX, y_mod, y_fdiv, y_lt, y_le, y_gt, y_ge, y_eqI, y_eqS, y_neI, y_neS, y_eqYI, y_eqYS, y_neYI, y_neYS, y_ixT, y_ixL, y_trB, y_k0, y_k1, y_k2, y_k3, y_k4, y_k5, y_k6, y_lenL, y_lenS, startE, List.map_cons, List.map_nil, List.length_cons, List.length_nil, List.replicate, List.cons_append, List.nil_append, List.append_nil, Nat.sub_self, Nat.reduceSub, Nat.reduceAdd, Nat.reduceLeDiff, Nat.reduceEqDiff, Nat.zero_add, Nat.zero_le, Nat.sub_zero, List.set_cons_zero, List.set_cons_succ, List.getElem?_cons_zero, List.getElem?_cons_succ, Bool.not_true, Bool.not_false, decide_true, decide_false, Int.reduceEq, Int.reduceLT, Int.reduceLE, Int.reduceSub, Int.reduceAdd, eq_self, Option.map_some, decide_eq_false w3, decide_eq_false w4, rg, hw, e2, y_tupL, ad]
        obtain ⟨e, S', q, p, v⟩ := rs
        refine ⟨e, S', ?_, p, v⟩
        generalize cD cs = C at *
        generalize ((d + 1 : Nat) : Int) = dd at *
        simp only [expr_eq, x_bnd, x_bnS, x_c, x_var, x_varK, x_stl, x_stlV, x_stlL, x_stlE, x_stlD, x_bxd, x_bxV, x_bxK, x_okv, x_okm, x_d2, x_d2K, x_d2L, x_tst, x_tstK, x_ch, x_chK, x_chL, x_chMt, x_chMf, x_chN, x_and, x_andK, x_andT, x_andF, x_or, x_orK, x_orT, x_orF, x_not, x_notK, x_notL, x_tru, x_truK, x_truL, x_band, x_bandT, x_bandF, x_bor, x_borT, x_borF, x_bnot, x_bnotK, x_dif, x_difT, x_difF, x_anil, x_acons, x_aK, x_aL, x_tup, x_tupK, x_lst, x_lstK, x_cl, x_clK, x_fn, x_fnK, x_isi, x_isiK, x_isiL, x_neg, x_negK, x_revL, x_kget, x_kgetK, x_sl, x_slK, x_slL, x_pnone, x_psome, x_psK, x_mt, x_mtK, x_mtL, x_itA, x_itAK, x_itL, x_itSeq, x_seqK, x_itStr, x_istrK, x_comp, x_compK, x_compL, x_wipe1, x_wipe2, x_seq, x_sqN, x_sqR, x_sqB, x_sqC, x_next, x_ret, x_retK, x_retN, x_asg, x_asgB, x_asgK, x_drop, x_dropK, x_if, x_ifT, x_ifF, x_for, x_forK, x_tgt, x_tgtK, x_tgtL, x_tname, x_par, x_parK, x_dput, x_dputK, x_dputK1, x_dputK2, x_dputL, x_def, x_defR, x_defN, y_add, y_sub, y_mul, y_mulX, y_mod, y_fdiv, y_lt, y_le, y_gt, y_ge, y_eqI, y_eqS, y_neI, y_neS, y_eqYI, y_eqYS, y_neYI, y_neYS, y_ixT, y_ixL, y_trB, y_k0, y_k1, y_k2, y_k3, y_k4, y_k5, y_k6, y_lenL, y_lenS, startE, List.map_cons, List.map_nil, List.length_cons, List.length_nil, List.replicate, List.cons_append, List.nil_append, List.append_nil, Nat.sub_self, Nat.reduceSub, Nat.reduceAdd, Nat.reduceLeDiff, Nat.reduceEqDiff, Nat.zero_add, Nat.zero_le, Nat.sub_zero, List.set_cons_zero, List.set_cons_succ, List.getElem?_cons_zero, List.getElem?_cons_succ, Bool.not_true, Bool.not_false, decide_true, decide_false, Int.reduceEq, Int.reduceLT, Int.reduceLE, Int.reduceSub, Int.reduceAdd, eq_self, Option.map_some, e1, hd, hr, q]
end
end W10
namespace W10
open Sf L2 PySem PySem.Spec PyProof.Rows
section
variable {cs : List Int} {many n : Nat}
def exS (q : Nat) (t : Int) : Dn Out := dFn 3 (den_law_expression q) (aCons (dVar 0) (aCons (dVar 1) (aCons (dC (.int t)) aNil)))
def giveD (q : Nat) (t : Int) : Dn Out := dTup (aCons (dC (.str "give")) (aCons (dCl tupleD (aCons (dComp (itA range1D (aCons (dVar 2) aNil)) (tName 8) bYes (exS q t) [8]) aNil)) aNil))
theorem give_ok {q : Nat} (hq : 3 ≤ q) (hc : okC cs) (hm : many ≤ 3) (t : Nat) (ht : 1 ≤ t ∧ t ≤ 3) (T mm : Int) (hT : (t : Int) = T) (hmm : (many : Int) = mm) (x3 x4 x5 x6 x7 x8 : Option D) (S : Sto) (h : At n S) :
    ∃ es S', giveD q T [some (.ref n), some (cD cs), some (.int mm), x3, x4, x5, x6, x7, x8] S = some (.ok (.val (Bd.give es).d) S') ∧ es.length = many ∧ (∀ e ∈ es, Dr cs t e) ∧ Ev n S S' := by
  have rg := rng (show (0 : Int) ≤ mm by omega) (by omega)
  have rl := rng_len mm.toNat
  have fx : ∀ (x : D) S, At n S → ∃ e S', exS q T (List.set [some (.ref n), some (cD cs), some (.int mm), x3, x4, x5, x6, x7, none] 8 (some x)) S = some (.ok (.val (Ex.d e)) S') ∧ Dr cs t e ∧ Ev n S S' := fun x S h => by
    obtain ⟨e, S', e0, p, v⟩ := e_expr hc q t S ht.1 (by omega) (by omega) h
    rw [hT] at e0
    refine ⟨e, S', ?_, p, v⟩
    generalize cD cs = C at *
    simp only [exS, x_bnd, x_bnS, x_c, x_var, x_varK, x_stl, x_stlV, x_stlL, x_stlE, x_stlD, x_bxd, x_bxV, x_bxK, x_okv, x_okm, x_d2, x_d2K, x_d2L, x_tst, x_tstK, x_ch, x_chK, x_chL, x_chMt, x_chMf, x_chN, x_and, x_andK, x_andT, x_andF, x_or, x_orK, x_orT, x_orF, x_not, x_notK, x_notL, x_tru, x_truK, x_truL, x_band, x_bandT, x_bandF, x_bor, x_borT, x_borF, x_bnot, x_bnotK, x_dif, x_difT, x_difF, x_anil, x_acons, x_aK, x_aL, x_tup, x_tupK, x_lst, x_lstK, x_cl, x_clK, x_fn, x_fnK, x_isi, x_isiK, x_isiL, x_neg, x_negK, x_revL, x_kget, x_kgetK, x_sl, x_slK, x_slL, x_pnone, x_psome, x_psK, x_mt, x_mtK, x_mtL, x_itA, x_itAK, x_itL, x_itSeq, x_seqK, x_itStr, x_istrK, x_comp, x_compK, x_compL, x_wipe1, x_wipe2, x_seq, x_sqN, x_sqR, x_sqB, x_sqC, x_next, x_ret, x_retK, x_retN, x_asg, x_asgB, x_asgK, x_drop, x_dropK, x_if, x_ifT, x_ifF, x_for, x_forK, x_tgt, x_tgtK, x_tgtL, x_tname, x_par, x_parK, x_dput, x_dputK, x_dputK1, x_dputK2, x_dputL, x_def, x_defR, x_defN, y_add, y_sub, y_mul, y_mulX, y_mod, y_fdiv, y_lt, y_le, y_gt, y_ge, y_eqI, y_eqS, y_neI, y_neS, y_eqYI, y_eqYS, y_neYI, y_neYS, y_ixT, y_ixL, y_trB, y_k0, y_k1, y_k2, y_k3, y_k4, y_k5, y_k6, y_lenL, y_lenS, startE, List.map_cons, List.map_nil, List.length_cons, List.length_nil, List.replicate, List.cons_append, List.nil_append, List.append_nil, Nat.sub_self, Nat.reduceSub, Nat.reduceAdd, Nat.reduceLeDiff, Nat.reduceEqDiff, Nat.zero_add, Nat.zero_le, Nat.sub_zero, List.set_cons_zero, List.set_cons_succ, List.getElem?_cons_zero, List.getElem?_cons_succ, Bool.not_true, Bool.not_false, decide_true, decide_false, Int.reduceEq, Int.reduceLT, Int.reduceLE, Int.reduceSub, Int.reduceAdd, eq_self, Option.map_some, e0]
  obtain ⟨es, S2, l2, p2, e2, v2⟩ := draw_loop (g := Ex.d) (P := Dr cs t) (i := 8) (f := exS q T) (ρ := [some (.ref n), some (cD cs), some (.int mm), x3, x4, x5, x6, x7, none]) fx (rangeL 0 mm.toNat) 0 S h (by rw [rl]; omega)
  refine ⟨es, S2, ?_, by rw [l2, rl]; omega, p2, v2⟩
  clear hT hmm fx
  generalize cD cs = C at *
  simp only [Bd.d]
  generalize es.map Ex.d = E at *
  generalize rangeL 0 mm.toNat = R at *
  simp only [giveD, x_bnd, x_bnS, x_c, x_var, x_varK, x_stl, x_stlV, x_stlL, x_stlE, x_stlD, x_bxd, x_bxV, x_bxK, x_okv, x_okm, x_d2, x_d2K, x_d2L, x_tst, x_tstK, x_ch, x_chK, x_chL, x_chMt, x_chMf, x_chN, x_and, x_andK, x_andT, x_andF, x_or, x_orK, x_orT, x_orF, x_not, x_notK, x_notL, x_tru, x_truK, x_truL, x_band, x_bandT, x_bandF, x_bor, x_borT, x_borF, x_bnot, x_bnotK, x_dif, x_difT, x_difF, x_anil, x_acons, x_aK, x_aL, x_tup, x_tupK, x_lst, x_lstK, x_cl, x_clK, x_fn, x_fnK, x_isi, x_isiK, x_isiL, x_neg, x_negK, x_revL, x_kget, x_kgetK, x_sl, x_slK, x_slL, x_pnone, x_psome, x_psK, x_mt, x_mtK, x_mtL, x_itA, x_itAK, x_itL, x_itSeq, x_seqK, x_itStr, x_istrK, x_comp, x_compK, x_compL, x_wipe1, x_wipe2, x_seq, x_sqN, x_sqR, x_sqB, x_sqC, x_next, x_ret, x_retK, x_retN, x_asg, x_asgB, x_asgK, x_drop, x_dropK, x_if, x_ifT, x_ifF, x_for, x_forK, x_tgt, x_tgtK, x_tgtL, x_tname, x_par, x_parK, x_dput, x_dputK, x_dputK1, x_dputK2, x_dputL, x_def, x_defR, x_defN, y_add, y_sub, y_mul, y_mulX, y_mod, y_fdiv, y_lt, y_le, y_gt, y_ge, y_eqI, y_eqS, y_neI, y_neS, y_eqYI, y_eqYS, y_neYI, y_neYS, y_ixT, y_ixL, y_trB, y_k0, y_k1, y_k2, y_k3, y_k4, y_k5, y_k6, y_lenL, y_lenS, startE, List.map_cons, List.map_nil, List.length_cons, List.length_nil, List.replicate, List.cons_append, List.nil_append, List.append_nil, Nat.sub_self, Nat.reduceSub, Nat.reduceAdd, Nat.reduceLeDiff, Nat.reduceEqDiff, Nat.zero_add, Nat.zero_le, Nat.sub_zero, List.set_cons_zero, List.set_cons_succ, List.getElem?_cons_zero, List.getElem?_cons_succ, Bool.not_true, Bool.not_false, decide_true, decide_false, Int.reduceEq, Int.reduceLT, Int.reduceLE, Int.reduceSub, Int.reduceAdd, eq_self, Option.map_some, rg, e2, y_tupL]
def endS (q l : Nat) : Sn := (sSeq (sIf (tst (d2 ltD (d2 ixD (dFn 3 (den_law_looked l) (aCons (dVar 5) (aCons (dVar 1) (aCons (dVar 2) aNil)))) (dC (.int 0))) (dC (.int 61)))) (sRet (dVar 5)) sNext)
 (sRet (giveD q 1)))
def bodyS (q l k : Nat) : Sn := (sSeq (sAsg 4 (dFn 2 den_law_pick (aCons (dVar 0) (aCons (dC (.int 8)) aNil))))
 (sSeq (sIf (tst (d2 eqX (dVar 4) (dC (.int 0)))) (sRet (dTup (aCons (dC (.str "refuse")) aNil))) sNext)
 (sSeq (sAsg 5 (giveD q 3))
 (sSeq (sIf (bAnd (tst (d2 ltD (dVar 4) (dC (.int 4)))) (tst (d2 gtD (dVar 3) (dC (.int 1))))) (sSeq (sAsg 6 (exS q 2))
 (sSeq (sAsg 7 (dFn 4 (den_law_body k) (aCons (dVar 0) (aCons (dVar 1) (aCons (dVar 2) (aCons (d2 subD (dVar 3) (dC (.int 1))) aNil))))))
 (sAsg 5 (dTup (aCons (dC (.str "when")) (aCons (dVar 6) (aCons (dVar 7) (aCons (dFn 4 (den_law_body k) (aCons (dVar 0) (aCons (dVar 1) (aCons (dVar 2) (aCons (d2 subD (dVar 3) (dC (.int 1))) aNil))))) aNil)))))))) sNext) (endS q l)))))
theorem body_eq (k : Nat) : den_law_body (k + 1) = defD 9 (bodyS 6 12 k) := rfl
theorem end_ok {q l : Nat} (hq : 3 ≤ q) (hl : 12 ≤ l) (hc : okC cs) (hm : many ≤ 3) (b : Bd) (hb : okB cs many b) (d : Nat) (hd : b.deep ≤ d) (h1 : 1 ≤ d) (h9 : d ≤ 9) (mm : Int) (hmm : (many : Int) = mm) (x3 x4 x6 x7 x8 : Option D) (S : Sto) (h : At n S) :
    ∃ b' S', endS q l [some (.ref n), some (cD cs), some (.int mm), x3, x4, some b.d, x6, x7, x8] S = some (.rt (.val (Bd.d b')) S') ∧ okB cs many b' ∧ b'.deep ≤ d ∧ Ev n S S' := by
  obtain ⟨p, S1, e1, g1⟩ := e_lookB hc (by omega) b l hb (by omega) S
  have v1 := h.ev g1
  simp only [pr] at e1
  rw [hmm] at e1
  by_cases hp : p.1 < 61
  · refine ⟨b, S1, ?_, hb, hd, v1⟩
    clear hmm
    generalize cD cs = C at *
    simp only [endS, x_bnd, x_bnS, x_c, x_var, x_varK, x_stl, x_stlV, x_stlL, x_stlE, x_stlD, x_bxd, x_bxV, x_bxK, x_okv, x_okm, x_d2, x_d2K, x_d2L, x_tst, x_tstK, x_ch, x_chK, x_chL, x_chMt, x_chMf, x_chN, x_and, x_andK, x_andT, x_andF, x_or, x_orK, x_orT, x_orF, x_not, x_notK, x_notL, x_tru, x_truK, x_truL, x_band, x_bandT, x_bandF, x_bor, x_borT, x_borF, x_bnot, x_bnotK, x_dif, x_difT, x_difF, x_anil, x_acons, x_aK, x_aL, x_tup, x_tupK, x_lst, x_lstK, x_cl, x_clK, x_fn, x_fnK, x_isi, x_isiK, x_isiL, x_neg, x_negK, x_revL, x_kget, x_kgetK, x_sl, x_slK, x_slL, x_pnone, x_psome, x_psK, x_mt, x_mtK, x_mtL, x_itA, x_itAK, x_itL, x_itSeq, x_seqK, x_itStr, x_istrK, x_comp, x_compK, x_compL, x_wipe1, x_wipe2, x_seq, x_sqN, x_sqR, x_sqB, x_sqC, x_next, x_ret, x_retK, x_retN, x_asg, x_asgB, x_asgK, x_drop, x_dropK, x_if, x_ifT, x_ifF, x_for, x_forK, x_tgt, x_tgtK, x_tgtL, x_tname, x_par, x_parK, x_dput, x_dputK, x_dputK1, x_dputK2, x_dputL, x_def, x_defR, x_defN, y_add, y_sub, y_mul, y_mulX, y_mod, y_fdiv, y_lt, y_le, y_gt, y_ge, y_eqI, y_eqS, y_neI, y_neS, y_eqYI, y_eqYS, y_neYI, y_neYS, y_ixT, y_ixL, y_trB, y_k0, y_k1, y_k2, y_k3, y_k4, y_k5, y_k6, y_lenL, y_lenS, startE, List.map_cons, List.map_nil, List.length_cons, List.length_nil, List.replicate, List.cons_append, List.nil_append, List.append_nil, Nat.sub_self, Nat.reduceSub, Nat.reduceAdd, Nat.reduceLeDiff, Nat.reduceEqDiff, Nat.zero_add, Nat.zero_le, Nat.sub_zero, List.set_cons_zero, List.set_cons_succ, List.getElem?_cons_zero, List.getElem?_cons_succ, Bool.not_true, Bool.not_false, decide_true, decide_false, Int.reduceEq, Int.reduceLT, Int.reduceLE, Int.reduceSub, Int.reduceAdd, eq_self, Option.map_some, e1, at0, decide_eq_true hp]
  · obtain ⟨es, S2, e2, l2, p2, v2⟩ := give_ok hq hc hm 1 (by decide) 1 mm rfl hmm x3 x4 (some b.d) x6 x7 x8 S1 v1.2.1
    refine ⟨.give es, S2, ?_, ⟨l2, fun e he => ⟨(p2 e he).1, by have := (p2 e he).2; omega⟩⟩, h1, v1.trans v2⟩
    clear hmm
    generalize cD cs = C at *
    simp only [endS, x_bnd, x_bnS, x_c, x_var, x_varK, x_stl, x_stlV, x_stlL, x_stlE, x_stlD, x_bxd, x_bxV, x_bxK, x_okv, x_okm, x_d2, x_d2K, x_d2L, x_tst, x_tstK, x_ch, x_chK, x_chL, x_chMt, x_chMf, x_chN, x_and, x_andK, x_andT, x_andF, x_or, x_orK, x_orT, x_orF, x_not, x_notK, x_notL, x_tru, x_truK, x_truL, x_band, x_bandT, x_bandF, x_bor, x_borT, x_borF, x_bnot, x_bnotK, x_dif, x_difT, x_difF, x_anil, x_acons, x_aK, x_aL, x_tup, x_tupK, x_lst, x_lstK, x_cl, x_clK, x_fn, x_fnK, x_isi, x_isiK, x_isiL, x_neg, x_negK, x_revL, x_kget, x_kgetK, x_sl, x_slK, x_slL, x_pnone, x_psome, x_psK, x_mt, x_mtK, x_mtL, x_itA, x_itAK, x_itL, x_itSeq, x_seqK, x_itStr, x_istrK, x_comp, x_compK, x_compL, x_wipe1, x_wipe2, x_seq, x_sqN, x_sqR, x_sqB, x_sqC, x_next, x_ret, x_retK, x_retN, x_asg, x_asgB, x_asgK, x_drop, x_dropK, x_if, x_ifT, x_ifF, x_for, x_forK, x_tgt, x_tgtK, x_tgtL, x_tname, x_par, x_parK, x_dput, x_dputK, x_dputK1, x_dputK2, x_dputL, x_def, x_defR, x_defN, y_add, y_sub, y_mul, y_mulX, y_mod, y_fdiv, y_lt, y_le, y_gt, y_ge, y_eqI, y_eqS, y_neI, y_neS, y_eqYI, y_eqYS, y_neYI, y_neYS, y_ixT, y_ixL, y_trB, y_k0, y_k1, y_k2, y_k3, y_k4, y_k5, y_k6, y_lenL, y_lenS, startE, List.map_cons, List.map_nil, List.length_cons, List.length_nil, List.replicate, List.cons_append, List.nil_append, List.append_nil, Nat.sub_self, Nat.reduceSub, Nat.reduceAdd, Nat.reduceLeDiff, Nat.reduceEqDiff, Nat.zero_add, Nat.zero_le, Nat.sub_zero, List.set_cons_zero, List.set_cons_succ, List.getElem?_cons_zero, List.getElem?_cons_succ, Bool.not_true, Bool.not_false, decide_true, decide_false, Int.reduceEq, Int.reduceLT, Int.reduceLE, Int.reduceSub, Int.reduceAdd, eq_self, Option.map_some, e1, at0, decide_eq_false hp, e2]
theorem bodyS_ok {q l : Nat} (hq : 3 ≤ q) (hl : 12 ≤ l) (hc : okC cs) (hm : many ≤ 3) (k d : Nat) (h1 : 1 ≤ d) (h9 : d ≤ 9) (mm dd : Int) (hmm : (many : Int) = mm) (hdd : (d : Int) = dd)
    (ih : ∀ S, At n S → 2 ≤ d → ∃ b S', den_law_body k [.ref n, cD cs, .int mm, .int (dd - 1)] S = some (.ok (.val (Bd.d b)) S') ∧ okB cs many b ∧ b.deep + 1 ≤ d ∧ Ev n S S') (S : Sto) (h : At n S) :
    ∃ b S', bodyS q l k [some (.ref n), some (cD cs), some (.int mm), some (.int dd), none, none, none, none, none] S = some (.rt (.val (Bd.d b)) S') ∧ okB cs many b ∧ b.deep ≤ d ∧ Ev n S S' := by
  obtain ⟨r, S1, e1, r1, r2, v1⟩ := e_pick h (m := 8) (by decide)
  by_cases w0 : r = 0
  · refine ⟨.refuse, S1, ?_, trivial, h1, v1⟩
    clear hmm hdd ih
    generalize cD cs = C at *
    simp only [bodyS, Bd.d, x_bnd, x_bnS, x_c, x_var, x_varK, x_stl, x_stlV, x_stlL, x_stlE, x_stlD, x_bxd, x_bxV, x_bxK, x_okv, x_okm, x_d2, x_d2K, x_d2L, x_tst, x_tstK, x_ch, x_chK, x_chL, x_chMt, x_chMf, x_chN, x_and, x_andK, x_andT, x_andF, x_or, x_orK, x_orT, x_orF, x_not, x_notK, x_notL, x_tru, x_truK, x_truL, x_band, x_bandT, x_bandF, x_bor, x_borT, x_borF, x_bnot, x_bnotK, x_dif, x_difT, x_difF, x_anil, x_acons, x_aK, x_aL, x_tup, x_tupK, x_lst, x_lstK, x_cl, x_clK, x_fn, x_fnK, x_isi, x_isiK, x_isiL, x_neg, x_negK, x_revL, x_kget, x_kgetK, x_sl, x_slK, x_slL, x_pnone, x_psome, x_psK, x_mt, x_mtK, x_mtL, x_itA, x_itAK, x_itL, x_itSeq, x_seqK, x_itStr, x_istrK, x_comp, x_compK, x_compL, x_wipe1, x_wipe2, x_seq, x_sqN, x_sqR, x_sqB, x_sqC, x_next, x_ret, x_retK, x_retN, x_asg, x_asgB, x_asgK, x_drop, x_dropK, x_if, x_ifT, x_ifF, x_for, x_forK, x_tgt, x_tgtK, x_tgtL, x_tname, x_par, x_parK, x_dput, x_dputK, x_dputK1, x_dputK2, x_dputL, x_def, x_defR, x_defN, y_add, y_sub, y_mul, y_mulX, y_mod, y_fdiv, y_lt, y_le, y_gt, y_ge, y_eqI, y_eqS, y_neI, y_neS, y_eqYI, y_eqYS, y_neYI, y_neYS, y_ixT, y_ixL, y_trB, y_k0, y_k1, y_k2, y_k3, y_k4, y_k5, y_k6, y_lenL, y_lenS, startE, List.map_cons, List.map_nil, List.length_cons, List.length_nil, List.replicate, List.cons_append, List.nil_append, List.append_nil, Nat.sub_self, Nat.reduceSub, Nat.reduceAdd, Nat.reduceLeDiff, Nat.reduceEqDiff, Nat.zero_add, Nat.zero_le, Nat.sub_zero, List.set_cons_zero, List.set_cons_succ, List.getElem?_cons_zero, List.getElem?_cons_succ, Bool.not_true, Bool.not_false, decide_true, decide_false, Int.reduceEq, Int.reduceLT, Int.reduceLE, Int.reduceSub, Int.reduceAdd, eq_self, Option.map_some, e1, decide_eq_true w0]
  · obtain ⟨es, S2, e2, l2, p2, v2⟩ := give_ok hq hc hm 3 (by decide) 3 mm rfl hmm (some (.int dd)) (some (.int r)) none none none none S1 v1.2.1
    have hg : okB cs many (.give es) := ⟨l2, p2⟩
    have plain : (decide (r < 4) = false ∨ (decide (r < 4) = true ∧ decide ((1 : Int) < dd) = false)) → ∃ b S', bodyS q l k [some (.ref n), some (cD cs), some (.int mm), some (.int dd), none, none, none, none, none] S = some (.rt (.val (Bd.d b)) S') ∧ okB cs many b ∧ b.deep ≤ d ∧ Ev n S S' := fun hor => by
      obtain ⟨b, S3, e3, p3, q3, v3⟩ := end_ok hq hl hc hm (.give es) hg d (by simp only [Bd.deep]; omega) h1 h9 mm hmm (some (.int dd)) (some (.int r)) none none none S2 v2.2.1
      refine ⟨b, S3, ?_, p3, q3, (v1.trans v2).trans v3⟩
      clear hmm hdd ih
      generalize cD cs = C at *
      generalize (Bd.give es).d = G at *
      rcases hor with q | ⟨q, q'⟩
      · simp only [bodyS, x_bnd, x_bnS, x_c, x_var, x_varK, x_stl, x_stlV, x_stlL, x_stlE, x_stlD, x_bxd, x_bxV, x_bxK, x_okv, x_okm, x_d2, x_d2K, x_d2L, x_tst, x_tstK, x_ch, x_chK, x_chL, x_chMt, x_chMf, x_chN, x_and, x_andK, x_andT, x_andF, x_or, x_orK, x_orT, x_orF, x_not, x_notK, x_notL, x_tru, x_truK, x_truL, x_band, x_bandT, x_bandF, x_bor, x_borT, x_borF, x_bnot, x_bnotK, x_dif, x_difT, x_difF, x_anil, x_acons, x_aK, x_aL, x_tup, x_tupK, x_lst, x_lstK, x_cl, x_clK, x_fn, x_fnK, x_isi, x_isiK, x_isiL, x_neg, x_negK, x_revL, x_kget, x_kgetK, x_sl, x_slK, x_slL, x_pnone, x_psome, x_psK, x_mt, x_mtK, x_mtL, x_itA, x_itAK, x_itL, x_itSeq, x_seqK, x_itStr, x_istrK, x_comp, x_compK, x_compL, x_wipe1, x_wipe2, x_seq, x_sqN, x_sqR, x_sqB, x_sqC, x_next, x_ret, x_retK, x_retN, x_asg, x_asgB, x_asgK, x_drop, x_dropK, x_if, x_ifT, x_ifF, x_for, x_forK, x_tgt, x_tgtK, x_tgtL, x_tname, x_par, x_parK, x_dput, x_dputK, x_dputK1, x_dputK2, x_dputL, x_def, x_defR, x_defN, y_add, y_sub, y_mul, y_mulX, y_mod, y_fdiv, y_lt, y_le, y_gt, y_ge, y_eqI, y_eqS, y_neI, y_neS, y_eqYI, y_eqYS, y_neYI, y_neYS, y_ixT, y_ixL, y_trB, y_k0, y_k1, y_k2, y_k3, y_k4, y_k5, y_k6, y_lenL, y_lenS, startE, List.map_cons, List.map_nil, List.length_cons, List.length_nil, List.replicate, List.cons_append, List.nil_append, List.append_nil, Nat.sub_self, Nat.reduceSub, Nat.reduceAdd, Nat.reduceLeDiff, Nat.reduceEqDiff, Nat.zero_add, Nat.zero_le, Nat.sub_zero, List.set_cons_zero, List.set_cons_succ, List.getElem?_cons_zero, List.getElem?_cons_succ, Bool.not_true, Bool.not_false, decide_true, decide_false, Int.reduceEq, Int.reduceLT, Int.reduceLE, Int.reduceSub, Int.reduceAdd, eq_self, Option.map_some, e1, decide_eq_false w0, e2, q, e3]
      · simp only [bodyS, x_bnd, x_bnS, x_c, x_var, x_varK, x_stl, x_stlV, x_stlL, x_stlE, x_stlD, x_bxd, x_bxV, x_bxK, x_okv, x_okm, x_d2, x_d2K, x_d2L, x_tst, x_tstK, x_ch, x_chK, x_chL, x_chMt, x_chMf, x_chN, x_and, x_andK, x_andT, x_andF, x_or, x_orK, x_orT, x_orF, x_not, x_notK, x_notL, x_tru, x_truK, x_truL, x_band, x_bandT, x_bandF, x_bor, x_borT, x_borF, x_bnot, x_bnotK, x_dif, x_difT, x_difF, x_anil, x_acons, x_aK, x_aL, x_tup, x_tupK, x_lst, x_lstK, x_cl, x_clK, x_fn, x_fnK, x_isi, x_isiK, x_isiL, x_neg, x_negK, x_revL, x_kget, x_kgetK, x_sl, x_slK, x_slL, x_pnone, x_psome, x_psK, x_mt, x_mtK, x_mtL, x_itA, x_itAK, x_itL, x_itSeq, x_seqK, x_itStr, x_istrK, x_comp, x_compK, x_compL, x_wipe1, x_wipe2, x_seq, x_sqN, x_sqR, x_sqB, x_sqC, x_next, x_ret, x_retK, x_retN, x_asg, x_asgB, x_asgK, x_drop, x_dropK, x_if, x_ifT, x_ifF, x_for, x_forK, x_tgt, x_tgtK, x_tgtL, x_tname, x_par, x_parK, x_dput, x_dputK, x_dputK1, x_dputK2, x_dputL, x_def, x_defR, x_defN, y_add, y_sub, y_mul, y_mulX, y_mod, y_fdiv, y_lt, y_le, y_gt, y_ge, y_eqI, y_eqS, y_neI, y_neS, y_eqYI, y_eqYS, y_neYI, y_neYS, y_ixT, y_ixL, y_trB, y_k0, y_k1, y_k2, y_k3, y_k4, y_k5, y_k6, y_lenL, y_lenS, startE, List.map_cons, List.map_nil, List.length_cons, List.length_nil, List.replicate, List.cons_append, List.nil_append, List.append_nil, Nat.sub_self, Nat.reduceSub, Nat.reduceAdd, Nat.reduceLeDiff, Nat.reduceEqDiff, Nat.zero_add, Nat.zero_le, Nat.sub_zero, List.set_cons_zero, List.set_cons_succ, List.getElem?_cons_zero, List.getElem?_cons_succ, Bool.not_true, Bool.not_false, decide_true, decide_false, Int.reduceEq, Int.reduceLT, Int.reduceLE, Int.reduceSub, Int.reduceAdd, eq_self, Option.map_some, e1, decide_eq_false w0, e2, q, q', e3]
    cases w4 : decide (r < 4) with
    | false => exact plain (.inl w4)
    | true =>
      cases w1 : decide ((1 : Int) < dd) with
      | false => exact plain (.inr ⟨w4, w1⟩)
      | true =>
        have d1 : (1 : Int) < dd := of_decide_eq_true w1
        obtain ⟨c, S3, e3, p3, v3⟩ := e_expr hc q 2 S2 (by decide) (by omega) (by decide) v2.2.1
        have e3 : den_law_expression q [.ref n, cD cs, .int 2] S2 = some (.ok (.val c.d) S3) := e3
        obtain ⟨a, S4, e4, p4, q4, v4⟩ := ih S3 v3.2.1 (by omega)
        obtain ⟨b, S5, e5, p5, q5, v5⟩ := ih S4 v4.2.1 (by omega)
        have hw : okB cs many (.whn c a b) := ⟨⟨p3.1, by have := p3.2; omega⟩, p4, p5⟩
        obtain ⟨b', S6, e6, p6, q6, v6⟩ := end_ok hq hl hc hm (.whn c a b) hw d (by simp only [Bd.deep]; omega) h1 h9 mm hmm (some (.int dd)) (some (.int r)) (some c.d) (some a.d) none S5 v5.2.1
        refine ⟨b', S6, ?_, p6, q6, ((((v1.trans v2).trans v3).trans v4).trans v5).trans v6⟩
        simp only [Bd.d] at e6
        clear hmm hdd ih plain
        generalize cD cs = C at *
        generalize (Bd.give es).d = G at *
        simp only [bodyS, exS, x_bnd, x_bnS, x_c, x_var, x_varK, x_stl, x_stlV, x_stlL, x_stlE, x_stlD, x_bxd, x_bxV, x_bxK, x_okv, x_okm, x_d2, x_d2K, x_d2L, x_tst, x_tstK, x_ch, x_chK, x_chL, x_chMt, x_chMf, x_chN, x_and, x_andK, x_andT, x_andF, x_or, x_orK, x_orT, x_orF, x_not, x_notK, x_notL, x_tru, x_truK, x_truL, x_band, x_bandT, x_bandF, x_bor, x_borT, x_borF, x_bnot, x_bnotK, x_dif, x_difT, x_difF, x_anil, x_acons, x_aK, x_aL, x_tup, x_tupK, x_lst, x_lstK, x_cl, x_clK, x_fn, x_fnK, x_isi, x_isiK, x_isiL, x_neg, x_negK, x_revL, x_kget, x_kgetK, x_sl, x_slK, x_slL, x_pnone, x_psome, x_psK, x_mt, x_mtK, x_mtL, x_itA, x_itAK, x_itL, x_itSeq, x_seqK, x_itStr, x_istrK, x_comp, x_compK, x_compL, x_wipe1, x_wipe2, x_seq, x_sqN, x_sqR, x_sqB, x_sqC, x_next, x_ret, x_retK, x_retN, x_asg, x_asgB, x_asgK, x_drop, x_dropK, x_if, x_ifT, x_ifF, x_for, x_forK, x_tgt, x_tgtK, x_tgtL, x_tname, x_par, x_parK, x_dput, x_dputK, x_dputK1, x_dputK2, x_dputL, x_def, x_defR, x_defN, y_add, y_sub, y_mul, y_mulX, y_mod, y_fdiv, y_lt, y_le, y_gt, y_ge, y_eqI, y_eqS, y_neI, y_neS, y_eqYI, y_eqYS, y_neYI, y_neYS, y_ixT, y_ixL, y_trB, y_k0, y_k1, y_k2, y_k3, y_k4, y_k5, y_k6, y_lenL, y_lenS, startE, List.map_cons, List.map_nil, List.length_cons, List.length_nil, List.replicate, List.cons_append, List.nil_append, List.append_nil, Nat.sub_self, Nat.reduceSub, Nat.reduceAdd, Nat.reduceLeDiff, Nat.reduceEqDiff, Nat.zero_add, Nat.zero_le, Nat.sub_zero, List.set_cons_zero, List.set_cons_succ, List.getElem?_cons_zero, List.getElem?_cons_succ, Bool.not_true, Bool.not_false, decide_true, decide_false, Int.reduceEq, Int.reduceLT, Int.reduceLE, Int.reduceSub, Int.reduceAdd, eq_self, Option.map_some, e1, decide_eq_false w0, e2, w4, w1, e3, e4, e5, e6]
theorem e_body (hc : okC cs) (hm : many ≤ 3) : ∀ (k d : Nat) (S : Sto), 1 ≤ d → d ≤ k → d ≤ 9 → At n S →
    ∃ b S', den_law_body k [.ref n, cD cs, .int (many : Int), .int (d : Int)] S = some (.ok (.val (Bd.d b)) S') ∧ okB cs many b ∧ b.deep ≤ d ∧ Ev n S S'
  | 0, d, S, h1, h2, _, _ => absurd h1 (by omega)
  | k + 1, d, S, h1, h2, h9, h => by
    obtain ⟨b, S', e, p, q, v⟩ := bodyS_ok (q := 6) (l := 12) (by decide) (by decide) hc hm k d h1 h9 _ _ rfl rfl (fun S h h2' => by
      obtain ⟨d, rfl⟩ : ∃ d', d = d' + 1 := ⟨d - 1, by omega⟩
      have cd : ((d + 1 : Nat) : Int) - 1 = (d : Int) := by omega
      rw [cd]
      obtain ⟨b, S', e, p, q, v⟩ := e_body hc hm k d S (by omega) (by omega) (by omega) h
      exact ⟨b, S', e, p, by omega, v⟩) S h
    refine ⟨b, S', ?_, p, q, v⟩
    have st : startE 9 [D.ref n, cD cs, .int (many : Int), .int (d : Int)] = [some (.ref n), some (cD cs), some (.int (many : Int)), some (.int (d : Int)), none, none, none, none, none] := rfl
    rw [body_eq, x_def, st, e, x_defR]
end
end W10
namespace W10
open Sf L2 PySem PySem.Spec PyProof.Rows
/-! boxed lists -/
theorem ty_box {S : Sto} {m : Nat} {ds : List D} (h : S[m]? = some (.lst ds)) : tyB "list" S (.ref m) = true := by
  simp only [tyB, h]
  rfl
theorem app_box {S : Sto} {m : Nat} {ds : List D} (h : S[m]? = some (.lst ds)) (d : D) (hl : ds.length < 100000) : appD S (.ref m) [d] = some (.val .non, S.set m (.lst (ds ++ [d]))) := by
  have e : appD S (.ref m) [d] = match S[m]? with
    | some (.lst es) => if es.length < sizeLine then some (.val .non, S.set m (.lst (es ++ [d]))) else none
    | _ => none := rfl
  rw [e, h]
  exact if_pos (Nat.lt_of_lt_of_le hl (by decide))
theorem tup_box {S : Sto} {m : Nat} {ds : List D} (h : S[m]? = some (.lst ds)) : tupleD S [.ref m] = some (.val (.tup ds)) := by
  have e : tupleD S [.ref m] = match view S (.ref m) with
    | some es => some (.val (.tup es))
    | none => none := rfl
  have v : view S (.ref m) = some ds := by
    simp only [view, h]
  rw [e, v]
/-- a later store, all but n and the box b as before -/
structure Eb (n b : Nat) (S S' : Sto) : Prop where
  len : S.length ≤ S'.length
  at_ : At n S'
  keep : ∀ m, m ≠ n → m ≠ b → m < S.length → S'[m]? = S[m]?
theorem Eb.trans {n b : Nat} {S S' S'' : Sto} (h : Eb n b S S') (g : Eb n b S' S'') : Eb n b S S'' :=
  ⟨Nat.le_trans h.len g.len, g.at_, fun m h1 h2 h3 => (g.keep m h1 h2 (Nat.lt_of_lt_of_le h3 h.len)).trans (h.keep m h1 h2 h3)⟩
theorem Ev.eb {n : Nat} {S S' : Sto} (h : Ev n S S') (b : Nat) : Eb n b S S' := ⟨h.1, h.2.1, fun m h1 _ h3 => h.2.2 m h1 h3⟩
theorem Eb.set {n b : Nat} {S S' : Sto} (h : Eb n b S S') (hb : b ≠ n) (o : Ob) : Eb n b S (S'.set b o) := by
  refine ⟨by rw [List.length_set]; exact h.len, ?_, fun m h1 h2 h3 => by rw [List.getElem?_set_ne (Ne.symm h2)]; exact h.keep m h1 h2 h3⟩
  obtain ⟨x, y, e, r⟩ := h.at_
  exact ⟨x, y, by rw [List.getElem?_set_ne hb]; exact e, r⟩
def numS : Sn := (sSeq (sPar 6 7 (aCons (dFn 2 den_law_pick (aCons (dVar 0) (aCons (dC (.int 4)) aNil))) (aCons (dFn 2 den_law_pick (aCons (dVar 0) (aCons (d2 powD (dC (.int 10)) (dC (.int 6))) aNil))) aNil)))
 (sDrop (dMt "list" appD (dVar 4) (aCons (d2 ixD (dLst (aCons (d2 modD (dVar 7) (dC (.int 3))) (aCons (d2 modD (dVar 7) (dC (.int 10))) (aCons (d2 subD (dC (.int 0)) (d2 modD (dVar 7) (dC (.int 20)))) (aCons (d2 mulX (dVar 7) (d2 powD (dC (.int 10)) (dC (.int 9)))) aNil))))) (dVar 6)) aNil))))
theorem pw6 (S : Sto) : powD S (.int 10) (.int 6) = some (.val (.int 1000000)) := rfl
theorem pw9 (S : Sto) : powD S (.int 10) (.int 9) = some (.val (.int 1000000000)) := rfl
theorem mo9 (i : Int) : mulOk i 1000000000 = true := mo_r (by decide) (by decide)
theorem four2 {a b : Int} (ha : 0 ≤ a ∧ a < 4) (hb : 0 ≤ b ∧ b < 1000000) : ∃ i, atI [D.int (b.fmod 3), .int (b.fmod 10), .int (0 - b.fmod 20), .int (b * 1000000000)] a = some (.int i) ∧ Bits 64 i := by
  have q1 := Int.fmod_nonneg_of_pos b (show (0 : Int) < 3 by decide)
  have q2 := Int.fmod_lt_of_pos b (show (0 : Int) < 3 by decide)
  have q3 := Int.fmod_nonneg_of_pos b (show (0 : Int) < 10 by decide)
  have q4 := Int.fmod_lt_of_pos b (show (0 : Int) < 10 by decide)
  have q5 := Int.fmod_nonneg_of_pos b (show (0 : Int) < 20 by decide)
  have q6 := Int.fmod_lt_of_pos b (show (0 : Int) < 20 by decide)
  have : a = 0 ∨ a = 1 ∨ a = 2 ∨ a = 3 := by omega
  rcases this with rfl | rfl | rfl | rfl
  · exact ⟨_, rfl, by unfold Bits; omega⟩
  · exact ⟨_, rfl, by unfold Bits; omega⟩
  · exact ⟨_, rfl, by unfold Bits; omega⟩
  · exact ⟨_, rfl, by unfold Bits; omega⟩
theorem num_ok {n b : Nat} (hb : b ≠ n) (x1 x2 x3 x5 x6 x7 : Option D) (S : Sto) (vs : List D) (h : At n S) (hS : S[b]? = some (.lst vs)) (hl : vs.length ≤ 1000) :
    ∃ i S' x6' x7', numS [some (.ref n), x1, x2, x3, some (.ref b), x5, x6, x7] S = some (.nx [some (.ref n), x1, x2, x3, some (.ref b), x5, x6', x7'] S') ∧ Bits 64 i ∧ S'[b]? = some (.lst (vs ++ [.int i])) ∧ Eb n b S S' := by
  obtain ⟨a, S1, e1, a1, a2, v1⟩ := e_pick h (m := 4) (by decide)
  obtain ⟨c, S2, e2, c1, c2, v2⟩ := e_pick v1.2.1 (m := 1000000) (by decide)
  obtain ⟨i, fi, bi⟩ := four2 ⟨a1, a2⟩ ⟨c1, c2⟩
  have hS2 := (v1.trans v2).at hb hS
  have ap := app_box hS2 (.int i) (by omega)
  have ty := ty_box hS2
  refine ⟨i, S2.set b (.lst (vs ++ [.int i])), some (.int a), some (.int c), ?_, bi, List.getElem?_set_self (List.getElem?_eq_some_iff.mp hS2).1, ((v1.trans v2).eb b).set hb _⟩
  simp only [numS, x_bnd, x_bnS, x_c, x_var, x_varK, x_stl, x_stlV, x_stlL, x_stlE, x_stlD, x_bxd, x_bxV, x_bxK, x_okv, x_okm, x_d2, x_d2K, x_d2L, x_tst, x_tstK, x_ch, x_chK, x_chL, x_chMt, x_chMf, x_chN, x_and, x_andK, x_andT, x_andF, x_or, x_orK, x_orT, x_orF, x_not, x_notK, x_notL, x_tru, x_truK, x_truL, x_band, x_bandT, x_bandF, x_bor, x_borT, x_borF, x_bnot, x_bnotK, x_dif, x_difT, x_difF, x_anil, x_acons, x_aK, x_aL, x_tup, x_tupK, x_lst, x_lstK, x_cl, x_clK, x_fn, x_fnK, x_isi, x_isiK, x_isiL, x_neg, x_negK, x_revL, x_kget, x_kgetK, x_sl, x_slK, x_slL, x_pnone, x_psome, x_psK, x_mt, x_mtK, x_mtL, x_itA, x_itAK, x_itL, x_itSeq, x_seqK, x_itStr, x_istrK, x_comp, x_compK, x_compL, x_wipe1, x_wipe2, x_seq, x_sqN, x_sqR, x_sqB, x_sqC, x_next, x_ret, x_retK, x_retN, x_asg, x_asgB, x_asgK, x_drop, x_dropK, x_if, x_ifT, x_ifF, x_for, x_forK, x_tgt, x_tgtK, x_tgtL, x_tname, x_par, x_parK, x_dput, x_dputK, x_dputK1, x_dputK2, x_dputL, x_def, x_defR, x_defN, y_add, y_sub, y_mul, y_mulX, y_mod, y_fdiv, y_lt, y_le, y_gt, y_ge, y_eqI, y_eqS, y_neI, y_neS, y_eqYI, y_eqYS, y_neYI, y_neYS, y_ixT, y_ixL, y_trB, y_k0, y_k1, y_k2, y_k3, y_k4, y_k5, y_k6, y_lenL, y_lenS, startE, List.map_cons, List.map_nil, List.length_cons, List.length_nil, List.replicate, List.cons_append, List.nil_append, List.append_nil, Nat.sub_self, Nat.reduceSub, Nat.reduceAdd, Nat.reduceLeDiff, Nat.reduceEqDiff, Nat.zero_add, Nat.zero_le, Nat.sub_zero, List.set_cons_zero, List.set_cons_succ, List.getElem?_cons_zero, List.getElem?_cons_succ, Bool.not_true, Bool.not_false, decide_true, decide_false, Int.reduceEq, Int.reduceLT, Int.reduceLE, Int.reduceSub, Int.reduceAdd, eq_self, Option.map_some, pw6, e1, e2, show (3 : Int) ≠ 0 by decide, show (10 : Int) ≠ 0 by decide, show (20 : Int) ≠ 0 by decide, ne_eq, not_false_eq_true, pw9, mo9, fi, ty, ap, x_drop, x_dropK]
theorem num_loop {n b : Nat} (hb : b ≠ n) (x1 x2 x3 : Option D) : ∀ (xs : List D) (vs : List D) (x5 x6 x7 : Option D) (S : Sto), At n S → S[b]? = some (.lst vs) → vs.length + xs.length ≤ 900 →
    ∃ (us : List Int) (S' : Sto) (x5' x6' x7' : Option D), loopS (tName 5) numS xs [some (.ref n), x1, x2, x3, some (.ref b), x5, x6, x7] S = some (.nx [some (.ref n), x1, x2, x3, some (.ref b), x5', x6', x7'] S') ∧
      us.length = xs.length ∧ (∀ u ∈ us, Bits 64 u) ∧ S'[b]? = some (.lst (vs ++ us.map .int)) ∧ Eb n b S S'
  | [], vs, x5, x6, x7, S, h, hS, _ => ⟨[], S, x5, x6, x7, rfl, rfl, fun _ h => absurd h (by simp), by rw [List.map_nil, List.append_nil]; exact hS, ⟨Nat.le_refl _, h, fun _ _ _ _ => rfl⟩⟩
  | x :: xs, vs, x5, x6, x7, S, h, hS, hl => by
    rw [List.length_cons] at hl
    obtain ⟨i, S1, y6, y7, e1, b1, s1, v1⟩ := num_ok hb x1 x2 x3 (some x) x6 x7 S vs h hS (by omega)
    obtain ⟨us, S2, z5, z6, z7, e2, l2, b2, s2, v2⟩ := num_loop hb x1 x2 x3 xs (vs ++ [.int i]) (some x) y6 y7 S1 v1.at_ s1 (by rw [List.length_append, List.length_singleton]; omega)
    refine ⟨i :: us, S2, z5, z6, z7, ?_, by rw [List.length_cons, List.length_cons, l2], fun u hu => ?_, by rw [s2, List.map_cons, List.append_assoc]; rfl, v1.trans v2⟩
    · have st : ∀ y, loopS (tName 5) numS (x :: y) [some (.ref n), x1, x2, x3, some (.ref b), x5, x6, x7] S = (match numS [some (.ref n), x1, x2, x3, some (.ref b), some x, x6, x7] S with
          | some (.nx ρ' S') => loopS (tName 5) numS y ρ' S'
          | some (.ct ρ' S') => loopS (tName 5) numS y ρ' S'
          | some (.bk ρ' S') => some (.nx ρ' S')
          | o => o) := fun y => rfl
      rw [st, e1]
      exact e2
    · rcases List.mem_cons.mp hu with rfl | hu
      · exact b1
      · exact b2 u hu
def rowS : Sn := (sSeq (sAsgB 4 (dLst aNil))
 (sSeq (sFor (itA range1D (aCons (dVar 3) aNil)) (tName 5) numS)
 (sDrop (dMt "list" appD (dVar 2) (aCons (dCl tupleD (aCons (dVar 4) aNil)) aNil)))))
def rD (f : List Int) : D := .tup (f.map .int)
theorem row_ok {n a : Nat} (ha : a ≠ n) (x1 x4 x5 x6 x7 : Option D) (m : Int) (hm : 0 ≤ m ∧ m ≤ 100) (S : Sto) (vs : List D) (h : At n S) (hS : S[a]? = some (.lst vs)) (hl : vs.length ≤ 1000) :
    ∃ (f : List Int) (S' : Sto) (x4' x5' x6' x7' : Option D), rowS [some (.ref n), x1, some (.ref a), some (.int m), x4, x5, x6, x7] S = some (.nx [some (.ref n), x1, some (.ref a), some (.int m), x4', x5', x6', x7'] S') ∧
      (f.length : Int) = m ∧ (∀ u ∈ f, Bits 64 u) ∧ S'[a]? = some (.lst (vs ++ [rD f])) ∧ Eb n a S S' := by
  have al : a < S.length := (List.getElem?_eq_some_iff.mp hS).1
  have hb : S.length ≠ n := by have := h.lt; omega
  have h0 : At n (S ++ [.lst []]) := h.gr (Gr.push _ _)
  have hS0 : (S ++ [Ob.lst []])[S.length]? = some (.lst []) := by
    rw [List.getElem?_append_right (Nat.le_refl _), Nat.sub_self]; rfl
  have rg := rng hm.1 hm.2
  have rl := rng_len m.toNat
  obtain ⟨us, S2, z5, z6, z7, e2, l2, b2, s2, v2⟩ := num_loop hb x1 (some (.ref a)) (some (.int m)) (rangeL 0 m.toNat) [] x5 x6 x7 (S ++ [.lst []]) h0 hS0 (by rw [rl, List.length_nil]; omega)
  rw [List.nil_append] at s2
  have hSa : S2[a]? = some (.lst vs) := by
    rw [v2.keep a ha (by omega) (by rw [List.length_append, List.length_singleton]; omega), List.getElem?_append_left al]
    exact hS
  have tb := tup_box s2
  have ap := app_box hSa (.tup (us.map .int)) (by omega)
  have ty := ty_box hSa
  refine ⟨us, S2.set a (.lst (vs ++ [rD us])), some (.ref S.length), z5, z6, z7, ?_, by rw [l2, rl]; omega, b2, List.getElem?_set_self (List.getElem?_eq_some_iff.mp hSa).1, ?_⟩
  · have bk : bxK (.own (.lst [])) S = some (.ok (.ref S.length) (S ++ [.lst []])) := rfl
    unfold rD
    generalize us.map D.int = U at *
    generalize S ++ [Ob.lst []] = S0 at *
    generalize S.length = b at *
    generalize rangeL 0 m.toNat = R at *
    simp only [rowS, x_bnd, x_bnS, x_c, x_var, x_varK, x_stl, x_stlV, x_stlL, x_stlE, x_stlD, x_bxd, x_bxV, x_bxK, x_okv, x_okm, x_d2, x_d2K, x_d2L, x_tst, x_tstK, x_ch, x_chK, x_chL, x_chMt, x_chMf, x_chN, x_and, x_andK, x_andT, x_andF, x_or, x_orK, x_orT, x_orF, x_not, x_notK, x_notL, x_tru, x_truK, x_truL, x_band, x_bandT, x_bandF, x_bor, x_borT, x_borF, x_bnot, x_bnotK, x_dif, x_difT, x_difF, x_anil, x_acons, x_aK, x_aL, x_tup, x_tupK, x_lst, x_lstK, x_cl, x_clK, x_fn, x_fnK, x_isi, x_isiK, x_isiL, x_neg, x_negK, x_revL, x_kget, x_kgetK, x_sl, x_slK, x_slL, x_pnone, x_psome, x_psK, x_mt, x_mtK, x_mtL, x_itA, x_itAK, x_itL, x_itSeq, x_seqK, x_itStr, x_istrK, x_comp, x_compK, x_compL, x_wipe1, x_wipe2, x_seq, x_sqN, x_sqR, x_sqB, x_sqC, x_next, x_ret, x_retK, x_retN, x_asg, x_asgB, x_asgK, x_drop, x_dropK, x_if, x_ifT, x_ifF, x_for, x_forK, x_tgt, x_tgtK, x_tgtL, x_tname, x_par, x_parK, x_dput, x_dputK, x_dputK1, x_dputK2, x_dputL, x_def, x_defR, x_defN, y_add, y_sub, y_mul, y_mulX, y_mod, y_fdiv, y_lt, y_le, y_gt, y_ge, y_eqI, y_eqS, y_neI, y_neS, y_eqYI, y_eqYS, y_neYI, y_neYS, y_ixT, y_ixL, y_trB, y_k0, y_k1, y_k2, y_k3, y_k4, y_k5, y_k6, y_lenL, y_lenS, startE, List.map_cons, List.map_nil, List.length_cons, List.length_nil, List.replicate, List.cons_append, List.nil_append, List.append_nil, Nat.sub_self, Nat.reduceSub, Nat.reduceAdd, Nat.reduceLeDiff, Nat.reduceEqDiff, Nat.zero_add, Nat.zero_le, Nat.sub_zero, List.set_cons_zero, List.set_cons_succ, List.getElem?_cons_zero, List.getElem?_cons_succ, Bool.not_true, Bool.not_false, decide_true, decide_false, Int.reduceEq, Int.reduceLT, Int.reduceLE, Int.reduceSub, Int.reduceAdd, eq_self, Option.map_some, x_asgB, x_bxd, bk, rg, e2, ty, tb, ap, x_drop, x_dropK]
  · refine ⟨by rw [List.length_set]; have := v2.len; rw [List.length_append] at this; omega, ?_, fun k h1 h2 h3 => ?_⟩
    · obtain ⟨x, y, e, r⟩ := v2.at_
      exact ⟨x, y, by rw [List.getElem?_set_ne ha]; exact e, r⟩
    · rw [List.getElem?_set_ne (Ne.symm h2), v2.keep k h1 (by omega) (by rw [List.length_append]; omega), List.getElem?_append_left h3]
theorem row_loop {n a : Nat} (ha : a ≠ n) (x1 : Option D) : ∀ (ms : List Int) (vs : List D) (x3 x4 x5 x6 x7 : Option D) (S : Sto), (∀ m ∈ ms, 0 ≤ m ∧ m ≤ 100) → At n S → S[a]? = some (.lst vs) → vs.length + ms.length ≤ 900 →
    ∃ (fs : List (List Int)) (S' : Sto) (ρ' : En), loopS (tName 3) rowS (ms.map .int) [some (.ref n), x1, some (.ref a), x3, x4, x5, x6, x7] S = some (.nx ρ' S') ∧ ρ'[2]? = some (some (.ref a)) ∧
      fs.map (fun f => (f.length : Int)) = ms ∧ (∀ f ∈ fs, ∀ u ∈ f, Bits 64 u) ∧ S'[a]? = some (.lst (vs ++ fs.map rD)) ∧ Eb n a S S'
  | [], vs, x3, x4, x5, x6, x7, S, _, h, hS, _ => ⟨[], S, _, rfl, rfl, rfl, fun _ h => absurd h (by simp), by rw [List.map_nil, List.append_nil]; exact hS, ⟨Nat.le_refl _, h, fun _ _ _ _ => rfl⟩⟩
  | m :: ms, vs, x3, x4, x5, x6, x7, S, hm, h, hS, hl => by
    rw [List.length_cons] at hl
    obtain ⟨f, S1, y4, y5, y6, y7, e1, l1, b1, s1, v1⟩ := row_ok ha x1 x4 x5 x6 x7 m (hm m List.mem_cons_self) S vs h hS (by omega)
    obtain ⟨fs, S2, ρ2, e2, r2, l2, b2, s2, v2⟩ := row_loop ha x1 ms (vs ++ [rD f]) (some (.int m)) y4 y5 y6 y7 S1 (fun x hx => hm x (List.mem_cons_of_mem _ hx)) v1.at_ s1 (by rw [List.length_append, List.length_singleton]; omega)
    refine ⟨f :: fs, S2, ρ2, ?_, r2, by rw [List.map_cons, l1, l2], fun g hg => ?_, by rw [s2, List.map_cons, List.append_assoc]; rfl, v1.trans v2⟩
    · have st : ∀ y, loopS (tName 3) rowS (.int m :: y) [some (.ref n), x1, some (.ref a), x3, x4, x5, x6, x7] S = (match rowS [some (.ref n), x1, some (.ref a), some (.int m), x4, x5, x6, x7] S with
          | some (.nx ρ' S') => loopS (tName 3) rowS y ρ' S'
          | some (.ct ρ' S') => loopS (tName 3) rowS y ρ' S'
          | some (.bk ρ' S') => some (.nx ρ' S')
          | o => o) := fun y => rfl
      rw [List.map_cons, st, e1]
      exact e2
    · rcases List.mem_cons.mp hg with rfl | hg
      · exact b1
      · exact b2 g hg
theorem fields_eq : den_law_drawn_fields = defD 8 (sSeq (sAsgB 2 (dLst aNil)) (sSeq (sFor (itSeq (dVar 1)) (tName 3) rowS) (sRet (dCl tupleD (aCons (dVar 2) aNil))))) := rfl
theorem e_fields {cs : List Int} {n : Nat} (hc : okC cs) (S : Sto) (h : At n S) : ∃ fs S', den_law_drawn_fields [.ref n, cD cs] S = some (.ok (.val (fD fs)) S') ∧ okF cs fs ∧ Ev n S S' := by
  have ha : S.length ≠ n := by have := h.lt; omega
  have h0 : At n (S ++ [.lst []]) := h.gr (Gr.push _ _)
  have hS0 : (S ++ [Ob.lst []])[S.length]? = some (.lst []) := by
    rw [List.getElem?_append_right (Nat.le_refl _), Nat.sub_self]; rfl
  obtain ⟨fs, S2, ρ2, e2, r2, l2, b2, s2, v2⟩ := row_loop ha (some (cD cs)) cs [] none none none none none (S ++ [.lst []]) (fun m hm => by have := hc.row m hm; omega) h0 hS0 (by have := hc.len; rw [List.length_nil]; omega)
  rw [List.nil_append] at s2
  have tb := tup_box s2
  have hf : okF cs fs := by
    refine ⟨by rw [← l2, List.length_map], fun i m hi => ?_, b2⟩
    rw [← l2, List.getElem?_map] at hi
    cases q : fs[i]? with
    | none => rw [q] at hi; cases hi
    | some f => rw [q] at hi; exact ⟨f, rfl, Option.some.inj hi⟩
  refine ⟨fs, S2, ?_, hf, ⟨by have := v2.len; rw [List.length_append] at this; omega, v2.at_, fun k h1 h3 => ?_⟩⟩
  · have bk : bxK (.own (.lst [])) S = some (.ok (.ref S.length) (S ++ [.lst []])) := rfl
    have fe : fD fs = .tup (fs.map rD) := rfl
    rw [fe]
    unfold cD at e2 ⊢
    generalize fs.map rD = U at *
    generalize cs.map D.int = M at *
    generalize S ++ [Ob.lst []] = S0 at *
    generalize S.length = b at *
    simp only [fields_eq, x_bnd, x_bnS, x_c, x_var, x_varK, x_stl, x_stlV, x_stlL, x_stlE, x_stlD, x_bxd, x_bxV, x_bxK, x_okv, x_okm, x_d2, x_d2K, x_d2L, x_tst, x_tstK, x_ch, x_chK, x_chL, x_chMt, x_chMf, x_chN, x_and, x_andK, x_andT, x_andF, x_or, x_orK, x_orT, x_orF, x_not, x_notK, x_notL, x_tru, x_truK, x_truL, x_band, x_bandT, x_bandF, x_bor, x_borT, x_borF, x_bnot, x_bnotK, x_dif, x_difT, x_difF, x_anil, x_acons, x_aK, x_aL, x_tup, x_tupK, x_lst, x_lstK, x_cl, x_clK, x_fn, x_fnK, x_isi, x_isiK, x_isiL, x_neg, x_negK, x_revL, x_kget, x_kgetK, x_sl, x_slK, x_slL, x_pnone, x_psome, x_psK, x_mt, x_mtK, x_mtL, x_itA, x_itAK, x_itL, x_itSeq, x_seqK, x_itStr, x_istrK, x_comp, x_compK, x_compL, x_wipe1, x_wipe2, x_seq, x_sqN, x_sqR, x_sqB, x_sqC, x_next, x_ret, x_retK, x_retN, x_asg, x_asgB, x_asgK, x_drop, x_dropK, x_if, x_ifT, x_ifF, x_for, x_forK, x_tgt, x_tgtK, x_tgtL, x_tname, x_par, x_parK, x_dput, x_dputK, x_dputK1, x_dputK2, x_dputL, x_def, x_defR, x_defN, y_add, y_sub, y_mul, y_mulX, y_mod, y_fdiv, y_lt, y_le, y_gt, y_ge, y_eqI, y_eqS, y_neI, y_neS, y_eqYI, y_eqYS, y_neYI, y_neYS, y_ixT, y_ixL, y_trB, y_k0, y_k1, y_k2, y_k3, y_k4, y_k5, y_k6, y_lenL, y_lenS, startE, List.map_cons, List.map_nil, List.length_cons, List.length_nil, List.replicate, List.cons_append, List.nil_append, List.append_nil, Nat.sub_self, Nat.reduceSub, Nat.reduceAdd, Nat.reduceLeDiff, Nat.reduceEqDiff, Nat.zero_add, Nat.zero_le, Nat.sub_zero, List.set_cons_zero, List.set_cons_succ, List.getElem?_cons_zero, List.getElem?_cons_succ, Bool.not_true, Bool.not_false, decide_true, decide_false, Int.reduceEq, Int.reduceLT, Int.reduceLE, Int.reduceSub, Int.reduceAdd, eq_self, Option.map_some, x_asgB, x_bxd, bk, fixed, e2, r2, tb]
  · rw [v2.keep k h1 (by omega) (by rw [List.length_append]; omega), List.getElem?_append_left h3]
end W10
namespace W10
open Sf L2 PySem PySem.Spec PyProof.Rows
/-! one turn of the law -/
def fC : Dn Out := d2 addD (dC (.int 1)) (dFn 2 den_law_pick (aCons (dVar 2) (aCons (dC (.int 3)) aNil)))
def rT : Dn Bool := bNot (dTru (dFn 3 den_law_right (aCons (dVar 5) (aCons (dVar 6) (aCons (dVar 9) aNil)))))
def fF : Dn Out := dFn 2 den_law_drawn_fields (aCons (dVar 2) (aCons (dVar 3) aNil))
def cellS (q r : Nat) : Sn := (sSeq (sAsg 2 (dFn 2 den_law_begun (aCons (dVar 0) (aCons (dVar 1) aNil))))
 (sSeq (sAsg 3 (dCl tupleD (aCons (dComp (itA range1D (aCons (dFn 2 den_law_pick (aCons (dVar 2) (aCons (dC (.int 4)) aNil))) aNil)) (tName 8) bYes fC [8]) aNil)))
 (sSeq (sTgt (tTup (tsCons (tName 5) (tsCons (tName 6) tsNil))) (dTup (aCons (dFn 3 (den_law_expression q) (aCons (dVar 2) (aCons (dVar 3) (aCons (dC (.int 4)) aNil)))) (aCons (dFn 4 (den_law_body r) (aCons (dVar 2) (aCons (dVar 3) (aCons (d2 addD (dC (.int 1)) (dFn 2 den_law_pick (aCons (dVar 2) (aCons (dC (.int 3)) aNil)))) (aCons (dC (.int 4)) aNil))))) aNil))))
 (sSeq (sAsg 4 (dComp (itA range1D (aCons (dC (.int 3)) aNil)) (tName 7) bYes fF [7]))
 (sIf (tst (d2 neX (dComp (itSeq (d2 addD (dVar 4) (dRevL (dVar 4)))) (tName 9) rT (dVar 9) [9]) (dLst aNil))) (sRet (dC (.bl false))) sNext)))))
theorem law_eq : den_law = defD 10 ((sSeq (sFor (itA range1D (aCons (dCl maxD (aCons (dC (.int 2)) (aCons (dCl minD (aCons (dC (.int 12)) (aCons (dCl lenD (aCons (dVar 0) aNil)) aNil))) aNil))) aNil)) (tName 1) (cellS 6 6))
 (sRet (dFn 0 den_law_words_right aNil)))) := rfl
theorem right_loop {cs : List Int} {many : Nat} (hc : okC cs) (hm : many ≤ 3) {e : Ex} {b : Bd} (he : okE cs e) (hd : e.deep ≤ 4) (hb : okB cs many b) (hbd : b.deep ≤ 4) (x0 x1 x2 x3 x4 x7 x8 x9 : Option D) : ∀ (l : List (List (List Int))) (S : Sto), (∀ fs ∈ l, okF cs fs) →
    ∃ S', loopC (tName 9) rT (dVar 9) [x0, x1, x2, x3, x4, some e.d, some b.d, x7, x8, x9] (l.map fD) 0 S = some ([], S') ∧ Gr S S'
  | [], S, _ => ⟨S, rfl, Gr.refl S⟩
  | fs :: l, S, h => by
    obtain ⟨S1, e1, g1⟩ := e_right hc (h fs List.mem_cons_self) hm he hd hb hbd S
    obtain ⟨S2, e2, g2⟩ := right_loop hc hm he hd hb hbd x0 x1 x2 x3 x4 x7 x8 x9 l S1 fun x hx => h x (List.mem_cons_of_mem _ hx)
    refine ⟨S2, ?_, g1.trans g2⟩
    refine lc_skip (S1 := S1) (ρ1 := [x0, x1, x2, x3, x4, some e.d, some b.d, x7, x8, some (fD fs)]) rfl ?_ e2
    generalize fD fs = F at *
    generalize e.d = De at *
    generalize b.d = Db at *
    simp only [rT, x_bnd, x_bnS, x_c, x_var, x_varK, x_stl, x_stlV, x_stlL, x_stlE, x_stlD, x_bxd, x_bxV, x_bxK, x_okv, x_okm, x_d2, x_d2K, x_d2L, x_tst, x_tstK, x_ch, x_chK, x_chL, x_chMt, x_chMf, x_chN, x_and, x_andK, x_andT, x_andF, x_or, x_orK, x_orT, x_orF, x_not, x_notK, x_notL, x_tru, x_truK, x_truL, x_band, x_bandT, x_bandF, x_bor, x_borT, x_borF, x_bnot, x_bnotK, x_dif, x_difT, x_difF, x_anil, x_acons, x_aK, x_aL, x_tup, x_tupK, x_lst, x_lstK, x_cl, x_clK, x_fn, x_fnK, x_isi, x_isiK, x_isiL, x_neg, x_negK, x_revL, x_kget, x_kgetK, x_sl, x_slK, x_slL, x_pnone, x_psome, x_psK, x_mt, x_mtK, x_mtL, x_itA, x_itAK, x_itL, x_itSeq, x_seqK, x_itStr, x_istrK, x_comp, x_compK, x_compL, x_wipe1, x_wipe2, x_seq, x_sqN, x_sqR, x_sqB, x_sqC, x_next, x_ret, x_retK, x_retN, x_asg, x_asgB, x_asgK, x_drop, x_dropK, x_if, x_ifT, x_ifF, x_for, x_forK, x_tgt, x_tgtK, x_tgtL, x_tname, x_par, x_parK, x_dput, x_dputK, x_dputK1, x_dputK2, x_dputL, x_def, x_defR, x_defN, y_add, y_sub, y_mul, y_mulX, y_mod, y_fdiv, y_lt, y_le, y_gt, y_ge, y_eqI, y_eqS, y_neI, y_neS, y_eqYI, y_eqYS, y_neYI, y_neYS, y_ixT, y_ixL, y_trB, y_k0, y_k1, y_k2, y_k3, y_k4, y_k5, y_k6, y_lenL, y_lenS, startE, List.map_cons, List.map_nil, List.length_cons, List.length_nil, List.replicate, List.cons_append, List.nil_append, List.append_nil, Nat.sub_self, Nat.reduceSub, Nat.reduceAdd, Nat.reduceLeDiff, Nat.reduceEqDiff, Nat.zero_add, Nat.zero_le, Nat.sub_zero, List.set_cons_zero, List.set_cons_succ, List.getElem?_cons_zero, List.getElem?_cons_succ, Bool.not_true, Bool.not_false, decide_true, decide_false, Int.reduceEq, Int.reduceLT, Int.reduceLE, Int.reduceSub, Int.reduceAdd, eq_self, Option.map_some, e1]
theorem y_addLL (S : Sto) (as bs : List D) (h : as.length + bs.length ≤ 100000) : addD S (.lst as) (.lst bs) = some (.own (.lst (as ++ bs))) := if_pos (Nat.le_trans h (by decide))
theorem y_rev (S : Sto) (ds : List D) : revK (.lst ds) S = some (.ok (.own (.lst ds.reverse)) S) := rfl
theorem push_at (S : Sto) (o : Ob) : (S ++ [o])[S.length]? = some o := by
  rw [List.getElem?_append_right (Nat.le_refl _), Nat.sub_self]; rfl
theorem cell_ok {q r : Nat} (hq : 4 ≤ q) (hr : 4 ≤ r) (ns : List Int) (k : Int) (hk : 0 ≤ k ∧ k < 2 ^ 30) (x2 x3 x4 x5 x6 x7 x8 x9 : Option D) (S : Sto) :
    ∃ S' y2 y3 y4 y5 y6 y7 y8 y9, cellS q r [some (.fls (ns.map .int)), some (.int k), x2, x3, x4, x5, x6, x7, x8, x9] S = some (.nx [some (.fls (ns.map .int)), some (.int k), y2, y3, y4, y5, y6, y7, y8, y9] S') := by
  obtain ⟨a, b, e1, hab⟩ := e_begun S ns k hk
  have a0 : At S.length (S ++ [stO a b]) := ⟨a, b, push_at S _, hab⟩
  have sk : stlK (.own (stO a b)) S = some (.ok (.ref S.length) (S ++ [stO a b])) := rfl
  generalize S ++ [stO a b] = S0 at a0 sk
  generalize S.length = n at a0 sk
  obtain ⟨c, S1, e2, c1, c2, v1⟩ := e_pick a0 (m := 4) (by decide)
  have rg := rng c1 (by omega)
  have rl := rng_len c.toNat
  generalize ns.map D.int = N at *
  have fx : ∀ (x : D) S, At n S → ∃ i S', fC (List.set [some (.fls N), some (.int k), some (.ref n), x3, x4, x5, x6, x7, none, x9] 8 (some x)) S = some (.ok (.val (D.int i)) S') ∧ (1 ≤ i ∧ i ≤ 3) ∧ Ev n S S' := fun x S h => by
    obtain ⟨i, S', e0, i1, i2, v⟩ := e_pick h (m := 3) (by decide)
    refine ⟨1 + i, S', ?_, by omega, v⟩
    simp only [fC, x_bnd, x_bnS, x_c, x_var, x_varK, x_stl, x_stlV, x_stlL, x_stlE, x_stlD, x_bxd, x_bxV, x_bxK, x_okv, x_okm, x_d2, x_d2K, x_d2L, x_tst, x_tstK, x_ch, x_chK, x_chL, x_chMt, x_chMf, x_chN, x_and, x_andK, x_andT, x_andF, x_or, x_orK, x_orT, x_orF, x_not, x_notK, x_notL, x_tru, x_truK, x_truL, x_band, x_bandT, x_bandF, x_bor, x_borT, x_borF, x_bnot, x_bnotK, x_dif, x_difT, x_difF, x_anil, x_acons, x_aK, x_aL, x_tup, x_tupK, x_lst, x_lstK, x_cl, x_clK, x_fn, x_fnK, x_isi, x_isiK, x_isiL, x_neg, x_negK, x_revL, x_kget, x_kgetK, x_sl, x_slK, x_slL, x_pnone, x_psome, x_psK, x_mt, x_mtK, x_mtL, x_itA, x_itAK, x_itL, x_itSeq, x_seqK, x_itStr, x_istrK, x_comp, x_compK, x_compL, x_wipe1, x_wipe2, x_seq, x_sqN, x_sqR, x_sqB, x_sqC, x_next, x_ret, x_retK, x_retN, x_asg, x_asgB, x_asgK, x_drop, x_dropK, x_if, x_ifT, x_ifF, x_for, x_forK, x_tgt, x_tgtK, x_tgtL, x_tname, x_par, x_parK, x_dput, x_dputK, x_dputK1, x_dputK2, x_dputL, x_def, x_defR, x_defN, y_add, y_sub, y_mul, y_mulX, y_mod, y_fdiv, y_lt, y_le, y_gt, y_ge, y_eqI, y_eqS, y_neI, y_neS, y_eqYI, y_eqYS, y_neYI, y_neYS, y_ixT, y_ixL, y_trB, y_k0, y_k1, y_k2, y_k3, y_k4, y_k5, y_k6, y_lenL, y_lenS, startE, List.map_cons, List.map_nil, List.length_cons, List.length_nil, List.replicate, List.cons_append, List.nil_append, List.append_nil, Nat.sub_self, Nat.reduceSub, Nat.reduceAdd, Nat.reduceLeDiff, Nat.reduceEqDiff, Nat.zero_add, Nat.zero_le, Nat.sub_zero, List.set_cons_zero, List.set_cons_succ, List.getElem?_cons_zero, List.getElem?_cons_succ, Bool.not_true, Bool.not_false, decide_true, decide_false, Int.reduceEq, Int.reduceLT, Int.reduceLE, Int.reduceSub, Int.reduceAdd, eq_self, Option.map_some, e0]
  obtain ⟨cs, S2, l2, p2, e3, v2⟩ := draw_loop (g := D.int) (P := fun i => 1 ≤ i ∧ i ≤ 3) (i := 8) (f := fC) fx (rangeL 0 c.toNat) 0 S1 v1.2.1 (by rw [rl]; omega)
  have hc : okC cs := ⟨by rw [l2, rl]; omega, p2⟩
  have cC : D.tup (cs.map .int) = cD cs := rfl
  obtain ⟨e, S3, e4, p4, v4⟩ := e_expr hc q 4 S2 (by decide) (by omega) (by decide) v2.2.1
  have e4 : den_law_expression q [.ref n, cD cs, .int 4] S2 = some (.ok (.val e.d) S3) := e4
  obtain ⟨m, S4, e5, m1, m2, v5⟩ := e_pick v4.2.1 (m := 3) (by decide)
  obtain ⟨w, hw⟩ : ∃ w : Int, 1 + m = w := ⟨_, rfl⟩
  have ew : ((w.toNat : Nat) : Int) = w := by omega
  obtain ⟨bd, S5, e6, p6, q6, v6⟩ := e_body hc (many := w.toNat) (by omega) r 4 S4 (by decide) (by omega) (by decide) v5.2.1
  rw [ew] at e6
  have e6 : den_law_body r [.ref n, cD cs, .int w, .int 4] S4 = some (.ok (.val bd.d) S5) := e6
  have rg3 := rng (show (0 : Int) ≤ 3 by decide) (by decide)
  have rl3 := rng_len (3 : Int).toNat
  have fy : ∀ (x : D) S, At n S → ∃ fs S', fF (List.set [some (.fls N), some (.int k), some (.ref n), some (cD cs), x4, some e.d, some bd.d, none, x8, x9] 7 (some x)) S = some (.ok (.val (fD fs)) S') ∧ okF cs fs ∧ Ev n S S' := fun x S h => by
    obtain ⟨fs, S', e0, hf, v⟩ := e_fields hc S h
    refine ⟨fs, S', ?_, hf, v⟩
    generalize cD cs = C at *
    generalize fD fs = F at *
    simp only [fF, x_bnd, x_bnS, x_c, x_var, x_varK, x_stl, x_stlV, x_stlL, x_stlE, x_stlD, x_bxd, x_bxV, x_bxK, x_okv, x_okm, x_d2, x_d2K, x_d2L, x_tst, x_tstK, x_ch, x_chK, x_chL, x_chMt, x_chMf, x_chN, x_and, x_andK, x_andT, x_andF, x_or, x_orK, x_orT, x_orF, x_not, x_notK, x_notL, x_tru, x_truK, x_truL, x_band, x_bandT, x_bandF, x_bor, x_borT, x_borF, x_bnot, x_bnotK, x_dif, x_difT, x_difF, x_anil, x_acons, x_aK, x_aL, x_tup, x_tupK, x_lst, x_lstK, x_cl, x_clK, x_fn, x_fnK, x_isi, x_isiK, x_isiL, x_neg, x_negK, x_revL, x_kget, x_kgetK, x_sl, x_slK, x_slL, x_pnone, x_psome, x_psK, x_mt, x_mtK, x_mtL, x_itA, x_itAK, x_itL, x_itSeq, x_seqK, x_itStr, x_istrK, x_comp, x_compK, x_compL, x_wipe1, x_wipe2, x_seq, x_sqN, x_sqR, x_sqB, x_sqC, x_next, x_ret, x_retK, x_retN, x_asg, x_asgB, x_asgK, x_drop, x_dropK, x_if, x_ifT, x_ifF, x_for, x_forK, x_tgt, x_tgtK, x_tgtL, x_tname, x_par, x_parK, x_dput, x_dputK, x_dputK1, x_dputK2, x_dputL, x_def, x_defR, x_defN, y_add, y_sub, y_mul, y_mulX, y_mod, y_fdiv, y_lt, y_le, y_gt, y_ge, y_eqI, y_eqS, y_neI, y_neS, y_eqYI, y_eqYS, y_neYI, y_neYS, y_ixT, y_ixL, y_trB, y_k0, y_k1, y_k2, y_k3, y_k4, y_k5, y_k6, y_lenL, y_lenS, startE, List.map_cons, List.map_nil, List.length_cons, List.length_nil, List.replicate, List.cons_append, List.nil_append, List.append_nil, Nat.sub_self, Nat.reduceSub, Nat.reduceAdd, Nat.reduceLeDiff, Nat.reduceEqDiff, Nat.zero_add, Nat.zero_le, Nat.sub_zero, List.set_cons_zero, List.set_cons_succ, List.getElem?_cons_zero, List.getElem?_cons_succ, Bool.not_true, Bool.not_false, decide_true, decide_false, Int.reduceEq, Int.reduceLT, Int.reduceLE, Int.reduceSub, Int.reduceAdd, eq_self, Option.map_some, e0]
  obtain ⟨fss, S6, l7, p7, e7, v7⟩ := draw_loop (g := fD) (P := okF cs) (i := 7) (f := fF) fy (rangeL 0 (3 : Int).toNat) 0 S5 v6.2.1 (by rw [rl3]; decide)
  have l3 : (fss.map fD).length = 3 := by rw [List.length_map, l7, rl3]; rfl
  have ad := y_addLL S6 (fss.map fD) (fss.map fD).reverse (by rw [List.length_reverse]; omega)
  have er : fss.map fD ++ (fss.map fD).reverse = (fss ++ fss.reverse).map fD := by rw [List.map_append, List.map_reverse]
  obtain ⟨S7, e8, g8⟩ := right_loop hc (many := w.toNat) (by omega) p4.1 p4.2 p6 q6 (some (.fls N)) (some (.int k)) (some (.ref n)) (some (cD cs)) (some (.lst (fss.map fD))) x7 x8 none (fss ++ fss.reverse) S6 (fun f hf => by
    rcases List.mem_append.mp hf with hf | hf
    · exact p7 f hf
    · exact p7 f (List.mem_reverse.mp hf))
  rw [← er] at e8
  refine ⟨S7, some (.ref n), some (cD cs), some (.lst (fss.map fD)), some e.d, some bd.d, x7, x8, x9, ?_⟩
  clear ew fx fy p6
  generalize fss.map fD = Z at *
  have tt : (tTup (tsCons (tName 5) (tsCons (tName 6) tsNil))) [some (.fls N), some (.int k), some (.ref n), some (cD cs), x4, x5, x6, x7, x8, x9] (.tup [e.d, bd.d]) = some [some (.fls N), some (.int k), some (.ref n), some (cD cs), x4, some e.d, some bd.d, x7, x8, x9] := rfl
  have yt := y_tupL S2 (cs.map .int)
  rw [cC] at yt
  generalize cs.map D.int = CL at *
  generalize cD cs = C at *
  generalize e.d = De at *
  generalize bd.d = Db at *
  generalize rangeL 0 c.toNat = R at *
  generalize rangeL 0 (3 : Int).toNat = R3 at *
  simp only [cellS, x_bnd, x_bnS, x_c, x_var, x_varK, x_stl, x_stlV, x_stlL, x_stlE, x_stlD, x_bxd, x_bxV, x_bxK, x_okv, x_okm, x_d2, x_d2K, x_d2L, x_tst, x_tstK, x_ch, x_chK, x_chL, x_chMt, x_chMf, x_chN, x_and, x_andK, x_andT, x_andF, x_or, x_orK, x_orT, x_orF, x_not, x_notK, x_notL, x_tru, x_truK, x_truL, x_band, x_bandT, x_bandF, x_bor, x_borT, x_borF, x_bnot, x_bnotK, x_dif, x_difT, x_difF, x_anil, x_acons, x_aK, x_aL, x_tup, x_tupK, x_lst, x_lstK, x_cl, x_clK, x_fn, x_fnK, x_isi, x_isiK, x_isiL, x_neg, x_negK, x_revL, x_kget, x_kgetK, x_sl, x_slK, x_slL, x_pnone, x_psome, x_psK, x_mt, x_mtK, x_mtL, x_itA, x_itAK, x_itL, x_itSeq, x_seqK, x_itStr, x_istrK, x_comp, x_compK, x_compL, x_wipe1, x_wipe2, x_seq, x_sqN, x_sqR, x_sqB, x_sqC, x_next, x_ret, x_retK, x_retN, x_asg, x_asgB, x_asgK, x_drop, x_dropK, x_if, x_ifT, x_ifF, x_for, x_forK, x_tgt, x_tgtK, x_tgtL, x_tname, x_par, x_parK, x_dput, x_dputK, x_dputK1, x_dputK2, x_dputL, x_def, x_defR, x_defN, y_add, y_sub, y_mul, y_mulX, y_mod, y_fdiv, y_lt, y_le, y_gt, y_ge, y_eqI, y_eqS, y_neI, y_neS, y_eqYI, y_eqYS, y_neYI, y_neYS, y_ixT, y_ixL, y_trB, y_k0, y_k1, y_k2, y_k3, y_k4, y_k5, y_k6, y_lenL, y_lenS, startE, List.map_cons, List.map_nil, List.length_cons, List.length_nil, List.replicate, List.cons_append, List.nil_append, List.append_nil, Nat.sub_self, Nat.reduceSub, Nat.reduceAdd, Nat.reduceLeDiff, Nat.reduceEqDiff, Nat.zero_add, Nat.zero_le, Nat.sub_zero, List.set_cons_zero, List.set_cons_succ, List.getElem?_cons_zero, List.getElem?_cons_succ, Bool.not_true, Bool.not_false, decide_true, decide_false, Int.reduceEq, Int.reduceLT, Int.reduceLE, Int.reduceSub, Int.reduceAdd, eq_self, Option.map_some, e1, sk, e2, rg, e3, yt, e4, e5, hw, e6, x_tgt, x_tgtK, tt, x_tgtL, rg3, e7, x_revL, y_rev, ad, fixed, e8, y_neNil, List.isEmpty_nil]
theorem rl_mem {j : Nat} : ∀ d ∈ rangeL 0 j, ∃ i : Int, d = .int i ∧ 0 ≤ i ∧ i < (j : Int) := fun d hd => by
  unfold rangeL at hd
  obtain ⟨i, hi, rfl⟩ := List.mem_map.mp hd
  have := List.mem_range.mp hi
  exact ⟨_, rfl, by omega, by omega⟩
theorem cells {q r : Nat} (hq : 4 ≤ q) (hr : 4 ≤ r) (ns : List Int) : ∀ (xs : List D) (x1 x2 x3 x4 x5 x6 x7 x8 x9 : Option D) (S : Sto), (∀ d ∈ xs, ∃ i : Int, d = .int i ∧ 0 ≤ i ∧ i < 2 ^ 30) →
    ∃ S' ρ', loopS (tName 1) (cellS q r) xs [some (.fls (ns.map .int)), x1, x2, x3, x4, x5, x6, x7, x8, x9] S = some (.nx ρ' S')
  | [], _, _, _, _, _, _, _, _, _, S, _ => ⟨S, _, rfl⟩
  | d :: xs, x1, x2, x3, x4, x5, x6, x7, x8, x9, S, h => by
    obtain ⟨k, rfl, hk⟩ := h d List.mem_cons_self
    obtain ⟨S1, y2, y3, y4, y5, y6, y7, y8, y9, e1⟩ := cell_ok hq hr ns k hk x2 x3 x4 x5 x6 x7 x8 x9 S
    obtain ⟨S2, ρ2, e2⟩ := cells hq hr ns xs (some (.int k)) y2 y3 y4 y5 y6 y7 y8 y9 S1 fun x hx => h x (List.mem_cons_of_mem _ hx)
    refine ⟨S2, ρ2, ?_⟩
    have st : ∀ y, loopS (tName 1) (cellS q r) (.int k :: y) [some (.fls (ns.map .int)), x1, x2, x3, x4, x5, x6, x7, x8, x9] S = (match cellS q r [some (.fls (ns.map .int)), some (.int k), x2, x3, x4, x5, x6, x7, x8, x9] S with
        | some (.nx ρ' S') => loopS (tName 1) (cellS q r) y ρ' S'
        | some (.ct ρ' S') => loopS (tName 1) (cellS q r) y ρ' S'
        | some (.bk ρ' S') => some (.nx ρ' S')
        | o => o) := fun y => rfl
    rw [st, e1]
    exact e2
end W10
namespace W10
open Sf L2 PySem PySem.Spec PyProof.Rows
/-! the words by hand -/
def one : Ex := .inn 0 0
def other : Ex := .inn 1 1
theorem one_ok : okE [1, 2] one := ⟨by decide, by decide, 1, rfl, by decide, by decide⟩
theorem other_ok : okE [1, 2] other := ⟨by decide, by decide, 2, rfl, by decide, by decide⟩
def fsW (f s : Int) : List (List Int) := [[f], [7, s]]
theorem fs_ok {f s : Int} (hf : Bits 64 f) (hs : Bits 64 s) : okF [1, 2] (fsW f s) := by
  refine ⟨rfl, fun i m h => ?_, fun g hg x hx => ?_⟩
  · match i, h with
    | 0, h => exact ⟨[f], rfl, Option.some.inj h⟩
    | 1, h => exact ⟨[7, s], rfl, Option.some.inj h⟩
    | i + 2, h => cases h
  · simp only [fsW, List.mem_cons, List.not_mem_nil, or_false] at hg
    rcases hg with rfl | rfl
    · simp only [List.mem_cons, List.not_mem_nil, or_false] at hx
      rw [hx]; exact hf
    · simp only [List.mem_cons, List.not_mem_nil, or_false] at hx
      rcases hx with rfl | rfl
      · unfold Bits; decide
      · exact hs
def wl : List Wd := [.plus, .less, .times, .same, .under]
def fw (q : Nat) : Dn Out := dFn 2 (den_value_of q) (aCons (dTup (aCons (dVar 10) (aCons (dVar 4) (aCons (dVar 5) aNil)))) (aCons (dVar 7) aNil))
theorem word_loop {q : Nat} (hq : 12 ≤ q) {f s : Int} (hf : Bits 64 f) (hs : Bits 64 s) (x0 x1 x2 x3 x6 x8 x9 : Option D) (S : Sto) : ∀ (ws : List Wd) (j : Nat), j + ws.length ≤ 1000 →
    loopC (tName 10) bYes (fw q) [x0, x1, x2, x3, some one.d, some other.d, x6, some (fD (fsW f s)), x8, x9, none] (ws.map fun w => .str w.t) j S = some (ws.map (fun w => .int (w.f f s)), S)
  | [], _, _ => rfl
  | w :: ws, j, hj => by
    rw [List.length_cons] at hj
    have v := e_val (fs_ok hf hs) (.two w one other) q S ⟨one_ok, other_ok⟩ (by simp only [Ex.deep, one, other]; omega) (by simp only [Ex.deep, one, other]; decide)
    have vv : val (fsW f s) (.two w one other) = w.f f s := rfl
    rw [vv] at v
    have dd : (Ex.two w one other).d = .tup [.str w.t, one.d, other.d] := rfl
    rw [dd] at v
    refine lc_take (S1 := S) (S2 := S) (ρ1 := [x0, x1, x2, x3, some one.d, some other.d, x6, some (fD (fsW f s)), x8, x9, some (.str w.t)]) rfl rfl ?_ (by omega) (word_loop hq hf hs x0 x1 x2 x3 x6 x8 x9 S ws (j + 1) (by omega))
    generalize one.d = O1 at *
    generalize other.d = O2 at *
    generalize fD (fsW f s) = F at *
    simp only [fw, x_bnd, x_bnS, x_c, x_var, x_varK, x_stl, x_stlV, x_stlL, x_stlE, x_stlD, x_bxd, x_bxV, x_bxK, x_okv, x_okm, x_d2, x_d2K, x_d2L, x_tst, x_tstK, x_ch, x_chK, x_chL, x_chMt, x_chMf, x_chN, x_and, x_andK, x_andT, x_andF, x_or, x_orK, x_orT, x_orF, x_not, x_notK, x_notL, x_tru, x_truK, x_truL, x_band, x_bandT, x_bandF, x_bor, x_borT, x_borF, x_bnot, x_bnotK, x_dif, x_difT, x_difF, x_anil, x_acons, x_aK, x_aL, x_tup, x_tupK, x_lst, x_lstK, x_cl, x_clK, x_fn, x_fnK, x_isi, x_isiK, x_isiL, x_neg, x_negK, x_revL, x_kget, x_kgetK, x_sl, x_slK, x_slL, x_pnone, x_psome, x_psK, x_mt, x_mtK, x_mtL, x_itA, x_itAK, x_itL, x_itSeq, x_seqK, x_itStr, x_istrK, x_comp, x_compK, x_compL, x_wipe1, x_wipe2, x_seq, x_sqN, x_sqR, x_sqB, x_sqC, x_next, x_ret, x_retK, x_retN, x_asg, x_asgB, x_asgK, x_drop, x_dropK, x_if, x_ifT, x_ifF, x_for, x_forK, x_tgt, x_tgtK, x_tgtL, x_tname, x_par, x_parK, x_dput, x_dputK, x_dputK1, x_dputK2, x_dputL, x_def, x_defR, x_defN, y_add, y_sub, y_mul, y_mulX, y_mod, y_fdiv, y_lt, y_le, y_gt, y_ge, y_eqI, y_eqS, y_neI, y_neS, y_eqYI, y_eqYS, y_neYI, y_neYS, y_ixT, y_ixL, y_trB, y_k0, y_k1, y_k2, y_k3, y_k4, y_k5, y_k6, y_lenL, y_lenS, startE, List.map_cons, List.map_nil, List.length_cons, List.length_nil, List.replicate, List.cons_append, List.nil_append, List.append_nil, Nat.sub_self, Nat.reduceSub, Nat.reduceAdd, Nat.reduceLeDiff, Nat.reduceEqDiff, Nat.zero_add, Nat.zero_le, Nat.sub_zero, List.set_cons_zero, List.set_cons_succ, List.getElem?_cons_zero, List.getElem?_cons_succ, Bool.not_true, Bool.not_false, decide_true, decide_false, Int.reduceEq, Int.reduceLT, Int.reduceLE, Int.reduceSub, Int.reduceAdd, eq_self, Option.map_some, v]
def whens : Bd := .whn one (.give [other, one]) (.whn other .refuse (.give [one, one]))
theorem whens_ok : okB [1, 2] 2 whens := by
  have h1 : ∀ e ∈ [other, one], okE [1, 2] e ∧ e.deep ≤ 3 := fun e he => by
    simp only [List.mem_cons, List.not_mem_nil, or_false] at he
    rcases he with rfl | rfl
    · exact ⟨other_ok, by decide⟩
    · exact ⟨one_ok, by decide⟩
  have h2 : ∀ e ∈ [one, one], okE [1, 2] e ∧ e.deep ≤ 3 := fun e he => by
    simp only [List.mem_cons, List.not_mem_nil, or_false] at he
    rcases he with rfl | rfl
    · exact ⟨one_ok, by decide⟩
    · exact ⟨one_ok, by decide⟩
  exact ⟨⟨one_ok, by decide⟩, ⟨rfl, h1⟩, ⟨other_ok, by decide⟩, trivial, ⟨rfl, h2⟩⟩
def givenW (f s : Int) : D := if f = 0 then (if s = 0 then .tup [.int f, .int f] else .non) else .tup [.int s, .int f]
theorem given_w (f s : Int) : gO (given (fsW f s) whens) = givenW f s := by
  have e1 : val (fsW f s) one = f := rfl
  have e2 : val (fsW f s) other = s := rfl
  unfold givenW
  simp only [whens, given, e1, e2, List.map_cons, List.map_nil]
  split
  · split <;> rfl
  · rfl
def turnW (q : Nat) : Sn := (sSeq (sAsg 7 (dTup (aCons (dTup (aCons (dVar 0) aNil)) (aCons (dTup (aCons (dC (.int 7)) (aCons (dVar 6) aNil))) aNil))))
 (sSeq (sAsgB 3 (dComp (itSeq (dTup (aCons (dC (.str "plus")) (aCons (dC (.str "less")) (aCons (dC (.str "times")) (aCons (dC (.str "same")) (aCons (dC (.str "under")) aNil))))))) (tName 10) bYes (fw q) [10]))
 (sSeq (sAsgB 8 (dLst (aCons (d2 addD (dVar 0) (dVar 6)) (aCons (d2 subD (dVar 0) (dVar 6)) (aCons (d2 mulX (dVar 0) (dVar 6)) (aCons (dCl intD (aCons (d2 eqX (dVar 0) (dVar 6)) aNil)) (aCons (dCl intD (aCons (d2 ltD (dVar 0) (dVar 6)) aNil)) aNil)))))))
 (sSeq (sDrop (dMt "list" appD (dVar 3) (aCons (dFn 2 (den_value_of q) (aCons (dTup (aCons (dC (.str "rest")) (aCons (dVar 5) (aCons (dC (.int 2)) aNil)))) (aCons (dVar 7) aNil))) aNil)))
 (sSeq (sDrop (dMt "list" appD (dVar 3) (aCons (dFn 2 (den_value_of q) (aCons (dTup (aCons (dC (.str "if")) (aCons (dVar 4) (aCons (dVar 5) (aCons (dTup (aCons (dC (.str "number")) (aCons (dC (.int 5)) aNil))) aNil))))) (aCons (dVar 7) aNil))) aNil)))
 (sSeq (sAsgB 8 (d2 addD (dVar 8) (dLst (aCons (d2 modD (dVar 6) (dC (.int 2))) (aCons (dIf (tst (d2 neX (dVar 0) (dC (.int 0)))) (dVar 6) (dC (.int 5))) aNil)))))
 (sSeq (sAsg 9 (dTup (aCons (dC (.str "when")) (aCons (dVar 4) (aCons (dTup (aCons (dC (.str "give")) (aCons (dTup (aCons (dVar 5) (aCons (dVar 4) aNil))) aNil))) (aCons (dTup (aCons (dC (.str "when")) (aCons (dVar 5) (aCons (dTup (aCons (dC (.str "refuse")) aNil)) (aCons (dTup (aCons (dC (.str "give")) (aCons (dTup (aCons (dVar 4) (aCons (dVar 4) aNil))) aNil))) aNil))))) aNil))))))
 (sSeq (sDrop (dMt "list" appD (dVar 3) (aCons (dFn 2 den_given_by (aCons (dVar 9) (aCons (dVar 7) aNil))) aNil)))
 (sSeq (sDrop (dMt "list" appD (dVar 8) (aCons (dIf (tst (d2 neX (dVar 0) (dC (.int 0)))) (dTup (aCons (dVar 6) (aCons (dVar 0) aNil))) (dIf (tst (d2 neX (dVar 6) (dC (.int 0)))) (dC .non) (dTup (aCons (dVar 0) (aCons (dVar 0) aNil))))) aNil)))
 (sIf (tst (d2 neX (dCl reprY (aCons (dVar 3) aNil)) (dCl reprY (aCons (dVar 8) aNil)))) (sRet (dC (.bl false))) sNext))))))))))
def five5 (f s : Int) : List D := [.int (f + s), .int (f - s), .int (f * s), .int (Wd.same.f f s), .int (Wd.under.f f s)]
theorem y_addBL {S : Sto} {n : Nat} {ds : List D} (h : S[n]? = some (.lst ds)) (l : List D) (hl : ds.length + l.length ≤ 1000) : addD S (.ref n) (.lst l) = some (.own (.lst (ds ++ l))) := by
  have e : addD S (.ref n) (.lst l) = match viewC S (.ref n), viewC S (.lst l) with
    | some as, some bs => if as.length + bs.length ≤ sizeLine then some (.own (.lst (as ++ bs))) else none
    | _, _ => none := rfl
  have v : viewC S (.ref n) = some ds := by simp only [viewC, h]
  rw [e, v]
  exact if_pos (Nat.le_trans hl (by decide))
theorem bx (ob : Ob) (S : Sto) : bxK (.own ob) S = some (.ok (.ref S.length) (S ++ [ob])) := rfl
theorem fit_given {f s : Int} (hf : Bits 10 f) (hs : Bits 10 s) : Fit 30 1 (givenW f s) := by
  have a := fit_bits hf (by decide)
  have b := fit_bits hs (by decide)
  unfold givenW
  split
  · split
    · exact (FitL.cons a (FitL.cons a (FitL.nil (w := 0)))).tup.mono (by decide) (Nat.le_refl _)
    · exact ⟨rfl, Nat.zero_le _, Nat.zero_le _⟩
  · exact (FitL.cons b (FitL.cons a (FitL.nil (w := 0)))).tup.mono (by decide) (Nat.le_refl _)
theorem fit_all8 {f s : Int} (hf : Bits 10 f) (hs : Bits 10 s) : Fit 1000 2 (.lst (five5 f s ++ [.int (s.fmod 2), .int (if f = 0 then 5 else s)] ++ [givenW f s])) := by
  have i : ∀ {x : Int} {k : Nat}, Bits k x → k ≤ 40 → Fit 40 1 (.int x) := fun h hk => (fit_bits (h.mono hk) (by decide)).mono (Nat.le_refl _) (by decide)
  have q1 := Int.fmod_nonneg_of_pos s (show (0 : Int) < 2 by decide)
  have q2 := Int.fmod_lt_of_pos s (show (0 : Int) < 2 by decide)
  have h6 : Bits 10 (s.fmod 2) := by unfold Bits; omega
  have h7 : Bits 10 (if f = 0 then 5 else s) := by
    split
    · unfold Bits; decide
    · exact hs
  have g := (fit_given hf hs).mono (show 30 ≤ 40 by decide) (Nat.le_refl 1)
  show Fit 1000 2 (.lst [.int (f + s), .int (f - s), .int (f * s), .int (Wd.same.f f s), .int (Wd.under.f f s), .int (s.fmod 2), .int (if f = 0 then 5 else s), givenW f s])
  exact (FitL.cons (i (hf.add hs) (by decide)) (FitL.cons (i (hf.sub hs) (by decide)) (FitL.cons (i (hf.mul hs) (by decide)) (FitL.cons (i (bits01 _) (by decide)) (FitL.cons (i (bits01 _) (by decide)) (FitL.cons (i h6 (by decide)) (FitL.cons (i h7 (by decide)) (FitL.cons g (FitL.nil (w := 0))))))))) ).lst.mono (by decide) (Nat.le_refl _)
theorem boxes (S : Sto) (T0 D0 : List D) (a b g : D) (h1 : T0.length ≤ 100) (h2 : D0.length ≤ 100) : ∃ (p q r : Nat) (S1 S2 S3 S4 S5 S6 S7 : Sto),
    (bxK (.own (.lst T0)) S = some (.ok (.ref p) S1) ∧ bxK (.own (.lst D0)) S1 = some (.ok (.ref q) S2)) ∧
    (tyB "list" S2 (.ref p) = true ∧ appD S2 (.ref p) [a] = some (.val .non, S3)) ∧ (tyB "list" S3 (.ref p) = true ∧ appD S3 (.ref p) [b] = some (.val .non, S4)) ∧
    (addD S4 (.ref q) (.lst [a, b]) = some (.own (.lst (D0 ++ [a, b]))) ∧ bxK (.own (.lst (D0 ++ [a, b]))) S4 = some (.ok (.ref r) S5)) ∧
    (tyB "list" S5 (.ref p) = true ∧ appD S5 (.ref p) [g] = some (.val .non, S6)) ∧ (tyB "list" S6 (.ref r) = true ∧ appD S6 (.ref r) [g] = some (.val .non, S7)) ∧
    S7[p]? = some (.lst (T0 ++ [a, b] ++ [g])) ∧ S7[r]? = some (.lst (D0 ++ [a, b] ++ [g])) := by
  have k1 : (S ++ [Ob.lst T0])[S.length]? = some (.lst T0) := push_at S _
  have l1 : (S ++ [Ob.lst T0]).length = S.length + 1 := by rw [List.length_append, List.length_singleton]
  generalize hS1 : S ++ [Ob.lst T0] = S1 at k1 l1
  have k2 : (S1 ++ [Ob.lst D0])[S.length]? = some (.lst T0) := by rw [List.getElem?_append_left (by omega)]; exact k1
  have j2 : (S1 ++ [Ob.lst D0])[S1.length]? = some (.lst D0) := push_at S1 _
  have l2 : (S1 ++ [Ob.lst D0]).length = S1.length + 1 := by rw [List.length_append, List.length_singleton]
  generalize hS2 : S1 ++ [Ob.lst D0] = S2 at k2 j2 l2
  have a3 := app_box k2 a (by omega)
  have k3 : (S2.set S.length (.lst (T0 ++ [a])))[S.length]? = some (.lst (T0 ++ [a])) := List.getElem?_set_self (by omega)
  have j3 : (S2.set S.length (.lst (T0 ++ [a])))[S1.length]? = some (.lst D0) := by rw [List.getElem?_set_ne (by omega)]; exact j2
  have l3 : (S2.set S.length (.lst (T0 ++ [a]))).length = S2.length := List.length_set
  generalize hS3 : S2.set S.length (.lst (T0 ++ [a])) = S3 at a3 k3 j3 l3
  have a4 := app_box k3 b (by rw [List.length_append, List.length_singleton]; omega)
  have k4 : (S3.set S.length (.lst (T0 ++ [a] ++ [b])))[S.length]? = some (.lst (T0 ++ [a] ++ [b])) := List.getElem?_set_self (by omega)
  have j4 : (S3.set S.length (.lst (T0 ++ [a] ++ [b])))[S1.length]? = some (.lst D0) := by rw [List.getElem?_set_ne (by omega)]; exact j3
  have l4 : (S3.set S.length (.lst (T0 ++ [a] ++ [b]))).length = S3.length := List.length_set
  generalize hS4 : S3.set S.length (.lst (T0 ++ [a] ++ [b])) = S4 at a4 k4 j4 l4
  have ad := y_addBL j4 [a, b] (by simp; omega)
  have k5 : (S4 ++ [Ob.lst (D0 ++ [a, b])])[S.length]? = some (.lst (T0 ++ [a] ++ [b])) := by rw [List.getElem?_append_left (by omega)]; exact k4
  have r5 : (S4 ++ [Ob.lst (D0 ++ [a, b])])[S4.length]? = some (.lst (D0 ++ [a, b])) := push_at S4 _
  have l5 : (S4 ++ [Ob.lst (D0 ++ [a, b])]).length = S4.length + 1 := by rw [List.length_append, List.length_singleton]
  have b5 := bx (.lst (D0 ++ [a, b])) S4
  generalize S4 ++ [Ob.lst (D0 ++ [a, b])] = S5 at k5 r5 l5 b5
  have a6 := app_box k5 g (by rw [List.length_append, List.length_append, List.length_singleton, List.length_singleton]; omega)
  have k6 : (S5.set S.length (.lst (T0 ++ [a] ++ [b] ++ [g])))[S.length]? = some (.lst (T0 ++ [a] ++ [b] ++ [g])) := List.getElem?_set_self (by omega)
  have r6 : (S5.set S.length (.lst (T0 ++ [a] ++ [b] ++ [g])))[S4.length]? = some (.lst (D0 ++ [a, b])) := by rw [List.getElem?_set_ne (by omega)]; exact r5
  have l6 : (S5.set S.length (.lst (T0 ++ [a] ++ [b] ++ [g]))).length = S5.length := List.length_set
  generalize S5.set S.length (.lst (T0 ++ [a] ++ [b] ++ [g])) = S6 at a6 k6 r6 l6
  have a7 := app_box r6 g (by rw [List.length_append]; simp; omega)
  have k7 : (S6.set S4.length (.lst (D0 ++ [a, b] ++ [g])))[S.length]? = some (.lst (T0 ++ [a] ++ [b] ++ [g])) := by rw [List.getElem?_set_ne (by omega)]; exact k6
  have r7 : (S6.set S4.length (.lst (D0 ++ [a, b] ++ [g])))[S4.length]? = some (.lst (D0 ++ [a, b] ++ [g])) := List.getElem?_set_self (by omega)
  have e7 : T0 ++ [a] ++ [b] ++ [g] = T0 ++ [a, b] ++ [g] := by simp
  rw [e7] at k7
  have bk1 := bx (.lst T0) S
  have bk2 := bx (.lst D0) S1
  rw [hS1] at bk1
  rw [hS2] at bk2
  exact ⟨S.length, S1.length, S4.length, S1, S2, S3, S4, S5, S6, _, ⟨bk1, bk2⟩, ⟨ty_box k2, a3⟩, ⟨ty_box k3, a4⟩, ⟨ad, b5⟩, ⟨ty_box k5, a6⟩, ⟨ty_box r6, a7⟩, k7, r7⟩
theorem turn_ok {q : Nat} (hq : 12 ≤ q) {f s : Int} (hf : Bits 10 f) (hs : Bits 10 s) (x1 x2 x3 x7 x8 x9 x10 : Option D) (S : Sto) :
    ∃ S' y3 y7 y8 y9, turnW q [some (.int f), x1, x2, x3, some one.d, some other.d, some (.int s), x7, x8, x9, x10] S = some (.nx [some (.int f), x1, x2, y3, some one.d, some other.d, some (.int s), y7, y8, y9, x10] S') := by
  have hf6 := hf.mono (show 10 ≤ 64 by decide)
  have hs6 := hs.mono (show 10 ≤ 64 by decide)
  have ok := fs_ok hf6 hs6
  have fe : D.tup [.tup [.int f], .tup [.int 7, .int s]] = fD (fsW f s) := rfl
  have wlp := word_loop hq hf6 hs6 (some (.int f)) x1 x2 x3 (some (.int s)) x8 x9 S wl 0 (by decide)
  have wt1 : wl.map (fun w => D.str w.t) = [.str "plus", .str "less", .str "times", .str "same", .str "under"] := rfl
  have wt2 : wl.map (fun w => D.int (w.f f s)) = five5 f s := rfl
  rw [wt1, wt2] at wlp
  clear wt1 wt2
  have mo : mulOk f s = true := mo_l (by have : f.natAbs < 2 ^ 10 := hf; omega) (by have : f.natAbs < 2 ^ 10 := hf; omega)
  have f5 : D.lst [.int (f + s), .int (f - s), .int (f * s), .int (if decide (f = s) = true then 1 else 0), .int (if decide (f < s) = true then 1 else 0)] = .lst (five5 f s) := rfl
  obtain ⟨B, hB⟩ : ∃ B : Int, (if f = 0 then 5 else s) = B := ⟨_, rfl⟩
  obtain ⟨G, hG⟩ : ∃ G : D, givenW f s = G := ⟨_, rfl⟩
  obtain ⟨p, qq, r, S1, S2, S3, S4, S5, S6, S7, ⟨b1, b2⟩, ⟨t1, a1⟩, ⟨t2, a2⟩, ⟨ad, b3⟩, ⟨t3, a3⟩, ⟨t4, a4⟩, k1, k2⟩ := boxes S (five5 f s) (five5 f s) (.int (s.fmod 2)) (.int B) G (Nat.le_of_ble_eq_true rfl) (Nat.le_of_ble_eq_true rfl)
  have v1 := e_val ok (.rest other 2) q S2 ⟨other_ok, by decide, by decide⟩ (by simp only [Ex.deep, other]; omega) (by decide)
  have v2 := e_val ok (.iff one other (.num 5)) q S3 ⟨one_ok, other_ok, by decide, by decide⟩ (by simp only [Ex.deep, one, other]; omega) (by decide)
  have v3 := e_given ok whens S5 whens_ok (by decide) (by decide)
  rw [given_w, hG] at v3
  have w1 : val (fsW f s) (.rest other 2) = s.fmod 2 := rfl
  have w2 : val (fsW f s) (.iff one other (.num 5)) = if f = 0 then 5 else s := rfl
  rw [w1] at v1
  rw [w2, hB] at v2
  have d1 : (Ex.rest other 2).d = .tup [.str "rest", other.d, .int 2] := rfl
  have d2' : (Ex.iff one other (.num 5)).d = .tup [.str "if", one.d, other.d, .tup [.str "number", .int 5]] := rfl
  have d3 : whens.d = .tup [.str "when", one.d, .tup [.str "give", .tup [other.d, one.d]], .tup [.str "when", other.d, .tup [.str "refuse"], .tup [.str "give", .tup [one.d, one.d]]]] := rfl
  rw [d1] at v1
  rw [d2'] at v2
  rw [d3] at v3
  have fit := fit_all8 hf hs
  have m2 : (2 : Int) ≠ 0 := by decide
  rw [hB, hG] at fit
  have r1 := y_reprB k1 fit (by decide) (by decide)
  have r2 := y_reprB k2 fit (by decide) (by decide)
  generalize (D.lst (five5 f s ++ [.int (s.fmod 2), .int B] ++ [G])).py.shown = text at r1 r2
  refine ⟨S7, some (.ref p), some (fD (fsW f s)), some (.ref r), some (.tup [.str "when", one.d, .tup [.str "give", .tup [other.d, one.d]], .tup [.str "when", other.d, .tup [.str "refuse"], .tup [.str "give", .tup [one.d, one.d]]]]), ?_⟩
  have f5' : Ob.lst [.int (f + s), .int (f - s), .int (f * s), .int (if decide (f = s) = true then 1 else 0), .int (if decide (f < s) = true then 1 else 0)] = .lst (five5 f s) := rfl
  clear fit k1 k2 w1 w2 d1 d2' d3 ok hf6 hs6 f5 fe
  have fe : D.tup [.tup [.int f], .tup [.int 7, .int s]] = fD (fsW f s) := rfl
  generalize five5 f s = L5 at *
  generalize fD (fsW f s) = F at *
  generalize one.d = O1 at *
  generalize other.d = O2 at *
  by_cases h0 : f = 0
  · rw [if_pos h0] at hB
    subst hB
    by_cases s0 : s = 0
    · have hG' : G = .tup [.int f, .int f] := by rw [← hG, givenW, if_pos h0, if_pos s0]
      subst hG'
      simp only [turnW, x_bnd, x_bnS, x_c, x_var, x_varK, x_stl, x_stlV, x_stlL, x_stlE, x_stlD, x_bxd, x_bxV, x_bxK, x_okv, x_okm, x_d2, x_d2K, x_d2L, x_tst, x_tstK, x_ch, x_chK, x_chL, x_chMt, x_chMf, x_chN, x_and, x_andK, x_andT, x_andF, x_or, x_orK, x_orT, x_orF, x_not, x_notK, x_notL, x_tru, x_truK, x_truL, x_band, x_bandT, x_bandF, x_bor, x_borT, x_borF, x_bnot, x_bnotK, x_dif, x_difT, x_difF, x_anil, x_acons, x_aK, x_aL, x_tup, x_tupK, x_lst, x_lstK, x_cl, x_clK, x_fn, x_fnK, x_isi, x_isiK, x_isiL, x_neg, x_negK, x_revL, x_kget, x_kgetK, x_sl, x_slK, x_slL, x_pnone, x_psome, x_psK, x_mt, x_mtK, x_mtL, x_itA, x_itAK, x_itL, x_itSeq, x_seqK, x_itStr, x_istrK, x_comp, x_compK, x_compL, x_wipe1, x_wipe2, x_seq, x_sqN, x_sqR, x_sqB, x_sqC, x_next, x_ret, x_retK, x_retN, x_asg, x_asgB, x_asgK, x_drop, x_dropK, x_if, x_ifT, x_ifF, x_for, x_forK, x_tgt, x_tgtK, x_tgtL, x_tname, x_par, x_parK, x_dput, x_dputK, x_dputK1, x_dputK2, x_dputL, x_def, x_defR, x_defN, y_add, y_sub, y_mul, y_mulX, y_mod, y_fdiv, y_lt, y_le, y_gt, y_ge, y_eqI, y_eqS, y_neI, y_neS, y_eqYI, y_eqYS, y_neYI, y_neYS, y_ixT, y_ixL, y_trB, y_k0, y_k1, y_k2, y_k3, y_k4, y_k5, y_k6, y_lenL, y_lenS, startE, List.map_cons, List.map_nil, List.length_cons, List.length_nil, List.replicate, List.cons_append, List.nil_append, List.append_nil, Nat.sub_self, Nat.reduceSub, Nat.reduceAdd, Nat.reduceLeDiff, Nat.reduceEqDiff, Nat.zero_add, Nat.zero_le, Nat.sub_zero, List.set_cons_zero, List.set_cons_succ, List.getElem?_cons_zero, List.getElem?_cons_succ, Bool.not_true, Bool.not_false, decide_true, decide_false, Int.reduceEq, Int.reduceLT, Int.reduceLE, Int.reduceSub, Int.reduceAdd, eq_self, Option.map_some, fe, fixed, x_asgB, x_bxd, wlp, b1, mo, y_intB, f5', b2, t1, x_drop, x_dropK, v1, a1, v2, t2, a2, m2, ne_eq, not_false_eq_true, decide_eq_true h0, decide_eq_true s0, ad, b3, v3, t3, a3, t4, a4, r1, r2]
    · have hG' : G = .non := by rw [← hG, givenW, if_pos h0, if_neg s0]
      subst hG'
      simp only [turnW, x_bnd, x_bnS, x_c, x_var, x_varK, x_stl, x_stlV, x_stlL, x_stlE, x_stlD, x_bxd, x_bxV, x_bxK, x_okv, x_okm, x_d2, x_d2K, x_d2L, x_tst, x_tstK, x_ch, x_chK, x_chL, x_chMt, x_chMf, x_chN, x_and, x_andK, x_andT, x_andF, x_or, x_orK, x_orT, x_orF, x_not, x_notK, x_notL, x_tru, x_truK, x_truL, x_band, x_bandT, x_bandF, x_bor, x_borT, x_borF, x_bnot, x_bnotK, x_dif, x_difT, x_difF, x_anil, x_acons, x_aK, x_aL, x_tup, x_tupK, x_lst, x_lstK, x_cl, x_clK, x_fn, x_fnK, x_isi, x_isiK, x_isiL, x_neg, x_negK, x_revL, x_kget, x_kgetK, x_sl, x_slK, x_slL, x_pnone, x_psome, x_psK, x_mt, x_mtK, x_mtL, x_itA, x_itAK, x_itL, x_itSeq, x_seqK, x_itStr, x_istrK, x_comp, x_compK, x_compL, x_wipe1, x_wipe2, x_seq, x_sqN, x_sqR, x_sqB, x_sqC, x_next, x_ret, x_retK, x_retN, x_asg, x_asgB, x_asgK, x_drop, x_dropK, x_if, x_ifT, x_ifF, x_for, x_forK, x_tgt, x_tgtK, x_tgtL, x_tname, x_par, x_parK, x_dput, x_dputK, x_dputK1, x_dputK2, x_dputL, x_def, x_defR, x_defN, y_add, y_sub, y_mul, y_mulX, y_mod, y_fdiv, y_lt, y_le, y_gt, y_ge, y_eqI, y_eqS, y_neI, y_neS, y_eqYI, y_eqYS, y_neYI, y_neYS, y_ixT, y_ixL, y_trB, y_k0, y_k1, y_k2, y_k3, y_k4, y_k5, y_k6, y_lenL, y_lenS, startE, List.map_cons, List.map_nil, List.length_cons, List.length_nil, List.replicate, List.cons_append, List.nil_append, List.append_nil, Nat.sub_self, Nat.reduceSub, Nat.reduceAdd, Nat.reduceLeDiff, Nat.reduceEqDiff, Nat.zero_add, Nat.zero_le, Nat.sub_zero, List.set_cons_zero, List.set_cons_succ, List.getElem?_cons_zero, List.getElem?_cons_succ, Bool.not_true, Bool.not_false, decide_true, decide_false, Int.reduceEq, Int.reduceLT, Int.reduceLE, Int.reduceSub, Int.reduceAdd, eq_self, Option.map_some, fe, fixed, x_asgB, x_bxd, wlp, b1, mo, y_intB, f5', b2, t1, x_drop, x_dropK, v1, a1, v2, t2, a2, m2, ne_eq, not_false_eq_true, decide_eq_true h0, decide_eq_false s0, ad, b3, v3, t3, a3, t4, a4, r1, r2]
  · rw [if_neg h0] at hB
    subst hB
    have hG' : G = .tup [.int s, .int f] := by rw [← hG, givenW, if_neg h0]
    subst hG'
    simp only [turnW, x_bnd, x_bnS, x_c, x_var, x_varK, x_stl, x_stlV, x_stlL, x_stlE, x_stlD, x_bxd, x_bxV, x_bxK, x_okv, x_okm, x_d2, x_d2K, x_d2L, x_tst, x_tstK, x_ch, x_chK, x_chL, x_chMt, x_chMf, x_chN, x_and, x_andK, x_andT, x_andF, x_or, x_orK, x_orT, x_orF, x_not, x_notK, x_notL, x_tru, x_truK, x_truL, x_band, x_bandT, x_bandF, x_bor, x_borT, x_borF, x_bnot, x_bnotK, x_dif, x_difT, x_difF, x_anil, x_acons, x_aK, x_aL, x_tup, x_tupK, x_lst, x_lstK, x_cl, x_clK, x_fn, x_fnK, x_isi, x_isiK, x_isiL, x_neg, x_negK, x_revL, x_kget, x_kgetK, x_sl, x_slK, x_slL, x_pnone, x_psome, x_psK, x_mt, x_mtK, x_mtL, x_itA, x_itAK, x_itL, x_itSeq, x_seqK, x_itStr, x_istrK, x_comp, x_compK, x_compL, x_wipe1, x_wipe2, x_seq, x_sqN, x_sqR, x_sqB, x_sqC, x_next, x_ret, x_retK, x_retN, x_asg, x_asgB, x_asgK, x_drop, x_dropK, x_if, x_ifT, x_ifF, x_for, x_forK, x_tgt, x_tgtK, x_tgtL, x_tname, x_par, x_parK, x_dput, x_dputK, x_dputK1, x_dputK2, x_dputL, x_def, x_defR, x_defN, y_add, y_sub, y_mul, y_mulX, y_mod, y_fdiv, y_lt, y_le, y_gt, y_ge, y_eqI, y_eqS, y_neI, y_neS, y_eqYI, y_eqYS, y_neYI, y_neYS, y_ixT, y_ixL, y_trB, y_k0, y_k1, y_k2, y_k3, y_k4, y_k5, y_k6, y_lenL, y_lenS, startE, List.map_cons, List.map_nil, List.length_cons, List.length_nil, List.replicate, List.cons_append, List.nil_append, List.append_nil, Nat.sub_self, Nat.reduceSub, Nat.reduceAdd, Nat.reduceLeDiff, Nat.reduceEqDiff, Nat.zero_add, Nat.zero_le, Nat.sub_zero, List.set_cons_zero, List.set_cons_succ, List.getElem?_cons_zero, List.getElem?_cons_succ, Bool.not_true, Bool.not_false, decide_true, decide_false, Int.reduceEq, Int.reduceLT, Int.reduceLE, Int.reduceSub, Int.reduceAdd, eq_self, Option.map_some, fe, fixed, x_asgB, x_bxd, wlp, b1, mo, y_intB, f5', b2, t1, x_drop, x_dropK, v1, a1, v2, t2, a2, m2, ne_eq, not_false_eq_true, decide_eq_false h0, ad, b3, v3, t3, a3, t4, a4, r1, r2]
end W10
namespace W10
open Sf L2 PySem PySem.Spec PyProof.Rows
theorem in_loop {q : Nat} (hq : 12 ≤ q) {f : Int} (hf : Bits 10 f) (x1 x2 : Option D) : ∀ (ss : List Int) (x3 x6 x7 x8 x9 x10 : Option D) (S : Sto), (∀ s ∈ ss, Bits 10 s) →
    ∃ S' y3 y6 y7 y8 y9, loopS (tName 6) (turnW q) (ss.map .int) [some (.int f), x1, x2, x3, some one.d, some other.d, x6, x7, x8, x9, x10] S = some (.nx [some (.int f), x1, x2, y3, some one.d, some other.d, y6, y7, y8, y9, x10] S')
  | [], x3, x6, x7, x8, x9, x10, S, _ => ⟨S, _, _, _, _, _, rfl⟩
  | s :: ss, x3, x6, x7, x8, x9, x10, S, h => by
    obtain ⟨S1, y3, y7, y8, y9, e1⟩ := turn_ok hq hf (h s List.mem_cons_self) x1 x2 x3 x7 x8 x9 x10 S
    obtain ⟨S2, z3, z6, z7, z8, z9, e2⟩ := in_loop hq hf x1 x2 ss y3 (some (.int s)) y7 y8 y9 x10 S1 fun x hx => h x (List.mem_cons_of_mem _ hx)
    refine ⟨S2, z3, z6, z7, z8, z9, ?_⟩
    have st : ∀ y, loopS (tName 6) (turnW q) (.int s :: y) [some (.int f), x1, x2, x3, some one.d, some other.d, x6, x7, x8, x9, x10] S = (match turnW q [some (.int f), x1, x2, x3, some one.d, some other.d, some (.int s), x7, x8, x9, x10] S with
        | some (.nx ρ' S') => loopS (tName 6) (turnW q) y ρ' S'
        | some (.ct ρ' S') => loopS (tName 6) (turnW q) y ρ' S'
        | some (.bk ρ' S') => some (.nx ρ' S')
        | o => o) := fun y => rfl
    rw [List.map_cons, st, e1]
    exact e2
def inS (q : Nat) : Sn := sFor (itSeq (dTup (aCons (dNeg (dC (.int 2))) (aCons (dC (.int 0)) (aCons (dC (.int 1)) (aCons (dC (.int 2)) (aCons (dC (.int 98)) (aCons (dC (.int 100)) aNil)))))))) (tName 6) (turnW q)
def secL : List Int := [-2, 0, 1, 2, 98, 100]
theorem in_ok {q : Nat} (hq : 12 ≤ q) {f : Int} (hf : Bits 10 f) (x1 x2 x3 x6 x7 x8 x9 x10 : Option D) (S : Sto) :
    ∃ S' y3 y6 y7 y8 y9, inS q [some (.int f), x1, x2, x3, some one.d, some other.d, x6, x7, x8, x9, x10] S = some (.nx [some (.int f), x1, x2, y3, some one.d, some other.d, y6, y7, y8, y9, x10] S') := by
  obtain ⟨S1, y3, y6, y7, y8, y9, e1⟩ := in_loop hq hf x1 x2 secL x3 x6 x7 x8 x9 x10 S (fun s hs => by
    have : secL.all (fun s => decide (s.natAbs < 2 ^ 10)) = true := by decide
    exact (of_decide_eq_true (List.all_eq_true.mp this s hs) : s.natAbs < 2 ^ 10))
  refine ⟨S1, y3, y6, y7, y8, y9, ?_⟩
  have e : secL.map D.int = [.int (-2), .int 0, .int 1, .int 2, .int 98, .int 100] := rfl
  rw [e] at e1
  generalize one.d = O1 at *
  generalize other.d = O2 at *
  simp only [inS, x_bnd, x_bnS, x_c, x_var, x_varK, x_stl, x_stlV, x_stlL, x_stlE, x_stlD, x_bxd, x_bxV, x_bxK, x_okv, x_okm, x_d2, x_d2K, x_d2L, x_tst, x_tstK, x_ch, x_chK, x_chL, x_chMt, x_chMf, x_chN, x_and, x_andK, x_andT, x_andF, x_or, x_orK, x_orT, x_orF, x_not, x_notK, x_notL, x_tru, x_truK, x_truL, x_band, x_bandT, x_bandF, x_bor, x_borT, x_borF, x_bnot, x_bnotK, x_dif, x_difT, x_difF, x_anil, x_acons, x_aK, x_aL, x_tup, x_tupK, x_lst, x_lstK, x_cl, x_clK, x_fn, x_fnK, x_isi, x_isiK, x_isiL, x_neg, x_negK, x_revL, x_kget, x_kgetK, x_sl, x_slK, x_slL, x_pnone, x_psome, x_psK, x_mt, x_mtK, x_mtL, x_itA, x_itAK, x_itL, x_itSeq, x_seqK, x_itStr, x_istrK, x_comp, x_compK, x_compL, x_wipe1, x_wipe2, x_seq, x_sqN, x_sqR, x_sqB, x_sqC, x_next, x_ret, x_retK, x_retN, x_asg, x_asgB, x_asgK, x_drop, x_dropK, x_if, x_ifT, x_ifF, x_for, x_forK, x_tgt, x_tgtK, x_tgtL, x_tname, x_par, x_parK, x_dput, x_dputK, x_dputK1, x_dputK2, x_dputL, x_def, x_defR, x_defN, y_add, y_sub, y_mul, y_mulX, y_mod, y_fdiv, y_lt, y_le, y_gt, y_ge, y_eqI, y_eqS, y_neI, y_neS, y_eqYI, y_eqYS, y_neYI, y_neYS, y_ixT, y_ixL, y_trB, y_k0, y_k1, y_k2, y_k3, y_k4, y_k5, y_k6, y_lenL, y_lenS, startE, List.map_cons, List.map_nil, List.length_cons, List.length_nil, List.replicate, List.cons_append, List.nil_append, List.append_nil, Nat.sub_self, Nat.reduceSub, Nat.reduceAdd, Nat.reduceLeDiff, Nat.reduceEqDiff, Nat.zero_add, Nat.zero_le, Nat.sub_zero, List.set_cons_zero, List.set_cons_succ, List.getElem?_cons_zero, List.getElem?_cons_succ, Bool.not_true, Bool.not_false, decide_true, decide_false, Int.reduceEq, Int.reduceLT, Int.reduceLE, Int.reduceSub, Int.reduceAdd, eq_self, Option.map_some, x_neg, x_negK, fixed, e1]
def firL : List Int := [-3, -1, 0, 1, 2, 99]
theorem out_loop {q : Nat} (hq : 12 ≤ q) (x1 x2 : Option D) : ∀ (fs : List Int) (x0 x3 x6 x7 x8 x9 x10 : Option D) (S : Sto), (∀ s ∈ fs, Bits 10 s) →
    ∃ S' y0 y3 y6 y7 y8 y9, loopS (tName 0) (inS q) (fs.map .int) [x0, x1, x2, x3, some one.d, some other.d, x6, x7, x8, x9, x10] S = some (.nx [y0, x1, x2, y3, some one.d, some other.d, y6, y7, y8, y9, x10] S')
  | [], x0, x3, x6, x7, x8, x9, x10, S, _ => ⟨S, _, _, _, _, _, _, rfl⟩
  | f :: fs, x0, x3, x6, x7, x8, x9, x10, S, h => by
    obtain ⟨S1, y3, y6, y7, y8, y9, e1⟩ := in_ok hq (h f List.mem_cons_self) x1 x2 x3 x6 x7 x8 x9 x10 S
    obtain ⟨S2, z0, z3, z6, z7, z8, z9, e2⟩ := out_loop hq x1 x2 fs (some (.int f)) y3 y6 y7 y8 y9 x10 S1 fun x hx => h x (List.mem_cons_of_mem _ hx)
    refine ⟨S2, z0, z3, z6, z7, z8, z9, ?_⟩
    have st : ∀ y, loopS (tName 0) (inS q) (.int f :: y) [x0, x1, x2, x3, some one.d, some other.d, x6, x7, x8, x9, x10] S = (match inS q [some (.int f), x1, x2, x3, some one.d, some other.d, x6, x7, x8, x9, x10] S with
        | some (.nx ρ' S') => loopS (tName 0) (inS q) y ρ' S'
        | some (.ct ρ' S') => loopS (tName 0) (inS q) y ρ' S'
        | some (.bk ρ' S') => some (.nx ρ' S')
        | o => o) := fun y => rfl
    rw [List.map_cons, st, e1]
    exact e2
/-! great numbers -/
def g1 : Ex := .two .times (.num 99) (.num 99)
def g2 : Ex := .two .times g1 g1
def g3 : Ex := .two .times g2 g2
def g4 : Ex := .two .times g3 g3
theorem n99 : okE [] (.num 99) := ⟨by decide, by decide⟩
theorem n0 : okE [] (.num 0) := ⟨by decide, by decide⟩
theorem g4_ok : okE [] g4 := ⟨⟨⟨⟨n99, n99⟩, ⟨n99, n99⟩⟩, ⟨⟨n99, n99⟩, ⟨n99, n99⟩⟩⟩, ⟨⟨⟨n99, n99⟩, ⟨n99, n99⟩⟩, ⟨⟨n99, n99⟩, ⟨n99, n99⟩⟩⟩⟩
theorem okF0 : okF [] [] := ⟨rfl, (fun i m h => by cases h), (fun _ h => absurd h (by simp))⟩
def lessS : Ex := .two .less (.num 0) g4
def r98 : Ex := .rest g4 98
def r97 : Ex := .rest lessS 97
def greS : Sn := sAsg 1 (dTup (aCons (dC (.str "times")) (aCons (dVar 1) (aCons (dVar 1) aNil))))
theorem gre (x0 x2 x3 x4 x5 x6 x7 x8 x9 x10 : Option D) (G : D) (S : Sto) : greS [x0, some G, x2, x3, x4, x5, x6, x7, x8, x9, x10] S = some (.nx [x0, some (.tup [.str "times", G, G]), x2, x3, x4, x5, x6, x7, x8, x9, x10] S) := by
  simp only [greS, x_bnd, x_bnS, x_c, x_var, x_varK, x_stl, x_stlV, x_stlL, x_stlE, x_stlD, x_bxd, x_bxV, x_bxK, x_okv, x_okm, x_d2, x_d2K, x_d2L, x_tst, x_tstK, x_ch, x_chK, x_chL, x_chMt, x_chMf, x_chN, x_and, x_andK, x_andT, x_andF, x_or, x_orK, x_orT, x_orF, x_not, x_notK, x_notL, x_tru, x_truK, x_truL, x_band, x_bandT, x_bandF, x_bor, x_borT, x_borF, x_bnot, x_bnotK, x_dif, x_difT, x_difF, x_anil, x_acons, x_aK, x_aL, x_tup, x_tupK, x_lst, x_lstK, x_cl, x_clK, x_fn, x_fnK, x_isi, x_isiK, x_isiL, x_neg, x_negK, x_revL, x_kget, x_kgetK, x_sl, x_slK, x_slL, x_pnone, x_psome, x_psK, x_mt, x_mtK, x_mtL, x_itA, x_itAK, x_itL, x_itSeq, x_seqK, x_itStr, x_istrK, x_comp, x_compK, x_compL, x_wipe1, x_wipe2, x_seq, x_sqN, x_sqR, x_sqB, x_sqC, x_next, x_ret, x_retK, x_retN, x_asg, x_asgB, x_asgK, x_drop, x_dropK, x_if, x_ifT, x_ifF, x_for, x_forK, x_tgt, x_tgtK, x_tgtL, x_tname, x_par, x_parK, x_dput, x_dputK, x_dputK1, x_dputK2, x_dputL, x_def, x_defR, x_defN, y_add, y_sub, y_mul, y_mulX, y_mod, y_fdiv, y_lt, y_le, y_gt, y_ge, y_eqI, y_eqS, y_neI, y_neS, y_eqYI, y_eqYS, y_neYI, y_neYS, y_ixT, y_ixL, y_trB, y_k0, y_k1, y_k2, y_k3, y_k4, y_k5, y_k6, y_lenL, y_lenS, startE, List.map_cons, List.map_nil, List.length_cons, List.length_nil, List.replicate, List.cons_append, List.nil_append, List.append_nil, Nat.sub_self, Nat.reduceSub, Nat.reduceAdd, Nat.reduceLeDiff, Nat.reduceEqDiff, Nat.zero_add, Nat.zero_le, Nat.sub_zero, List.set_cons_zero, List.set_cons_succ, List.getElem?_cons_zero, List.getElem?_cons_succ, Bool.not_true, Bool.not_false, decide_true, decide_false, Int.reduceEq, Int.reduceLT, Int.reduceLE, Int.reduceSub, Int.reduceAdd, eq_self, Option.map_some]
theorem gre_loop (x0 x2 x3 x4 x5 x6 x7 x8 x9 x10 : Option D) (S : Sto) : loopS (tName 2) greS [.int 0, .int 1, .int 2, .int 3] [x0, some (Ex.num 99).d, x2, x3, x4, x5, x6, x7, x8, x9, x10] S = some (.nx [x0, some g4.d, some (.int 3), x3, x4, x5, x6, x7, x8, x9, x10] S) := by
  have st : ∀ (k : Int) (y : List D) (G : D) (z : Option D), loopS (tName 2) greS (.int k :: y) [x0, some G, z, x3, x4, x5, x6, x7, x8, x9, x10] S = loopS (tName 2) greS y [x0, some (.tup [.str "times", G, G]), some (.int k), x3, x4, x5, x6, x7, x8, x9, x10] S := fun k y G z => by
    have u : loopS (tName 2) greS (.int k :: y) [x0, some G, z, x3, x4, x5, x6, x7, x8, x9, x10] S = (match greS [x0, some G, some (.int k), x3, x4, x5, x6, x7, x8, x9, x10] S with
        | some (.nx ρ' S') => loopS (tName 2) greS y ρ' S'
        | some (.ct ρ' S') => loopS (tName 2) greS y ρ' S'
        | some (.bk ρ' S') => some (.nx ρ' S')
        | o => o) := rfl
    rw [u, gre]
  rw [st, st, st, st]
  rfl
def endW (q : Nat) : Sn := (sSeq (sAsgB 3 (dLst (aCons (dFn 2 (den_value_of q) (aCons (dVar 1) (aCons (dTup aNil) aNil))) (aCons (dFn 2 (den_value_of q) (aCons (dTup (aCons (dC (.str "less")) (aCons (dTup (aCons (dC (.str "number")) (aCons (dC (.int 0)) aNil))) (aCons (dVar 1) aNil)))) (aCons (dTup aNil) aNil))) (aCons (dFn 2 (den_value_of q) (aCons (dTup (aCons (dC (.str "rest")) (aCons (dVar 1) (aCons (dC (.int 98)) aNil)))) (aCons (dTup aNil) aNil))) aNil)))))
 (sSeq (sDrop (dMt "list" appD (dVar 3) (aCons (dFn 2 (den_value_of q) (aCons (dTup (aCons (dC (.str "rest")) (aCons (dTup (aCons (dC (.str "less")) (aCons (dTup (aCons (dC (.str "number")) (aCons (dC (.int 0)) aNil))) (aCons (dVar 1) aNil)))) (aCons (dC (.int 97)) aNil)))) (aCons (dTup aNil) aNil))) aNil)))
 (sRet (d2 eqX (dCl reprY (aCons (dVar 3) aNil)) (dCl reprY (aCons (dLst (aCons (d2 powD (dC (.int 99)) (dC (.int 16))) (aCons (d2 subD (dC (.int 0)) (d2 powD (dC (.int 99)) (dC (.int 16)))) (aCons (dC (.int 1)) (aCons (d2 modD (d2 subD (dC (.int 0)) (d2 powD (dC (.int 2)) (dC (.int 16)))) (dC (.int 97))) aNil))))) aNil)))))) 
theorem words_eq : den_law_words_right = defD 11 (sSeq (sTgt (tTup (tsCons (tName 4) (tsCons (tName 5) tsNil))) (dTup (aCons (dTup (aCons (dC (.str "in")) (aCons (dC (.int 0)) (aCons (dC (.int 0)) aNil)))) (aCons (dTup (aCons (dC (.str "in")) (aCons (dC (.int 1)) (aCons (dC (.int 1)) aNil)))) aNil))))
 (sSeq (sFor (itSeq (dTup (aCons (dNeg (dC (.int 3))) (aCons (dNeg (dC (.int 1))) (aCons (dC (.int 0)) (aCons (dC (.int 1)) (aCons (dC (.int 2)) (aCons (dC (.int 99)) aNil)))))))) (tName 0) (inS 12))
 (sSeq (sAsg 1 (dTup (aCons (dC (.str "number")) (aCons (dC (.int 99)) aNil))))
 (sSeq (sFor (itA range1D (aCons (dC (.int 4)) aNil)) (tName 2) greS) (endW 12))))) := rfl
theorem pwA (S : Sto) : powD S (.int 99) (.int 16) = some (.val (.int (99 ^ 16))) := rfl
theorem pwB (S : Sto) : powD S (.int 2) (.int 16) = some (.val (.int (2 ^ 16))) := rfl
theorem vA : val [] g4 = 99 ^ 16 := by decide +kernel
theorem vB : val [] lessS = 0 - 99 ^ 16 := by decide +kernel
theorem vC : val [] r98 = 1 := by decide +kernel
theorem vD : val [] r97 = (0 - 2 ^ 16 : Int).fmod 97 := by decide +kernel
theorem fitE : Fit 500 1 (.lst [.int (99 ^ 16), .int (0 - 99 ^ 16), .int 1, .int ((0 - 2 ^ 16 : Int).fmod 97)]) := ⟨by decide +kernel, by decide +kernel, by decide +kernel⟩
theorem lst4 (S : Sto) (a b c : D) : (S ++ [Ob.lst [a, b, c]])[S.length]? = some (.lst [a, b, c]) := push_at S _
theorem end_w {q : Nat} (hq : 12 ≤ q) (x0 x2 x3 x4 x5 x6 x7 x8 x9 x10 : Option D) (S : Sto) : ∃ S', endW q [x0, some g4.d, x2, x3, x4, x5, x6, x7, x8, x9, x10] S = some (.rt (.val (.bl true)) S') := by
  have v1 := fun S => e_val okF0 g4 q S g4_ok (Nat.le_trans (by decide) hq) (by decide)
  have v2 := fun S => e_val okF0 lessS q S ⟨n0, g4_ok⟩ (Nat.le_trans (by decide) hq) (by decide)
  have v3 := fun S => e_val okF0 r98 q S ⟨g4_ok, by decide, by decide⟩ (Nat.le_trans (by decide) hq) (by decide)
  have v4 := fun S => e_val okF0 r97 q S ⟨⟨n0, g4_ok⟩, by decide, by decide⟩ (Nat.le_trans (by decide) hq) (by decide)
  rw [vA] at v1
  rw [vB] at v2
  rw [vC] at v3
  rw [vD] at v4
  have d2' : lessS.d = .tup [.str "less", .tup [.str "number", .int 0], g4.d] := rfl
  have d3 : r98.d = .tup [.str "rest", g4.d, .int 98] := rfl
  have d4 : r97.d = .tup [.str "rest", lessS.d, .int 97] := rfl
  rw [d2'] at v2 d4
  rw [d3] at v3
  rw [d4] at v4
  have fd : fD [] = .tup [] := rfl
  rw [fd] at v1 v2 v3 v4
  have pa := pwA
  have pb := pwB
  have fit := fitE
  clear d2' d3 d4 fd
  generalize hP : (99 : Int) ^ 16 = P at *
  generalize hQ : (0 - 2 ^ 16 : Int).fmod 97 = Q at *
  generalize hR : (2 : Int) ^ 16 = R at *
  have b1 := bx (.lst [.int P, .int (0 - P), .int 1]) S
  have k1 := lst4 S (.int P) (.int (0 - P)) (.int 1)
  generalize S ++ [Ob.lst [.int P, .int (0 - P), .int 1]] = S1 at b1 k1
  have ty := ty_box k1
  have ap := app_box k1 (.int Q) (show 3 < 100000 by decide)
  have k2 : (S1.set S.length (.lst ([.int P, .int (0 - P), .int 1] ++ [.int Q])))[S.length]? = some (.lst ([.int P, .int (0 - P), .int 1] ++ [.int Q])) := List.getElem?_set_self (List.getElem?_eq_some_iff.mp k1).1
  generalize S1.set S.length (.lst ([.int P, .int (0 - P), .int 1] ++ [.int Q])) = S2 at ap k2
  have r1 := y_reprB k2 fit (by decide) (by decide)
  have r2 := y_repr (S := S2) fit (by decide) (by decide)
  have hl : (D.lst ([D.int P, .int (0 - P), .int 1] ++ [.int Q])).py.shown = (D.lst [D.int P, .int (0 - P), .int 1, .int Q]).py.shown := rfl
  rw [hl] at r1
  clear hl
  generalize (D.lst [.int P, .int (0 - P), .int 1, .int Q]).py.shown = text at r1 r2
  generalize S.length = p at *
  generalize g4.d = G at *
  refine ⟨S2, ?_⟩
  have m97 : (97 : Int) ≠ 0 := by decide
  simp only [endW, x_bnd, x_bnS, x_c, x_var, x_varK, x_stl, x_stlV, x_stlL, x_stlE, x_stlD, x_bxd, x_bxV, x_bxK, x_okv, x_okm, x_d2, x_d2K, x_d2L, x_tst, x_tstK, x_ch, x_chK, x_chL, x_chMt, x_chMf, x_chN, x_and, x_andK, x_andT, x_andF, x_or, x_orK, x_orT, x_orF, x_not, x_notK, x_notL, x_tru, x_truK, x_truL, x_band, x_bandT, x_bandF, x_bor, x_borT, x_borF, x_bnot, x_bnotK, x_dif, x_difT, x_difF, x_anil, x_acons, x_aK, x_aL, x_tup, x_tupK, x_lst, x_lstK, x_cl, x_clK, x_fn, x_fnK, x_isi, x_isiK, x_isiL, x_neg, x_negK, x_revL, x_kget, x_kgetK, x_sl, x_slK, x_slL, x_pnone, x_psome, x_psK, x_mt, x_mtK, x_mtL, x_itA, x_itAK, x_itL, x_itSeq, x_seqK, x_itStr, x_istrK, x_comp, x_compK, x_compL, x_wipe1, x_wipe2, x_seq, x_sqN, x_sqR, x_sqB, x_sqC, x_next, x_ret, x_retK, x_retN, x_asg, x_asgB, x_asgK, x_drop, x_dropK, x_if, x_ifT, x_ifF, x_for, x_forK, x_tgt, x_tgtK, x_tgtL, x_tname, x_par, x_parK, x_dput, x_dputK, x_dputK1, x_dputK2, x_dputL, x_def, x_defR, x_defN, y_add, y_sub, y_mul, y_mulX, y_mod, y_fdiv, y_lt, y_le, y_gt, y_ge, y_eqI, y_eqS, y_neI, y_neS, y_eqYI, y_eqYS, y_neYI, y_neYS, y_ixT, y_ixL, y_trB, y_k0, y_k1, y_k2, y_k3, y_k4, y_k5, y_k6, y_lenL, y_lenS, startE, List.map_cons, List.map_nil, List.length_cons, List.length_nil, List.replicate, List.cons_append, List.nil_append, List.append_nil, Nat.sub_self, Nat.reduceSub, Nat.reduceAdd, Nat.reduceLeDiff, Nat.reduceEqDiff, Nat.zero_add, Nat.zero_le, Nat.sub_zero, List.set_cons_zero, List.set_cons_succ, List.getElem?_cons_zero, List.getElem?_cons_succ, Bool.not_true, Bool.not_false, decide_true, decide_false, Int.reduceEq, Int.reduceLT, Int.reduceLE, Int.reduceSub, Int.reduceAdd, eq_self, Option.map_some, v1, v2, v3, v4, x_asgB, x_bxd, b1, ty, ap, x_drop, x_dropK, r1, pa, pb, m97, ne_eq, not_false_eq_true, hQ, r2]
theorem words_ok (S : Sto) : ∃ S', den_law_words_right [] S = some (.ok (.val (.bl true)) S') := by
  obtain ⟨S1, y0, y3, y6, y7, y8, y9, e1⟩ := out_loop (q := 12) (Nat.le_refl _) none none firL none none none none none none none S (fun s hs => by
    have : firL.all (fun s => decide (s.natAbs < 2 ^ 10)) = true := by decide
    exact (of_decide_eq_true (List.all_eq_true.mp this s hs) : s.natAbs < 2 ^ 10))
  have e : firL.map D.int = [.int (-3), .int (-1), .int 0, .int 1, .int 2, .int 99] := rfl
  rw [e] at e1
  have e2 := gre_loop y0 none y3 (some one.d) (some other.d) y6 y7 y8 y9 none S1
  obtain ⟨S3, e3⟩ := end_w (q := 12) (Nat.le_refl _) y0 (some (.int 3)) y3 (some one.d) (some other.d) y6 y7 y8 y9 none S1
  have rg : range1D [.int 4] = some [.int 0, .int 1, .int 2, .int 3] := rng (show (0 : Int) ≤ 4 by decide) (by decide)
  have o1 : one.d = .tup [.str "in", .int 0, .int 0] := rfl
  have o2 : other.d = .tup [.str "in", .int 1, .int 1] := rfl
  have n9 : (Ex.num 99).d = .tup [.str "number", .int 99] := rfl
  refine ⟨S3, ?_⟩
  rw [words_eq]
  generalize inS 12 = I at *
  generalize endW 12 = E at *
  generalize g4.d = G at *
  rw [o1, o2] at e1 e2 e3
  rw [n9] at e2
  have tt : ∀ a b : D, (tTup (tsCons (tName 4) (tsCons (tName 5) tsNil))) [none, none, none, none, none, none, none, none, none, none, none] (.tup [a, b]) = some [none, none, none, none, some a, some b, none, none, none, none, none] := fun _ _ => rfl
  simp only [x_bnd, x_bnS, x_c, x_var, x_varK, x_stl, x_stlV, x_stlL, x_stlE, x_stlD, x_bxd, x_bxV, x_bxK, x_okv, x_okm, x_d2, x_d2K, x_d2L, x_tst, x_tstK, x_ch, x_chK, x_chL, x_chMt, x_chMf, x_chN, x_and, x_andK, x_andT, x_andF, x_or, x_orK, x_orT, x_orF, x_not, x_notK, x_notL, x_tru, x_truK, x_truL, x_band, x_bandT, x_bandF, x_bor, x_borT, x_borF, x_bnot, x_bnotK, x_dif, x_difT, x_difF, x_anil, x_acons, x_aK, x_aL, x_tup, x_tupK, x_lst, x_lstK, x_cl, x_clK, x_fn, x_fnK, x_isi, x_isiK, x_isiL, x_neg, x_negK, x_revL, x_kget, x_kgetK, x_sl, x_slK, x_slL, x_pnone, x_psome, x_psK, x_mt, x_mtK, x_mtL, x_itA, x_itAK, x_itL, x_itSeq, x_seqK, x_itStr, x_istrK, x_comp, x_compK, x_compL, x_wipe1, x_wipe2, x_seq, x_sqN, x_sqR, x_sqB, x_sqC, x_next, x_ret, x_retK, x_retN, x_asg, x_asgB, x_asgK, x_drop, x_dropK, x_if, x_ifT, x_ifF, x_for, x_forK, x_tgt, x_tgtK, x_tgtL, x_tname, x_par, x_parK, x_dput, x_dputK, x_dputK1, x_dputK2, x_dputL, x_def, x_defR, x_defN, y_add, y_sub, y_mul, y_mulX, y_mod, y_fdiv, y_lt, y_le, y_gt, y_ge, y_eqI, y_eqS, y_neI, y_neS, y_eqYI, y_eqYS, y_neYI, y_neYS, y_ixT, y_ixL, y_trB, y_k0, y_k1, y_k2, y_k3, y_k4, y_k5, y_k6, y_lenL, y_lenS, startE, List.map_cons, List.map_nil, List.length_cons, List.length_nil, List.replicate, List.cons_append, List.nil_append, List.append_nil, Nat.sub_self, Nat.reduceSub, Nat.reduceAdd, Nat.reduceLeDiff, Nat.reduceEqDiff, Nat.zero_add, Nat.zero_le, Nat.sub_zero, List.set_cons_zero, List.set_cons_succ, List.getElem?_cons_zero, List.getElem?_cons_succ, Bool.not_true, Bool.not_false, decide_true, decide_false, Int.reduceEq, Int.reduceLT, Int.reduceLE, Int.reduceSub, Int.reduceAdd, eq_self, Option.map_some, x_tgt, x_tgtK, tt, x_tgtL, x_neg, x_negK, fixed, e1, rg, e2, e3]
theorem y_max (S : Sto) (i j : Int) : maxD S [.int i, .int j] = some (.val (.int (if j > i then j else i))) := rfl
theorem y_min (S : Sto) (i j : Int) : minD S [.int i, .int j] = some (.val (.int (if j < i then j else i))) := rfl
theorem answers : ∀ ns : List Int, ns.length ≤ 63 → ∃ S, den_law [.fls (ns.map .int)] [] = some (.ok (.val (.bl true)) S) := by
  intro ns _
  obtain ⟨L, hL⟩ : ∃ L : Int, ((ns.map D.int).length : Int) = L := ⟨_, rfl⟩
  have yl := y_lenF [] (ns.map .int)
  rw [hL] at yl
  have y1 := y_min [] 12 L
  obtain ⟨m, hm⟩ : ∃ m : Int, (if L < 12 then L else 12) = m := ⟨_, rfl⟩
  rw [hm] at y1
  have y2 := y_max [] 2 m
  obtain ⟨w, hw⟩ : ∃ w : Int, (if m > 2 then m else 2) = w := ⟨_, rfl⟩
  rw [hw] at y2
  have hw2 : 0 ≤ w ∧ w ≤ 12 := by
    have : m ≤ 12 := by rw [← hm]; split <;> omega
    rw [← hw]
    split <;> omega
  have rg := rng hw2.1 (by omega)
  obtain ⟨S1, ρ', e1⟩ := cells (q := 6) (r := 6) (by decide) (by decide) ns (rangeL 0 w.toNat) none none none none none none none none none [] (fun d hd => by
    obtain ⟨i, h1, h2, h3⟩ := rl_mem d hd
    exact ⟨i, h1, h2, by omega⟩)
  obtain ⟨S2, e2⟩ := words_ok S1
  refine ⟨S2, ?_⟩
  rw [law_eq]
  clear hL hm hw hw2
  generalize ns.map D.int = N at *
  generalize rangeL 0 w.toNat = R at *
  generalize cellS 6 6 = C at *
  simp only [x_bnd, x_bnS, x_c, x_var, x_varK, x_stl, x_stlV, x_stlL, x_stlE, x_stlD, x_bxd, x_bxV, x_bxK, x_okv, x_okm, x_d2, x_d2K, x_d2L, x_tst, x_tstK, x_ch, x_chK, x_chL, x_chMt, x_chMf, x_chN, x_and, x_andK, x_andT, x_andF, x_or, x_orK, x_orT, x_orF, x_not, x_notK, x_notL, x_tru, x_truK, x_truL, x_band, x_bandT, x_bandF, x_bor, x_borT, x_borF, x_bnot, x_bnotK, x_dif, x_difT, x_difF, x_anil, x_acons, x_aK, x_aL, x_tup, x_tupK, x_lst, x_lstK, x_cl, x_clK, x_fn, x_fnK, x_isi, x_isiK, x_isiL, x_neg, x_negK, x_revL, x_kget, x_kgetK, x_sl, x_slK, x_slL, x_pnone, x_psome, x_psK, x_mt, x_mtK, x_mtL, x_itA, x_itAK, x_itL, x_itSeq, x_seqK, x_itStr, x_istrK, x_comp, x_compK, x_compL, x_wipe1, x_wipe2, x_seq, x_sqN, x_sqR, x_sqB, x_sqC, x_next, x_ret, x_retK, x_retN, x_asg, x_asgB, x_asgK, x_drop, x_dropK, x_if, x_ifT, x_ifF, x_for, x_forK, x_tgt, x_tgtK, x_tgtL, x_tname, x_par, x_parK, x_dput, x_dputK, x_dputK1, x_dputK2, x_dputL, x_def, x_defR, x_defN, y_add, y_sub, y_mul, y_mulX, y_mod, y_fdiv, y_lt, y_le, y_gt, y_ge, y_eqI, y_eqS, y_neI, y_neS, y_eqYI, y_eqYS, y_neYI, y_neYS, y_ixT, y_ixL, y_trB, y_k0, y_k1, y_k2, y_k3, y_k4, y_k5, y_k6, y_lenL, y_lenS, startE, List.map_cons, List.map_nil, List.length_cons, List.length_nil, List.replicate, List.cons_append, List.nil_append, List.append_nil, Nat.sub_self, Nat.reduceSub, Nat.reduceAdd, Nat.reduceLeDiff, Nat.reduceEqDiff, Nat.zero_add, Nat.zero_le, Nat.sub_zero, List.set_cons_zero, List.set_cons_succ, List.getElem?_cons_zero, List.getElem?_cons_succ, Bool.not_true, Bool.not_false, decide_true, decide_false, Int.reduceEq, Int.reduceLT, Int.reduceLE, Int.reduceSub, Int.reduceAdd, eq_self, Option.map_some, yl, y1, y2, rg, e1, e2]
end W10
namespace W10
open Sf L2 PySem PySem.Spec PyProof.Rows
theorem all_mk {P : Program} {w : World} {K : PySem.W.Frag} {h : Heap} {mg : Str → Option Value} (inK : K.In h) (glob : h.Ns mainGlobals mg)
  {f_two_together : Addr} {o1_two_together o2_two_together o3_two_together o4_two_together o5_two_together o6_two_together : Value} {o7_two_together o8_two_together : Option Addr} {o9_two_together : Array (Option Value)}
  {f_value_of : Addr} {o1_value_of o2_value_of o3_value_of o4_value_of o5_value_of o6_value_of : Value} {o7_value_of o8_value_of : Option Addr} {o9_value_of : Array (Option Value)}
  {f_given_by : Addr} {o1_given_by o2_given_by o3_given_by o4_given_by o5_given_by o6_given_by : Value} {o7_given_by o8_given_by : Option Addr} {o9_given_by : Array (Option Value)}
  {f_law_begun : Addr} {o1_law_begun o2_law_begun o3_law_begun o4_law_begun o5_law_begun o6_law_begun : Value} {o7_law_begun o8_law_begun : Option Addr} {o9_law_begun : Array (Option Value)}
  {f_law_pick : Addr} {o1_law_pick o2_law_pick o3_law_pick o4_law_pick o5_law_pick o6_law_pick : Value} {o7_law_pick o8_law_pick : Option Addr} {o9_law_pick : Array (Option Value)}
  {f_law_among : Addr} {o1_law_among o2_law_among o3_law_among o4_law_among o5_law_among o6_law_among : Value} {o7_law_among o8_law_among : Option Addr} {o9_law_among : Array (Option Value)}
  {f_law_looked : Addr} {o1_law_looked o2_law_looked o3_law_looked o4_law_looked o5_law_looked o6_law_looked : Value} {o7_law_looked o8_law_looked : Option Addr} {o9_law_looked : Array (Option Value)}
  {f_law_expression : Addr} {o1_law_expression o2_law_expression o3_law_expression o4_law_expression o5_law_expression o6_law_expression : Value} {o7_law_expression o8_law_expression : Option Addr} {o9_law_expression : Array (Option Value)}
  {f_law_body : Addr} {o1_law_body o2_law_body o3_law_body o4_law_body o5_law_body o6_law_body : Value} {o7_law_body o8_law_body : Option Addr} {o9_law_body : Array (Option Value)}
  {f_law_value : Addr} {o1_law_value o2_law_value o3_law_value o4_law_value o5_law_value o6_law_value : Value} {o7_law_value o8_law_value : Option Addr} {o9_law_value : Array (Option Value)}
  {f_law_given : Addr} {o1_law_given o2_law_given o3_law_given o4_law_given o5_law_given o6_law_given : Value} {o7_law_given o8_law_given : Option Addr} {o9_law_given : Array (Option Value)}
  {f_law_drawn_fields : Addr} {o1_law_drawn_fields o2_law_drawn_fields o3_law_drawn_fields o4_law_drawn_fields o5_law_drawn_fields o6_law_drawn_fields : Value} {o7_law_drawn_fields o8_law_drawn_fields : Option Addr} {o9_law_drawn_fields : Array (Option Value)}
  {f_law_right : Addr} {o1_law_right o2_law_right o3_law_right o4_law_right o5_law_right o6_law_right : Value} {o7_law_right o8_law_right : Option Addr} {o9_law_right : Array (Option Value)}
  {f_law_words_right : Addr} {o1_law_words_right o2_law_words_right o3_law_words_right o4_law_words_right o5_law_words_right o6_law_words_right : Value} {o7_law_words_right o8_law_words_right : Option Addr} {o9_law_words_right : Array (Option Value)}
  {f_law : Addr} {o1_law o2_law o3_law o4_law o5_law o6_law : Value} {o7_law o8_law : Option Addr} {o9_law : Array (Option Value)}
  (b_abs : PySem.W.nsIn K mainGlobals "abs" = some none)
  (b_bool : PySem.W.nsIn K mainGlobals "bool" = some none)
  (b_int : PySem.W.nsIn K mainGlobals "int" = some none)
  (b_isinstance : PySem.W.nsIn K mainGlobals "isinstance" = some none)
  (b_len : PySem.W.nsIn K mainGlobals "len" = some none)
  (b_list : PySem.W.nsIn K mainGlobals "list" = some none)
  (b_max : PySem.W.nsIn K mainGlobals "max" = some none)
  (b_min : PySem.W.nsIn K mainGlobals "min" = some none)
  (b_range : PySem.W.nsIn K mainGlobals "range" = some none)
  (b_repr : PySem.W.nsIn K mainGlobals "repr" = some none)
  (b_str : PySem.W.nsIn K mainGlobals "str" = some none)
  (b_sum : PySem.W.nsIn K mainGlobals "sum" = some none)
  (b_tuple : PySem.W.nsIn K mainGlobals "tuple" = some none)
  (e1_two_together : PySem.W.nsIn K mainGlobals "two_together" = some (some (.ref f_two_together))) (e2_two_together : K.lookup f_two_together = some ⟨o1_two_together, o7_two_together, .func (PySem.W.fnOf "two_together" "two_together" (L2.defArgs (top 2)) (L2.defBody (top 2)) (L2.defScope (top 2)) .none o2_two_together o3_two_together o4_two_together o8_two_together o5_two_together o6_two_together), o9_two_together⟩) (e3_two_together : PySem.W.codeIn K o5_two_together "two_together" = true) (e4_two_together : PySem.W.keepIn K (.ref f_two_together) = true)
  (e1_value_of : PySem.W.nsIn K mainGlobals "value_of" = some (some (.ref f_value_of))) (e2_value_of : K.lookup f_value_of = some ⟨o1_value_of, o7_value_of, .func (PySem.W.fnOf "value_of" "value_of" (L2.defArgs (top 1)) (L2.defBody (top 1)) (L2.defScope (top 1)) .none o2_value_of o3_value_of o4_value_of o8_value_of o5_value_of o6_value_of), o9_value_of⟩) (e3_value_of : PySem.W.codeIn K o5_value_of "value_of" = true) (e4_value_of : PySem.W.keepIn K (.ref f_value_of) = true)
  (e1_given_by : PySem.W.nsIn K mainGlobals "given_by" = some (some (.ref f_given_by))) (e2_given_by : K.lookup f_given_by = some ⟨o1_given_by, o7_given_by, .func (PySem.W.fnOf "given_by" "given_by" (L2.defArgs (top 3)) (L2.defBody (top 3)) (L2.defScope (top 3)) .none o2_given_by o3_given_by o4_given_by o8_given_by o5_given_by o6_given_by), o9_given_by⟩) (e3_given_by : PySem.W.codeIn K o5_given_by "given_by" = true) (e4_given_by : PySem.W.keepIn K (.ref f_given_by) = true)
  (e1_law_begun : PySem.W.nsIn K mainGlobals "_law_begun" = some (some (.ref f_law_begun))) (e2_law_begun : K.lookup f_law_begun = some ⟨o1_law_begun, o7_law_begun, .func (PySem.W.fnOf "_law_begun" "_law_begun" (L2.defArgs (top 5)) (L2.defBody (top 5)) (L2.defScope (top 5)) .none o2_law_begun o3_law_begun o4_law_begun o8_law_begun o5_law_begun o6_law_begun), o9_law_begun⟩) (e3_law_begun : PySem.W.codeIn K o5_law_begun "_law_begun" = true) (e4_law_begun : PySem.W.keepIn K (.ref f_law_begun) = true)
  (e1_law_pick : PySem.W.nsIn K mainGlobals "_law_pick" = some (some (.ref f_law_pick))) (e2_law_pick : K.lookup f_law_pick = some ⟨o1_law_pick, o7_law_pick, .func (PySem.W.fnOf "_law_pick" "_law_pick" (L2.defArgs (top 6)) (L2.defBody (top 6)) (L2.defScope (top 6)) .none o2_law_pick o3_law_pick o4_law_pick o8_law_pick o5_law_pick o6_law_pick), o9_law_pick⟩) (e3_law_pick : PySem.W.codeIn K o5_law_pick "_law_pick" = true) (e4_law_pick : PySem.W.keepIn K (.ref f_law_pick) = true)
  (e1_law_among : PySem.W.nsIn K mainGlobals "_law_among" = some (some (.ref f_law_among))) (e2_law_among : K.lookup f_law_among = some ⟨o1_law_among, o7_law_among, .func (PySem.W.fnOf "_law_among" "_law_among" (L2.defArgs (top 7)) (L2.defBody (top 7)) (L2.defScope (top 7)) .none o2_law_among o3_law_among o4_law_among o8_law_among o5_law_among o6_law_among), o9_law_among⟩) (e3_law_among : PySem.W.codeIn K o5_law_among "_law_among" = true) (e4_law_among : PySem.W.keepIn K (.ref f_law_among) = true)
  (e1_law_looked : PySem.W.nsIn K mainGlobals "_law_looked" = some (some (.ref f_law_looked))) (e2_law_looked : K.lookup f_law_looked = some ⟨o1_law_looked, o7_law_looked, .func (PySem.W.fnOf "_law_looked" "_law_looked" (L2.defArgs (top 8)) (L2.defBody (top 8)) (L2.defScope (top 8)) .none o2_law_looked o3_law_looked o4_law_looked o8_law_looked o5_law_looked o6_law_looked), o9_law_looked⟩) (e3_law_looked : PySem.W.codeIn K o5_law_looked "_law_looked" = true) (e4_law_looked : PySem.W.keepIn K (.ref f_law_looked) = true)
  (e1_law_expression : PySem.W.nsIn K mainGlobals "_law_expression" = some (some (.ref f_law_expression))) (e2_law_expression : K.lookup f_law_expression = some ⟨o1_law_expression, o7_law_expression, .func (PySem.W.fnOf "_law_expression" "_law_expression" (L2.defArgs (top 9)) (L2.defBody (top 9)) (L2.defScope (top 9)) .none o2_law_expression o3_law_expression o4_law_expression o8_law_expression o5_law_expression o6_law_expression), o9_law_expression⟩) (e3_law_expression : PySem.W.codeIn K o5_law_expression "_law_expression" = true) (e4_law_expression : PySem.W.keepIn K (.ref f_law_expression) = true)
  (e1_law_body : PySem.W.nsIn K mainGlobals "_law_body" = some (some (.ref f_law_body))) (e2_law_body : K.lookup f_law_body = some ⟨o1_law_body, o7_law_body, .func (PySem.W.fnOf "_law_body" "_law_body" (L2.defArgs (top 10)) (L2.defBody (top 10)) (L2.defScope (top 10)) .none o2_law_body o3_law_body o4_law_body o8_law_body o5_law_body o6_law_body), o9_law_body⟩) (e3_law_body : PySem.W.codeIn K o5_law_body "_law_body" = true) (e4_law_body : PySem.W.keepIn K (.ref f_law_body) = true)
  (e1_law_value : PySem.W.nsIn K mainGlobals "_law_value" = some (some (.ref f_law_value))) (e2_law_value : K.lookup f_law_value = some ⟨o1_law_value, o7_law_value, .func (PySem.W.fnOf "_law_value" "_law_value" (L2.defArgs (top 11)) (L2.defBody (top 11)) (L2.defScope (top 11)) .none o2_law_value o3_law_value o4_law_value o8_law_value o5_law_value o6_law_value), o9_law_value⟩) (e3_law_value : PySem.W.codeIn K o5_law_value "_law_value" = true) (e4_law_value : PySem.W.keepIn K (.ref f_law_value) = true)
  (e1_law_given : PySem.W.nsIn K mainGlobals "_law_given" = some (some (.ref f_law_given))) (e2_law_given : K.lookup f_law_given = some ⟨o1_law_given, o7_law_given, .func (PySem.W.fnOf "_law_given" "_law_given" (L2.defArgs (top 12)) (L2.defBody (top 12)) (L2.defScope (top 12)) .none o2_law_given o3_law_given o4_law_given o8_law_given o5_law_given o6_law_given), o9_law_given⟩) (e3_law_given : PySem.W.codeIn K o5_law_given "_law_given" = true) (e4_law_given : PySem.W.keepIn K (.ref f_law_given) = true)
  (e1_law_drawn_fields : PySem.W.nsIn K mainGlobals "_law_drawn_fields" = some (some (.ref f_law_drawn_fields))) (e2_law_drawn_fields : K.lookup f_law_drawn_fields = some ⟨o1_law_drawn_fields, o7_law_drawn_fields, .func (PySem.W.fnOf "_law_drawn_fields" "_law_drawn_fields" (L2.defArgs (top 13)) (L2.defBody (top 13)) (L2.defScope (top 13)) .none o2_law_drawn_fields o3_law_drawn_fields o4_law_drawn_fields o8_law_drawn_fields o5_law_drawn_fields o6_law_drawn_fields), o9_law_drawn_fields⟩) (e3_law_drawn_fields : PySem.W.codeIn K o5_law_drawn_fields "_law_drawn_fields" = true) (e4_law_drawn_fields : PySem.W.keepIn K (.ref f_law_drawn_fields) = true)
  (e1_law_right : PySem.W.nsIn K mainGlobals "_law_right" = some (some (.ref f_law_right))) (e2_law_right : K.lookup f_law_right = some ⟨o1_law_right, o7_law_right, .func (PySem.W.fnOf "_law_right" "_law_right" (L2.defArgs (top 14)) (L2.defBody (top 14)) (L2.defScope (top 14)) .none o2_law_right o3_law_right o4_law_right o8_law_right o5_law_right o6_law_right), o9_law_right⟩) (e3_law_right : PySem.W.codeIn K o5_law_right "_law_right" = true) (e4_law_right : PySem.W.keepIn K (.ref f_law_right) = true)
  (e1_law_words_right : PySem.W.nsIn K mainGlobals "_law_words_right" = some (some (.ref f_law_words_right))) (e2_law_words_right : K.lookup f_law_words_right = some ⟨o1_law_words_right, o7_law_words_right, .func (PySem.W.fnOf "_law_words_right" "_law_words_right" (L2.defArgs (top 15)) (L2.defBody (top 15)) (L2.defScope (top 15)) .none o2_law_words_right o3_law_words_right o4_law_words_right o8_law_words_right o5_law_words_right o6_law_words_right), o9_law_words_right⟩) (e3_law_words_right : PySem.W.codeIn K o5_law_words_right "_law_words_right" = true) (e4_law_words_right : PySem.W.keepIn K (.ref f_law_words_right) = true)
  (e1_law : PySem.W.nsIn K mainGlobals "law" = some (some (.ref f_law))) (e2_law : K.lookup f_law = some ⟨o1_law, o7_law, .func (PySem.W.fnOf "law" "law" (L2.defArgs (top 16)) (L2.defBody (top 16)) (L2.defScope (top 16)) .none o2_law o3_law o4_law o8_law o5_law o6_law), o9_law⟩) (e3_law : PySem.W.codeIn K o5_law "law" = true) (e4_law : PySem.W.keepIn K (.ref f_law) = true) :
  ∀ base : Heap, K.In base → base.Ns mainGlobals mg → SysB base → Cl P w K mg base 22 "law" 1 den_law := fun base _ _ sys =>
  g_law ⟨sys, PySem.W.mg_none_of inK glob b_abs,
  PySem.W.mg_none_of inK glob b_bool,
  PySem.W.mg_none_of inK glob b_int,
  PySem.W.mg_none_of inK glob b_isinstance,
  PySem.W.mg_none_of inK glob b_len,
  PySem.W.mg_none_of inK glob b_list,
  PySem.W.mg_none_of inK glob b_max,
  PySem.W.mg_none_of inK glob b_min,
  PySem.W.mg_none_of inK glob b_range,
  PySem.W.mg_none_of inK glob b_repr,
  PySem.W.mg_none_of inK glob b_str,
  PySem.W.mg_none_of inK glob b_sum,
  PySem.W.mg_none_of inK glob b_tuple,
  dk_mk inK glob (fun _ _ _ _ _ _ us hl => match us, hl with | [_, _, _], _ => rfl) e1_two_together e2_two_together e3_two_together e4_two_together,
  dk_mk inK glob (fun _ _ _ _ _ _ us hl => match us, hl with | [_, _], _ => rfl) e1_value_of e2_value_of e3_value_of e4_value_of,
  dk_mk inK glob (fun _ _ _ _ _ _ us hl => match us, hl with | [_, _], _ => rfl) e1_given_by e2_given_by e3_given_by e4_given_by,
  dk_mk inK glob (fun _ _ _ _ _ _ us hl => match us, hl with | [_, _], _ => rfl) e1_law_begun e2_law_begun e3_law_begun e4_law_begun,
  dk_mk inK glob (fun _ _ _ _ _ _ us hl => match us, hl with | [_, _], _ => rfl) e1_law_pick e2_law_pick e3_law_pick e4_law_pick,
  dk_mk inK glob (fun _ _ _ _ _ _ us hl => match us, hl with | [_, _, _], _ => rfl) e1_law_among e2_law_among e3_law_among e4_law_among,
  dk_mk inK glob (fun _ _ _ _ _ _ us hl => match us, hl with | [_, _, _], _ => rfl) e1_law_looked e2_law_looked e3_law_looked e4_law_looked,
  dk_mk inK glob (fun _ _ _ _ _ _ us hl => match us, hl with | [_, _, _], _ => rfl) e1_law_expression e2_law_expression e3_law_expression e4_law_expression,
  dk_mk inK glob (fun _ _ _ _ _ _ us hl => match us, hl with | [_, _, _, _], _ => rfl) e1_law_body e2_law_body e3_law_body e4_law_body,
  dk_mk inK glob (fun _ _ _ _ _ _ us hl => match us, hl with | [_, _], _ => rfl) e1_law_value e2_law_value e3_law_value e4_law_value,
  dk_mk inK glob (fun _ _ _ _ _ _ us hl => match us, hl with | [_, _], _ => rfl) e1_law_given e2_law_given e3_law_given e4_law_given,
  dk_mk inK glob (fun _ _ _ _ _ _ us hl => match us, hl with | [_, _], _ => rfl) e1_law_drawn_fields e2_law_drawn_fields e3_law_drawn_fields e4_law_drawn_fields,
  dk_mk inK glob (fun _ _ _ _ _ _ us hl => match us, hl with | [_, _, _], _ => rfl) e1_law_right e2_law_right e3_law_right e4_law_right,
  dk_mk inK glob (fun _ _ _ _ _ _ us hl => match us, hl with | [], _ => rfl) e1_law_words_right e2_law_words_right e3_law_words_right e4_law_words_right,
  dk_mk inK glob (fun _ _ _ _ _ _ us hl => match us, hl with | [_], _ => rfl) e1_law e2_law e3_law e4_law⟩

end W10
open PySem PySem.W PyProof.Rows in
set_option maxRecDepth 100000 in
set_option maxHeartbeats 0 in
theorem PySem.Challenge.cw_sameface_k10_what_bodies_tell_holds : PySem.Challenge.rw_sameface_k10_what_bodies_tell.Holds := by
  w_on; o_law; k_head; (case hw => w_witness2)
  k_fill
  refine Sf.walk_g (l := PySem.Challenge.rw_sameface_k10_what_bodies_tell) (n := 63) (k := 22) (m := W10.den_law) rfl (by decide) (by rfl) rfl ⟨rfl, by decide, by decide⟩ (fun w h Y => PySem.W.kIn_of Y) ?F W10.answers
  case F =>
    intro w mg h KX G
    refine' W10.all_mk KX G ?b_abs ?b_bool ?b_int ?b_isinstance ?b_len ?b_list ?b_max ?b_min ?b_range ?b_repr ?b_str ?b_sum ?b_tuple ?e1_two_together ?e2_two_together ?e3_two_together ?e4_two_together ?e1_value_of ?e2_value_of ?e3_value_of ?e4_value_of ?e1_given_by ?e2_given_by ?e3_given_by ?e4_given_by ?e1_law_begun ?e2_law_begun ?e3_law_begun ?e4_law_begun ?e1_law_pick ?e2_law_pick ?e3_law_pick ?e4_law_pick ?e1_law_among ?e2_law_among ?e3_law_among ?e4_law_among ?e1_law_looked ?e2_law_looked ?e3_law_looked ?e4_law_looked ?e1_law_expression ?e2_law_expression ?e3_law_expression ?e4_law_expression ?e1_law_body ?e2_law_body ?e3_law_body ?e4_law_body ?e1_law_value ?e2_law_value ?e3_law_value ?e4_law_value ?e1_law_given ?e2_law_given ?e3_law_given ?e4_law_given ?e1_law_drawn_fields ?e2_law_drawn_fields ?e3_law_drawn_fields ?e4_law_drawn_fields ?e1_law_right ?e2_law_right ?e3_law_right ?e4_law_right ?e1_law_words_right ?e2_law_words_right ?e3_law_words_right ?e4_law_words_right ?e1_law ?e2_law ?e3_law ?e4_law
    (case b_abs => k_is)
    (case b_bool => k_is)
    (case b_int => k_is)
    (case b_isinstance => k_is)
    (case b_len => k_is)
    (case b_list => k_is)
    (case b_max => k_is)
    (case b_min => k_is)
    (case b_range => k_is)
    (case b_repr => k_is)
    (case b_str => k_is)
    (case b_sum => k_is)
    (case b_tuple => k_is)
    (case e1_two_together => k_is)
    (case e2_two_together => k_is)
    (case e3_two_together => k_is)
    (case e4_two_together => k_is)
    (case e1_value_of => k_is)
    (case e2_value_of => k_is)
    (case e3_value_of => k_is)
    (case e4_value_of => k_is)
    (case e1_given_by => k_is)
    (case e2_given_by => k_is)
    (case e3_given_by => k_is)
    (case e4_given_by => k_is)
    (case e1_law_begun => k_is)
    (case e2_law_begun => k_is)
    (case e3_law_begun => k_is)
    (case e4_law_begun => k_is)
    (case e1_law_pick => k_is)
    (case e2_law_pick => k_is)
    (case e3_law_pick => k_is)
    (case e4_law_pick => k_is)
    (case e1_law_among => k_is)
    (case e2_law_among => k_is)
    (case e3_law_among => k_is)
    (case e4_law_among => k_is)
    (case e1_law_looked => k_is)
    (case e2_law_looked => k_is)
    (case e3_law_looked => k_is)
    (case e4_law_looked => k_is)
    (case e1_law_expression => k_is)
    (case e2_law_expression => k_is)
    (case e3_law_expression => k_is)
    (case e4_law_expression => k_is)
    (case e1_law_body => k_is)
    (case e2_law_body => k_is)
    (case e3_law_body => k_is)
    (case e4_law_body => k_is)
    (case e1_law_value => k_is)
    (case e2_law_value => k_is)
    (case e3_law_value => k_is)
    (case e4_law_value => k_is)
    (case e1_law_given => k_is)
    (case e2_law_given => k_is)
    (case e3_law_given => k_is)
    (case e4_law_given => k_is)
    (case e1_law_drawn_fields => k_is)
    (case e2_law_drawn_fields => k_is)
    (case e3_law_drawn_fields => k_is)
    (case e4_law_drawn_fields => k_is)
    (case e1_law_right => k_is)
    (case e2_law_right => k_is)
    (case e3_law_right => k_is)
    (case e4_law_right => k_is)
    (case e1_law_words_right => k_is)
    (case e2_law_words_right => k_is)
    (case e3_law_words_right => k_is)
    (case e4_law_words_right => k_is)
    (case e1_law => k_is)
    (case e2_law => k_is)
    (case e3_law => k_is)
    (case e4_law => k_is)
