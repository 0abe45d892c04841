import PyProof.Rows.All
import Wide.All
import OpenK.AllK
import Wide.FinOn
import HandS.ForMost
import HandS.ForExc
import HandS.IsInst
import HandS.Style
import HandS.Walk
import HandS.RaiseMore
import HandS.Conv
import HandS.Wide
import HandS.TupAny
import HandS.SetFor
import HandS.More
import HandS.Zip
import HandS.Rev
import HandS.Defaults
import HandS.EndBits
import HandS.Head0
import HandS.Head1
import HandS.Head2
import HandS.HeadEnd
import HandS.HeadHook1
import HandS.HeadHook2
import PySem.Challenge.RW_leafweb_k01_words_and_signs
set_option Elab.async false
set_option linter.all false
set_option maxRecDepth 100000
set_option maxHeartbeats 0
namespace PD
open PySem L2
/-! ## values as trees; what is mutable stands in a store -/
inductive W where
  | non
  | bl (b : Bool)
  | int (i : Int)
  | str (s : List Nat)
  | tup (xs : List W)
  | ref (i : Nat)
instance : Inhabited W := ⟨.non⟩
inductive Cell where
  | lst (xs : List W)
  | scr (xs : List W)
  | dic (kvs : List (W × W))
  | ins (c : Str) (fs : List (Str × W))
abbrev Store := List Cell
structure Ex where
  cls : Str
  fld : Option (Str × W)
inductive Out (α : Type) where
  | ok (a : α) (S : Store)
  | exc (x : Ex) (S : Store)
  | bad
def Out.bind {α β : Type} (o : Out α) (k : α → Store → Out β) : Out β :=
  match o with
  | .ok a S => k a S
  | .exc x S => .exc x S
  | .bad => .bad
@[simp] theorem bind_ok {α β : Type} (a : α) (S : Store) (k : α → Store → Out β) : (Out.ok a S).bind k = k a S := rfl
@[simp] theorem bind_exc {α β : Type} (x : Ex) (S : Store) (k : α → Store → Out β) : (Out.exc x S : Out α).bind k = .exc x S := rfl
@[simp] theorem bind_bad {α β : Type} (k : α → Store → Out β) : (Out.bad : Out α).bind k = .bad := rfl
abbrev Slots := List (Option W)
abbrev EM := Slots → Store → Out W
abbrev TM := Slots → Store → Out Bool
abbrev AM := Slots → Store → Out (List W)

/-- what of the text's world is asked -/
structure Gw where
  K : PySem.W.Frag
  mg : Str → Option Value

section
variable (G : Gw)
mutual
def VR (r : List Addr) (H : Hp) : W → V → Prop
  | .non, v => v = .non
  | .bl b, v => v = .bl b
  | .int i, v => v = .int i
  | .str s, v => v = .str ⟨s.toArray⟩
  | .tup xs, v => ∃ a vs, v = .ref a ∧ SqT G.K H a vs ∧ VRs r H xs vs
  | .ref i, v => ∃ a, r[i]? = some a ∧ v = .ref a
def VRs (r : List Addr) (H : Hp) : List W → List V → Prop
  | [], vs => vs = []
  | x :: xs, vs => ∃ v t, vs = v :: t ∧ VR r H x v ∧ VRs r H xs t
end
def VRO (r : List Addr) (H : Hp) : Option W → Option V → Prop
  | none, _ => True
  | some w, o => ∃ v, o = some v ∧ VR G r H w v
/-- a key of a dict -/
def KR : W → Key → Prop
  | .int i, k => k = .inl i
  | .str s, k => k = .inr ⟨s.toArray⟩
  | _, _ => False
def KVR (r : List Addr) (H : Hp) : List (W × W) → List (Key × V) → Prop
  | [], l => l = []
  | (k, x) :: t, l => ∃ k' v t', l = (k', v) :: t' ∧ KR k k' ∧ VR G r H x v ∧ KVR r H t t'
def FR (r : List Addr) (H : Hp) : List (Str × W) → List (Str × V) → Prop
  | [], l => l = []
  | (k, x) :: t, l => ∃ v t', l = (k, v) :: t' ∧ VR G r H x v ∧ FR r H t t'
/-- a list that is only read -/
def Scr (H : Hp) (a : Addr) (vs : List V) : Prop := (∃ o, H a = some (.frz o (.lst vs))) ∨
  ∃ (o : Obj) (its : Array Value) (n : Nat), G.K.lookup a = some o ∧ o.cls = .type "list" ∧ o.dict = none ∧ o.data = .seq its n ∧ its.size ≤ sizeLine ∧ Vals vs its.toList
def CR (r : List Addr) (H : Hp) (a : Addr) : Cell → Prop
  | .lst xs => ∃ vs, H a = some (.lst vs) ∧ VRs G r H xs vs
  | .scr xs => ∃ vs, Scr G H a vs ∧ VRs G r H xs vs
  | .dic kvs => ∃ l, H a = some (.dK l) ∧ KVR G r H kvs l
  | .ins c fs => ∃ C dx l, G.mg c = some (.ref C) ∧ H a = some (.ins C dx l) ∧ FR G r H fs l
def Cell.mut : Cell → Bool
  | .scr _ => false
  | _ => true
structure Abs (r : List Addr) (S : Store) (H : Hp) : Prop where
  len : r.length = S.length
  at_ : ∀ (i : Nat) c a, S[i]? = some c → r[i]? = some a → CR G r H a c
  inj : ∀ (i j : Nat) c d a, S[i]? = some c → S[j]? = some d → r[i]? = some a → r[j]? = some a → c.mut = true → d.mut = true → i = j
structure Ext (r : List Addr) (H : Hp) (r' : List Addr) (H' : Hp) : Prop where
  pre : ∃ t, r' = r ++ t
  tup : ∀ a vs, SqT G.K H a vs → SqT G.K H' a vs
def SR (r : List Addr) (H : Hp) (m : Slots) (st : St) : Prop := m.length = st.length ∧ ∀ (i : Nat) w, m[i]? = some (some w) → ∃ v, st[i]? = some (some v) ∧ VR G r H w v
/-- an exception in the air -/
def XR (r : List Addr) (H : Hp) (x : Ex) (cls : Value) (d : Option Addr) : Prop := G.mg x.cls = some cls ∧
  match x.fld with
  | none => d = none
  | some (f, w) => ∃ q v, d = some q ∧ H q = some (.xd [(f, v)]) ∧ VR G r H w v
/-- what is to hold of an outcome -/
def Post {α β : Type} (R : List Addr → Hp → α → β → Prop) (r : List Addr) (H : Hp) (o : Out α) (Q : β → Hp → Prop) (E : XK) : Prop :=
  match o with
  | .ok a S' => ∀ r' H' b, Ext G r H r' H' → Abs G r' S' H' → R r' H' a b → Q b H'
  | .exc x S' => ∀ r' H' cls d, Ext G r H r' H' → Abs G r' S' H' → XR G r' H' x cls d → E cls d H'
  | .bad => False
end
section
variable {G : Gw} {r r' r2 : List Addr} {H H' H2 : Hp} {S S' : Store}
theorem Ext.refl : Ext G r H r H := ⟨⟨[], by simp⟩, fun _ _ h => h⟩
theorem Ext.trans (a : Ext G r H r' H') (b : Ext G r' H' r2 H2) : Ext G r H r2 H2 := by
  obtain ⟨t, e⟩ := a.pre
  obtain ⟨u, f⟩ := b.pre
  exact ⟨⟨t ++ u, by rw [f, e, List.append_assoc]⟩, fun q vs h => b.tup q vs (a.tup q vs h)⟩
theorem Ext.get (x : Ext G r H r' H') {i : Nat} {a : Addr} (h : r[i]? = some a) : r'[i]? = some a := by
  obtain ⟨t, e⟩ := x.pre
  rw [e, List.getElem?_append_left (List.getElem?_eq_some_iff.mp h).1]
  exact h
mutual
theorem VR.ext (x : Ext G r H r' H') : ∀ {w : W} {v : V}, VR G r H w v → VR G r' H' w v
  | .non, _, h => by unfold VR at h ⊢; exact h
  | .bl _, _, h => by unfold VR at h ⊢; exact h
  | .int _, _, h => by unfold VR at h ⊢; exact h
  | .str _, _, h => by unfold VR at h ⊢; exact h
  | .tup xs, _, h => by
    unfold VR at h ⊢
    obtain ⟨a, vs, e, q, t⟩ := h
    exact ⟨a, vs, e, x.tup _ _ q, VRs.ext x t⟩
  | .ref i, _, h => by
    unfold VR at h ⊢
    obtain ⟨a, e, q⟩ := h
    exact ⟨a, x.get e, q⟩
theorem VRs.ext (x : Ext G r H r' H') : ∀ {w : List W} {v : List V}, VRs G r H w v → VRs G r' H' w v
  | [], _, h => by unfold VRs at h ⊢; exact h
  | w :: ws, _, h => by
    unfold VRs at h ⊢
    obtain ⟨v, t, e, q, u⟩ := h
    exact ⟨v, t, e, VR.ext x q, VRs.ext x u⟩
end
theorem KVR.ext (x : Ext G r H r' H') : ∀ {w : List (W × W)} {v : List (Key × V)}, KVR G r H w v → KVR G r' H' w v
  | [], _, h => h
  | (k, w) :: ws, _, h => by
    obtain ⟨k', v, t, e, q, u, z⟩ := h
    exact ⟨k', v, t, e, q, u.ext x, KVR.ext x z⟩
theorem FR.ext (x : Ext G r H r' H') : ∀ {w : List (Str × W)} {v : List (Str × V)}, FR G r H w v → FR G r' H' w v
  | [], _, h => h
  | (k, w) :: ws, _, h => by
    obtain ⟨v, t, e, u, z⟩ := h
    exact ⟨v, t, e, u.ext x, FR.ext x z⟩
theorem SR.ext (x : Ext G r H r' H') {m : Slots} {st : St} (h : SR G r H m st) : SR G r' H' m st :=
  ⟨h.1, fun i w e => let ⟨v, a, b⟩ := h.2 i w e; ⟨v, a, b.ext x⟩⟩
theorem Post.ext {α β : Type} {R : List Addr → Hp → α → β → Prop} {o : Out α} {Q : β → Hp → Prop} {E : XK} (x : Ext G r H r' H') (p : Post G R r H o Q E) : Post G R r' H' o Q E := by
  cases o with
  | ok a S => exact fun r2 H2 b y A q => p r2 H2 b (x.trans y) A q
  | exc e S => exact fun r2 H2 c d y A q => p r2 H2 c d (x.trans y) A q
  | bad => exact p
theorem Post.mono {α β : Type} {R : List Addr → Hp → α → β → Prop} {o : Out α} {Q Q' : β → Hp → Prop} {E E' : XK} (p : Post G R r H o Q E) (h : ∀ b H, Q b H → Q' b H) (hE : ∀ c d H, E c d H → E' c d H) : Post G R r H o Q' E' := by
  cases o with
  | ok a S => exact fun r2 H2 b y A q => h _ _ (p r2 H2 b y A q)
  | exc e S => exact fun r2 H2 c d y A q => hE _ _ _ (p r2 H2 c d y A q)
  | bad => exact p
/-- what stands at hand behind a first part -/
def Mid {α β γ δ : Type} (G : Gw) (R : List Addr → Hp → α → β → Prop) (R' : List Addr → Hp → γ → δ → Prop) (r : List Addr) (H : Hp) (k : α → Store → Out γ) (Q : δ → Hp → Prop) (E : XK) (b : β) (H1 : Hp) : Prop :=
  ∃ r1 a S1, Ext G r H r1 H1 ∧ Abs G r1 S1 H1 ∧ R r1 H1 a b ∧ Post G R' r1 H1 (k a S1) Q E
theorem Post.bind {α β γ δ : Type} {R : List Addr → Hp → α → β → Prop} {R' : List Addr → Hp → γ → δ → Prop} {o : Out α} {k : α → Store → Out γ} {Q : δ → Hp → Prop} {E : XK} (p : Post G R' r H (o.bind k) Q E) :
    Post G R r H o (Mid G R R' r H k Q E) E := by
  cases o with
  | ok a S => exact fun r2 H2 b y A q => ⟨r2, a, S, y, A, q, Post.ext y p⟩
  | exc e S => exact p
  | bad => exact p
theorem Post.ok {α β : Type} {R : List Addr → Hp → α → β → Prop} {a : α} {Q : β → Hp → Prop} {E : XK} {b : β} (p : Post G R r H (.ok a S) Q E) (A : Abs G r S H) (q : R r H a b) : Q b H := p r H b .refl A q

/-! ### the store and the heap change together -/
theorem SqT.upd {K : PySem.W.Frag} {x a : Addr} {o : HO} {vs : List V} (hx : H x = none ∨ Mut (H x)) (h : SqT K H a vs) : SqT K (upd H x o) a vs := by
  rcases h with h | h
  · refine .inl ?_
    rcases h with h | ⟨ob, h⟩
    · refine .inl ?_
      rw [upd_ne]
      · exact h
      · rintro rfl
        rcases hx with e | e
        · rw [h] at e; cases e
        · rw [h] at e; exact e
    · refine .inr ⟨ob, ?_⟩
      rw [upd_ne]
      · exact h
      · rintro rfl
        rcases hx with e | e
        · rw [h] at e; cases e
        · rw [h] at e; exact e
  · exact .inr h
theorem Scr.upd {x a : Addr} {o : HO} {vs : List V} (hx : H x = none ∨ Mut (H x)) (h : Scr G H a vs) : Scr G (upd H x o) a vs := by
  rcases h with ⟨ob, h⟩ | h
  · refine .inl ⟨ob, ?_⟩
    rw [upd_ne]
    · exact h
    · rintro rfl
      rcases hx with e | e
      · rw [h] at e; cases e
      · rw [h] at e; exact e
  · exact .inr h
theorem Scr.seq {a : Addr} {vs : List V} (h : Scr G H a vs) : SqL G.K H a vs := by
  rcases h with ⟨ob, h⟩ | h
  · exact .inl (.inr ⟨ob, h⟩)
  · exact .inr h
theorem CR.ext (x : Ext G r H r' H') {a : Addr} {c : Cell} (h : CR G r H a c) (k : ∀ o, H a = some o → c.mut = true → H' a = some o) (ks : ∀ vs, Scr G H a vs → Scr G H' a vs) : CR G r' H' a c := by
  cases c with
  | lst xs => obtain ⟨vs, e, q⟩ := h; exact ⟨vs, k _ e rfl, q.ext x⟩
  | scr xs => obtain ⟨vs, e, q⟩ := h; exact ⟨vs, ks _ e, q.ext x⟩
  | dic kvs => obtain ⟨l, e, q⟩ := h; exact ⟨l, k _ e rfl, q.ext x⟩
  | ins c fs => obtain ⟨C, dx, l, g, e, q⟩ := h; exact ⟨C, dx, l, g, k _ e rfl, q.ext x⟩
theorem CR.some {a : Addr} {c : Cell} (h : CR G r H a c) (m : c.mut = true) : ∃ o, H a = some o ∧ Mut (some o) := by
  cases c with
  | lst xs => obtain ⟨vs, e, q⟩ := h; exact ⟨_, e, trivial⟩
  | scr xs => cases m
  | dic kvs => obtain ⟨l, e, q⟩ := h; exact ⟨_, e, trivial⟩
  | ins c fs => obtain ⟨C, dx, l, g, e, q⟩ := h; exact ⟨_, e, trivial⟩
/-- something new that the store does not hold: a tuple, an instance's own dict, an error's -/
theorem Ext.new {p : Addr} {o : HO} (hp : H p = none) : Ext G r H r (upd H p o) := ⟨⟨[], by simp⟩, fun _ _ h => SqT.upd (.inl hp) h⟩
theorem Abs.new {p : Addr} {o : HO} (A : Abs G r S H) (hp : H p = none) : Abs G r S (upd H p o) := by
  refine ⟨A.len, fun i c a e f => (A.at_ i c a e f).ext (Ext.new hp) (fun o' q m => ?_) fun vs q => q.upd (.inl hp), A.inj⟩
  rw [upd_ne (ne_of_none q hp)]
  exact q
theorem Ext.alloc {p : Addr} {o : HO} (hp : H p = none) : Ext G r H (r ++ [p]) (upd H p o) := ⟨⟨[p], rfl⟩, fun _ _ h => SqT.upd (.inl hp) h⟩
theorem Abs.alloc {p : Addr} {o : HO} {c : Cell} (A : Abs G r S H) (hp : H p = none) (hc : CR G (r ++ [p]) (upd H p o) p c) (m : c.mut = true) : Abs G (r ++ [p]) (S ++ [c]) (upd H p o) := by
  have len := A.len
  have split : ∀ {i : Nat} {d : Cell} {a : Addr}, (S ++ [c])[i]? = some d → (r ++ [p])[i]? = some a → (S[i]? = some d ∧ r[i]? = some a) ∨ (i = S.length ∧ d = c ∧ a = p) := fun {i d a} e f => by
    by_cases hi : i < S.length
    · rw [List.getElem?_append_left hi] at e
      rw [List.getElem?_append_left (by omega)] at f
      exact .inl ⟨e, f⟩
    · have hi' : i = S.length := by
        have := (List.getElem?_eq_some_iff.mp e).1
        rw [List.length_append, List.length_singleton] at this
        omega
      rw [List.getElem?_append_right (by omega)] at e
      rw [List.getElem?_append_right (by omega)] at f
      rw [show i - S.length = 0 by omega] at e
      rw [show i - r.length = 0 by omega] at f
      simp at e f
      exact .inr ⟨hi', e.symm, f.symm⟩
  refine ⟨by simp [len], fun i d a e f => ?_, fun i j d d' a e e' f f' md md' => ?_⟩
  · rcases split e f with ⟨e, f⟩ | ⟨_, h1, h2⟩
    · refine (A.at_ i d a e f).ext (Ext.alloc hp) (fun o' q m => ?_) fun vs q => q.upd (.inl hp)
      rw [upd_ne (ne_of_none q hp)]
      exact q
    · rw [h1, h2]
      exact hc
  · rcases split e f with ⟨e1, f1⟩ | ⟨hi, h1, h2⟩
    · rcases split e' f' with ⟨e2, f2⟩ | ⟨hj, h3, h4⟩
      · exact A.inj i j d d' a e1 e2 f1 f2 md md'
      · obtain ⟨o', q, _⟩ := (A.at_ i d _ e1 f1).some md
        rw [h4, hp] at q; cases q
    · rcases split e' f' with ⟨e2, f2⟩ | ⟨hj, h3, h4⟩
      · obtain ⟨o', q, _⟩ := (A.at_ j d' _ e2 f2).some md'
        rw [h2, hp] at q; cases q
      · omega
theorem Ext.write {a : Addr} {o : HO} (ha : Mut (H a)) : Ext G r H r (upd H a o) := ⟨⟨[], by simp⟩, fun _ _ h => SqT.upd (.inr ha) h⟩
theorem Abs.write {a : Addr} {o : HO} {c d : Cell} {i : Nat} (A : Abs G r S H) (hi : S[i]? = some d) (ha : r[i]? = some a) (md : d.mut = true) (hc : CR G r (upd H a o) a c) (mc : c.mut = true) : Abs G r (S.set i c) (upd H a o) := by
  obtain ⟨u, hu, mu⟩ := (A.at_ i d a hi ha).some md
  have mu' : Mut (H a) := by rw [hu]; exact mu
  have hl := (List.getElem?_eq_some_iff.mp hi).1
  have split : ∀ {j : Nat} {d' : Cell}, (S.set i c)[j]? = some d' → (j = i ∧ d' = c) ∨ (j ≠ i ∧ S[j]? = some d') := fun {j d'} e => by
    by_cases hj : j = i
    · subst hj
      rw [List.getElem?_set_self hl] at e
      exact .inl ⟨rfl, (Option.some.inj e).symm⟩
    · rw [List.getElem?_set_ne (Ne.symm hj)] at e
      exact .inr ⟨hj, e⟩
  refine ⟨by simp [A.len], fun j d' b e f => ?_, fun j k d1 d2 b e e' f f' m1 m2 => ?_⟩
  · rcases split e with ⟨rfl, rfl⟩ | ⟨hj, e⟩
    · rw [ha] at f; cases f
      exact hc
    · refine (A.at_ j d' b e f).ext (Ext.write mu') (fun o' q m => ?_) fun vs q => q.upd (.inr mu')
      rw [upd_ne]
      · exact q
      · rintro rfl
        exact hj (A.inj j i d' d b e hi f ha m md)
  · have g : ∀ {j : Nat} {d' : Cell}, (S.set i c)[j]? = some d' → d'.mut = true → ∃ d'', S[j]? = some d'' ∧ d''.mut = true := fun {j d'} e m => by
      rcases split e with ⟨rfl, rfl⟩ | ⟨hj, e⟩
      · exact ⟨d, hi, md⟩
      · exact ⟨d', e, m⟩
    obtain ⟨x1, h1, n1⟩ := g e m1
    obtain ⟨x2, h2, n2⟩ := g e' m2
    exact A.inj j k x1 x2 b h1 h2 f f' n1 n2
end
section
variable {G : Gw} {r : List Addr} {H : Hp}
theorem VRs.length : ∀ {ws : List W} {vs : List V}, VRs G r H ws vs → ws.length = vs.length
  | [], _, h => by unfold VRs at h; subst h; rfl
  | w :: ws, _, h => by
    unfold VRs at h
    obtain ⟨v, t, rfl, _, u⟩ := h
    simp [VRs.length u]
theorem VRs.nil : VRs G r H [] [] := by unfold VRs; rfl
theorem VRs.cons {w : W} {ws : List W} {v : V} {vs : List V} (a : VR G r H w v) (b : VRs G r H ws vs) : VRs G r H (w :: ws) (v :: vs) := by
  unfold VRs
  exact ⟨v, vs, rfl, a, b⟩
theorem VRs.append : ∀ {ws ws' : List W} {vs vs' : List V}, VRs G r H ws vs → VRs G r H ws' vs' → VRs G r H (ws ++ ws') (vs ++ vs')
  | [], _, _, _, h, h' => by unfold VRs at h; subst h; exact h'
  | w :: ws, _, _, _, h, h' => by
    unfold VRs at h
    obtain ⟨v, t, rfl, q, u⟩ := h
    exact VRs.cons q (VRs.append u h')
theorem VRs.get : ∀ {ws : List W} {vs : List V} {i : Nat} {w : W}, VRs G r H ws vs → ws[i]? = some w → ∃ v, vs[i]? = some v ∧ VR G r H w v
  | [], _, _, _, h, e => by simp at e
  | w :: ws, _, 0, _, h, e => by
    unfold VRs at h
    obtain ⟨v, t, rfl, q, u⟩ := h
    simp at e; subst e
    exact ⟨v, rfl, q⟩
  | w :: ws, _, i + 1, _, h, e => by
    unfold VRs at h
    obtain ⟨v, t, rfl, q, u⟩ := h
    obtain ⟨x, a, b⟩ := VRs.get (i := i) u (by simpa using e)
    exact ⟨x, by simpa using a, b⟩
theorem VRs.get' : ∀ {ws : List W} {vs : List V} {i : Nat} {v : V}, VRs G r H ws vs → vs[i]? = some v → ∃ w, ws[i]? = some w ∧ VR G r H w v := fun {ws vs i v} h e => by
  have hl := h.length
  have hi : i < ws.length := by rw [hl]; exact (List.getElem?_eq_some_iff.mp e).1
  obtain ⟨x, a, b⟩ := h.get (List.getElem?_eq_getElem hi)
  rw [e] at a; cases a
  exact ⟨_, List.getElem?_eq_getElem hi, b⟩
theorem VRs.take : ∀ {ws : List W} {vs : List V} (n : Nat), VRs G r H ws vs → VRs G r H (ws.take n) (vs.take n)
  | _, _, 0, _ => by simp only [List.take_zero]; exact VRs.nil
  | [], _, n + 1, h => by unfold VRs at h; subst h; exact VRs.nil
  | w :: ws, _, n + 1, h => by
    unfold VRs at h
    obtain ⟨v, t, rfl, q, u⟩ := h
    exact VRs.cons q (VRs.take n u)
theorem VRs.drop : ∀ {ws : List W} {vs : List V} (n : Nat), VRs G r H ws vs → VRs G r H (ws.drop n) (vs.drop n)
  | _, _, 0, h => h
  | [], _, n + 1, h => by unfold VRs at h; subst h; exact VRs.nil
  | w :: ws, _, n + 1, h => by
    unfold VRs at h
    obtain ⟨v, t, rfl, q, u⟩ := h
    exact VRs.drop n u
theorem VRs.set {w : W} {v : V} (q : VR G r H w v) : ∀ {ws : List W} {vs : List V} (n : Nat), VRs G r H ws vs → VRs G r H (ws.set n w) (vs.set n v)
  | [], _, _, h => by unfold VRs at h; subst h; exact VRs.nil
  | x :: ws, _, 0, h => by
    unfold VRs at h
    obtain ⟨y, t, rfl, p, u⟩ := h
    exact VRs.cons q u
  | x :: ws, _, n + 1, h => by
    unfold VRs at h
    obtain ⟨y, t, rfl, p, u⟩ := h
    exact VRs.cons p (VRs.set q n u)
theorem VRs.reverse : ∀ {ws : List W} {vs : List V}, VRs G r H ws vs → VRs G r H ws.reverse vs.reverse
  | [], _, h => by unfold VRs at h; subst h; exact VRs.nil
  | w :: ws, _, h => by
    unfold VRs at h
    obtain ⟨v, t, rfl, q, u⟩ := h
    rw [List.reverse_cons, List.reverse_cons]
    exact (VRs.reverse u).append (.cons q .nil)
theorem VRs.dropLast : ∀ {ws : List W} {vs : List V}, VRs G r H ws vs → VRs G r H ws.dropLast vs.dropLast := fun {ws vs} h => by
  rw [List.dropLast_eq_take, List.dropLast_eq_take, h.length]
  exact h.take _
theorem VR.int_ {i : Int} {v : V} (h : VR G r H (.int i) v) : v = .int i := by unfold VR at h; exact h
theorem VR.bl_ {i : Bool} {v : V} (h : VR G r H (.bl i) v) : v = .bl i := by unfold VR at h; exact h
theorem VR.non_ {v : V} (h : VR G r H .non v) : v = .non := by unfold VR at h; exact h
theorem VR.str_ {s : List Nat} {v : V} (h : VR G r H (.str s) v) : v = .str ⟨s.toArray⟩ := by unfold VR at h; exact h
theorem VR.tup_ {xs : List W} {v : V} (h : VR G r H (.tup xs) v) : ∃ a vs, v = .ref a ∧ SqT G.K H a vs ∧ VRs G r H xs vs := by unfold VR at h; exact h
theorem VR.ref_ {i : Nat} {v : V} (h : VR G r H (.ref i) v) : ∃ a, r[i]? = some a ∧ v = .ref a := by unfold VR at h; exact h
theorem VR.int {i : Int} : VR G r H (.int i) (.int i) := by unfold VR; rfl
theorem VR.bl {i : Bool} : VR G r H (.bl i) (.bl i) := by unfold VR; rfl
theorem VR.non : VR G r H .non .non := by unfold VR; rfl
theorem VR.str {s : List Nat} : VR G r H (.str s) (.str ⟨s.toArray⟩) := by unfold VR; rfl
theorem VR.strOf (s : Str) : VR G r H (.str s.cps.toList) (.str s) := by unfold VR; rfl
theorem VR.tup {xs : List W} {vs : List V} {a : Addr} (h : SqT G.K H a vs) (q : VRs G r H xs vs) : VR G r H (.tup xs) (.ref a) := by unfold VR; exact ⟨a, vs, rfl, h, q⟩
theorem VR.ref {i : Nat} {a : Addr} (h : r[i]? = some a) : VR G r H (.ref i) (.ref a) := by unfold VR; exact ⟨a, h, rfl⟩
end
end PD

namespace PD
open PySem PySem.Spec PyProof.Rows L2
/-- the line of sizes -/
abbrev SL : Nat := 16777216
theorem sl_eq : sizeLine = SL := sizeLine_eq

/-! ## operators on trees -/
def opAdd : W → W → Store → Out W
  | .int a, .int b, S => .ok (.int (a + b)) S
  | .str a, .str b, S => if a.length + b.length ≤ SL then .ok (.str (a ++ b)) S else .bad
  | .tup a, .tup b, S => if a.length + b.length ≤ SL then .ok (.tup (a ++ b)) S else .bad
  | .ref i, .ref j, S => match S[i]?, S[j]? with
    | some (.lst a), some (.lst b) => if a.length + b.length ≤ SL then .ok (.ref S.length) (S ++ [.lst (a ++ b)]) else .bad
    | _, _ => .bad
  | _, _, _ => .bad
def opSub : W → W → Store → Out W
  | .int a, .int b, S => .ok (.int (a - b)) S
  | _, _, _ => .bad
def opMul : W → W → Store → Out W
  | .int a, .int b, S => if (-(2 ^ 64) < a ∧ a < 2 ^ 64) ∨ (-(2 ^ 64) < b ∧ b < 2 ^ 64) then .ok (.int (a * b)) S else .bad
  | .str a, .int n, S => if n ≤ SL ∧ -SL ≤ n ∧ a.length * n.toNat ≤ SL then .ok (.str (List.replicate n.toNat a).flatten) S else .bad
  | .ref i, .int n, S => match S[i]? with
    | some (.lst a) => if n ≤ SL ∧ -SL ≤ n ∧ a.length * n.toNat ≤ SL then .ok (.ref S.length) (S ++ [.lst (List.replicate n.toNat a).flatten]) else .bad
    | _ => .bad
  | _, _, _ => .bad
def opFdiv : W → W → Store → Out W
  | .int a, .int b, S => if 0 < b ∧ b.natAbs < 2 ^ 256 then .ok (.int (a / b)) S else .bad
  | _, _, _ => .bad
def opMod : W → W → Store → Out W
  | .int a, .int b, S => if 0 < b then .ok (.int (a % b)) S else .bad
  | _, _, _ => .bad
def opPow : W → W → Store → Out W
  | .int a, .int b, S => if 0 ≤ b ∧ b ≤ 1000000 ∧ a.natAbs < 2 ^ 64 then .ok (.int (a ^ b.toNat)) S else .bad
  | _, _, _ => .bad
def unNeg : W → Store → Out W
  | .int a, S => .ok (.int (-a)) S
  | _, _ => .bad
def cmpI (p : Int → Int → Bool) : W → W → Store → Out W
  | .int a, .int b, S => .ok (.bl (p a b)) S
  | _, _, _ => .bad
def opLt : W → W → Store → Out W
  | .int a, .int b, S => .ok (.bl (decide (a < b))) S
  | .str a, .str b, S => .ok (.bl (decide (a < b))) S
  | _, _, _ => .bad
def opLe : W → W → Store → Out W
  | .int a, .int b, S => .ok (.bl (decide (a ≤ b))) S
  | .str a, .str b, S => .ok (.bl (!decide (b < a))) S
  | _, _, _ => .bad
def opGt : W → W → Store → Out W
  | .int a, .int b, S => .ok (.bl (decide (b < a))) S
  | _, _, _ => .bad
def opGe : W → W → Store → Out W
  | .int a, .int b, S => .ok (.bl (decide (b ≤ a))) S
  | .str a, .str b, S => .ok (.bl (!decide (a < b))) S
  | _, _, _ => .bad
/- data at any depth, as the library's == takes it -/
mutual
def dat (S : Store) : Nat → W → Option PyData
  | _, .non => some .none
  | _, .bl b => some (.bool b)
  | _, .int i => some (.int i)
  | _, .str s => some (.str ⟨s.toArray⟩)
  | n, .tup xs => (datL S n xs).map .tuple
  | 0, .ref _ => none
  | n + 1, .ref i => match S[i]? with
    | some (.lst xs) => (datL S n xs).map .list
    | some (.scr xs) => (datL S n xs).map .list
    | _ => none
def datL (S : Store) : Nat → List W → Option (List PyData)
  | _, [] => some []
  | n, x :: xs => (dat S n x).bind fun d => (datL S n xs).map fun ds => d :: ds
end
def opEq (a b : W) (S : Store) : Out W := match dat S 9 a, dat S 9 b with
  | some d, some e => if SeqAt.shaped d = true ∧ SeqAt.shaped e = true then .ok (.bl (PyData.eqv d e)) S else .bad
  | _, _ => .bad
def opNe (a b : W) (S : Store) : Out W := match dat S 9 a, dat S 9 b with
  | some d, some e => if SeqAt.shaped d = true ∧ SeqAt.shaped e = true then .ok (.bl (!PyData.eqv d e)) S else .bad
  | _, _ => .bad
def isNon : W → Bool
  | .non => true
  | _ => false
def opIs : W → W → Store → Out W
  | a, .non, S => .ok (.bl (isNon a)) S
  | .bl a, .bl b, S => .ok (.bl (decide (a = b))) S
  | _, _, _ => .bad
def opIsNot : W → W → Store → Out W
  | a, .non, S => .ok (.bl (!isNon a)) S
  | .bl a, .bl b, S => .ok (.bl (!decide (a = b))) S
  | _, _, _ => .bad
def flatW : W → Bool
  | .non => true
  | .bl _ => true
  | .int _ => true
  | .str _ => true
  | _ => false
def eqF : W → W → Bool
  | .non, .non => true
  | .bl a, .bl b => a == b
  | .bl a, .int b => (if a then 1 else 0) == b
  | .int a, .bl b => a == (if b then 1 else 0)
  | .int a, .int b => a == b
  | .str a, .str b => a == b
  | _, _ => false
def inF (x : W) (xs : List W) : Bool := xs.any fun y => eqF y x
/-- the items of what may be walked by its items -/
def itemsOf : W → Store → Option (List W)
  | .tup xs, _ => some xs
  | .ref i, S => match S[i]? with
    | some (.lst xs) => some xs
    | some (.scr xs) => some xs
    | _ => none
  | _, _ => none
def inW : W → W → Store → Option Bool
  | .str [c], .str s, _ => some (decide (c ∈ s))
  | .str a, .str s, _ => some (!(Builtin.Str.occurrences ⟨s.toArray⟩ ⟨a.toArray⟩ 0 (⟨s.toArray⟩ : Str).length 1).isEmpty)
  | x, c, S => match itemsOf c S with
    | some xs => if flatW x && xs.all flatW then some (inF x xs) else none
    | none => none
def opIn (x c : W) (S : Store) : Out W := match inW x c S with
  | some b => .ok (.bl b) S
  | none => .bad
def opNotIn (x c : W) (S : Store) : Out W := match inW x c S with
  | some b => .ok (.bl (!b)) S
  | none => .bad

/-! ## what an operator's rule is -/
abbrev gw (X : Cx) : Gw := ⟨X.K, X.mg⟩
def rOp (G : Gw) (op : W → W → Store → Out W) (E : XK) : R2 := fun x y H Q => ∃ r S a b, Abs G r S H ∧ VR G r H a x ∧ VR G r H b y ∧ Post G (VR G) r H (op a b S) Q E
def OpS (X : Cx) (f : Value → Value → Sem Value) (op : W → W → Store → Out W) : Prop := ∀ E, OpR X f (rOp (gw X) op E)
section
variable {G : Gw} {r : List Addr} {S : Store} {H : Hp} {Q : VK} {E : XK}
theorem post_tup {xs : List W} {vs : List V} (A : Abs G r S H) (q : VRs G r H xs vs) (p : Post G (VR G) r H (.ok (.tup xs) S) Q E) : ∀ a, H a = none → Q (.ref a) (upd H a (.tup vs)) := fun a ha =>
  p r _ _ (Ext.new ha) (A.new ha) (.tup (SqT.of upd_same) (q.ext (Ext.new ha)))
theorem post_lst {xs : List W} {vs : List V} (A : Abs G r S H) (q : VRs G r H xs vs) (p : Post G (VR G) r H (.ok (.ref S.length) (S ++ [.lst xs])) Q E) : ∀ a, H a = none → Q (.ref a) (upd H a (.lst vs)) := fun a ha =>
  p (r ++ [a]) _ _ (Ext.alloc ha) (A.alloc ha ⟨vs, upd_same, q.ext (Ext.alloc ha)⟩ rfl) (.ref (by rw [← A.len]; simp))
theorem Abs.lst {i : Nat} {a : Addr} {xs : List W} (A : Abs G r S H) (hi : S[i]? = some (.lst xs)) (ha : r[i]? = some a) : ∃ vs, H a = some (.lst vs) ∧ VRs G r H xs vs := A.at_ i _ a hi ha
theorem Abs.scr {i : Nat} {a : Addr} {xs : List W} (A : Abs G r S H) (hi : S[i]? = some (.scr xs)) (ha : r[i]? = some a) : ∃ vs, Scr G H a vs ∧ VRs G r H xs vs := A.at_ i _ a hi ha
theorem Abs.dic {i : Nat} {a : Addr} {xs : List (W × W)} (A : Abs G r S H) (hi : S[i]? = some (.dic xs)) (ha : r[i]? = some a) : ∃ l, H a = some (.dK l) ∧ KVR G r H xs l := A.at_ i _ a hi ha
theorem Abs.ins {i : Nat} {a : Addr} {c : Str} {fs : List (Str × W)} (A : Abs G r S H) (hi : S[i]? = some (.ins c fs)) (ha : r[i]? = some a) : ∃ C dx l, G.mg c = some (.ref C) ∧ H a = some (.ins C dx l) ∧ FR G r H fs l := A.at_ i _ a hi ha
end
section
variable {X : Cx} {G : Gw} {r : List Addr} {S : Store} {H : Hp} {Q : VK} {E : XK}
theorem str_len {s : List Nat} : (⟨s.toArray⟩ : Str).length = s.length := by simp [Str.length]
theorem str_app {a b : List Nat} : (⟨a.toArray⟩ : Str) ++ ⟨b.toArray⟩ = ⟨(a ++ b).toArray⟩ := by
  show Str.append _ _ = _
  simp [Str.append]
theorem ops_add : OpS X (binaryOp .Add) opAdd := by
  intro E pins s st H x y v u Q I rx ry h
  obtain ⟨r, S, a, b, A, ra, rb, p⟩ := h
  cases a with
  | int i =>
    cases b with
    | int j => exact op_add pins s st H x y v u Q I rx ry ⟨i, j, ra.int_, rb.int_, p.ok A .int⟩
    | _ => exact p.elim
  | str i =>
    cases b with
    | str j =>
      simp only [opAdd] at p
      split at p
      · rename_i hl
        refine op_add_str pins s st H x y v u Q I rx ry ⟨_, _, ra.str_, rb.str_, by rw [str_len, str_len, sl_eq]; exact hl, ?_⟩
        rw [str_app]
        exact p.ok A .str
      · exact p.elim
    | _ => exact p.elim
  | tup i =>
    cases b with
    | tup j =>
      obtain ⟨a, vs, e1, q1, t1⟩ := ra.tup_
      obtain ⟨b, us, e2, q2, t2⟩ := rb.tup_
      simp only [opAdd] at p
      split at p
      · rename_i hl
        refine op_catA pins s st H x y v u Q I rx ry ⟨a, b, vs, us, e1, e2, q1, q2, by rw [← t1.length, ← t2.length, sl_eq]; exact hl, fun hn => ?_, fun _ hn => ?_, fun _ _ => post_tup A (t1.append t2) p⟩
        · subst hn
          have : i = [] := by have := t1.length; simpa using this
          subst this
          exact p.ok A (.tup q2 t2)
        · subst hn
          have : j = [] := by have := t2.length; simpa using this
          subst this
          rw [List.append_nil] at p
          exact p.ok A (.tup q1 t1)
      · exact p.elim
    | _ => exact p.elim
  | ref i =>
    cases b with
    | ref j =>
      obtain ⟨a, e1, e2⟩ := ra.ref_
      obtain ⟨b, e3, e4⟩ := rb.ref_
      simp only [opAdd] at p
      split at p
      · rename_i xs ys h1 h2
        obtain ⟨vs, q1, t1⟩ := A.lst h1 e1
        obtain ⟨us, q2, t2⟩ := A.lst h2 e3
        split at p
        · rename_i hl
          exact op_cat pins s st H x y v u Q I rx ry ⟨a, b, vs, us, e2, e4, q1, q2, by rw [← t1.length, ← t2.length, sl_eq]; exact hl, post_lst A (t1.append t2) p⟩
        · exact p.elim
      · exact p.elim
    | _ => exact p.elim
  | _ => exact p.elim
theorem ops_sub : OpS X (binaryOp .Sub) opSub := by
  intro E pins s st H x y v u Q I rx ry h
  obtain ⟨r, S, a, b, A, ra, rb, p⟩ := h
  cases a with
  | int i =>
    cases b with
    | int j => exact op_sub pins s st H x y v u Q I rx ry ⟨i, j, ra.int_, rb.int_, p.ok A .int⟩
    | _ => exact p.elim
  | _ => exact p.elim
theorem flat_rep (a : List Nat) : ∀ n acc, (List.replicate n a.toArray).foldl (· ++ ·) acc = acc ++ ((List.replicate n a).flatten).toArray
  | 0, acc => by simp
  | n + 1, acc => by
    rw [List.replicate_succ, List.foldl_cons, flat_rep a n, List.replicate_succ, List.flatten_cons]
    simp
theorem VRs.rep {xs : List W} {vs : List V} (q : VRs G r H xs vs) : ∀ n, VRs G r H (List.replicate n xs).flatten (List.replicate n vs).flatten
  | 0 => .nil
  | n + 1 => by
    rw [List.replicate_succ, List.replicate_succ, List.flatten_cons, List.flatten_cons]
    exact q.append (VRs.rep q n)
theorem ops_mul : OpS X (binaryOp .Mult) opMul := by
  intro E pins s st H x y v u Q I rx ry h
  obtain ⟨r, S, a, b, A, ra, rb, p⟩ := h
  cases a with
  | int i =>
    cases b with
    | int j =>
      simp only [opMul] at p
      split at p
      · rename_i hl
        exact op_mul pins s st H x y v u Q I rx ry ⟨i, j, ra.int_, rb.int_, hl, p.ok A .int⟩
      · exact p.elim
    | _ => exact p.elim
  | str i =>
    cases b with
    | int n =>
      simp only [opMul] at p
      split at p
      · rename_i hl
        obtain ⟨h1, h2, h3⟩ := hl
        have e1 := ra.str_
        have e2 := rb.int_
        subst e1; subst e2
        obtain ⟨t, rfl⟩ := rx
        obtain ⟨t', rfl⟩ := ry
        have sl : (SL : Int) = 16777216 := rfl
        have q : Q (.str ⟨((List.replicate n.toNat i).flatten).toArray⟩) H := p.ok A .str
        by_cases hn : n < 1
        · have e0 : n.toNat = 0 := by omega
          rw [e0] at q
          exact P.mul_str_none hn (by omega) ⟨.str Str.empty, H, I.tok _, ⟨_, rfl⟩, q⟩
        · refine P.mul_str (by rw [decide_eq_false (by omega), decide_eq_false (by omega)]; rfl) (fun _ hz => ?_) (fun _ hz => ?_) ?_
          · rw [str_len]
            have h4 : (i.length : Int) * n ≤ 16777216 := by
              have h5 : ((i.length * n.toNat : Nat) : Int) ≤ 16777216 := by omega
              rw [Int.natCast_mul, Int.toNat_of_nonneg (by omega)] at h5
              exact h5
            have h6 : (2 ^ 63 - 1 : Int) / n ≥ (i.length : Int) := by
              refine (Int.le_ediv_iff_mul_le (by omega)).mpr ?_
              omega
            omega
          · rw [str_len]
            show decide (i.length * n.toNat > sizeLine) = false
            rw [sl_eq]
            exact decide_eq_false (by omega)
          · rw [if_neg hn]
            by_cases hz : (n == 1 || (⟨i.toArray⟩ : Str).length == 0) = true
            · rw [if_pos hz]
              refine ⟨.str ⟨i.toArray⟩, H, I, ⟨_, rfl⟩, ?_⟩
              rw [str_len, Bool.or_eq_true] at hz
              rcases hz with hz | hz
              · have : n.toNat = 1 := by have := eq_of_beq hz; omega
                rw [this] at q
                simpa using q
              · have : i = [] := by have := eq_of_beq hz; exact List.length_eq_zero_iff.mp this
                subst this
                have e0 : (List.replicate n.toNat ([] : List Nat)).flatten = [] := by simp
                rw [e0] at q
                exact q
            · rw [if_neg hz]
              refine ⟨?_, .str _, H, I.tok _, ⟨_, rfl⟩, ?_⟩
              · show Array.size _ ≤ sizeLine
                rw [show (fun x1 x2 => x1 ++ x2 : Array Nat → Array Nat → Array Nat) = (· ++ ·) from rfl, flat_rep, sl_eq]
                simp
                rw [Nat.mul_comm]
                exact h3
              · rw [show (⟨i.toArray⟩ : Str).cps = i.toArray from rfl, flat_rep]
                simpa using q
      · exact p.elim
    | _ => exact p.elim
  | ref i =>
    cases b with
    | int n =>
      obtain ⟨a, e1, e2⟩ := ra.ref_
      simp only [opMul] at p
      split at p
      · rename_i xs h1
        obtain ⟨vs, q1, t1⟩ := A.lst h1 e1
        split at p
        · rename_i hl
          obtain ⟨h2, h3, h4⟩ := hl
          have sl : (SL : Int) = 16777216 := rfl
          exact op_rep pins s st H x y v u Q I rx ry ⟨a, n, vs, e2, rb.int_, q1, by omega, by omega, by rw [← t1.length, sl_eq]; exact h4, post_lst A (t1.rep _) p⟩
        · exact p.elim
      · exact p.elim
    | _ => exact p.elim
  | _ => exact p.elim
theorem ops_fdiv : OpS X (binaryOp .FloorDiv) opFdiv := by
  intro E pins s st H x y v u Q I rx ry h
  obtain ⟨r, S, a, b, A, ra, rb, p⟩ := h
  cases a with
  | int i =>
    cases b with
    | int j =>
      simp only [opFdiv] at p
      split at p
      · rename_i hl
        exact op_fdivW pins s st H x y v u Q I rx ry ⟨i, j, ra.int_, rb.int_, wide_div hl.1 hl.2 (by decide) (by decide), p.ok A .int⟩
      · exact p.elim
    | _ => exact p.elim
  | _ => exact p.elim
theorem ops_mod : OpS X (binaryOp .Mod) opMod := by
  intro E pins s st H x y v u Q I rx ry h
  obtain ⟨r, S, a, b, A, ra, rb, p⟩ := h
  cases a with
  | int i =>
    cases b with
    | int j =>
      simp only [opMod] at p
      split at p
      · rename_i hl
        exact op_mod pins s st H x y v u Q I rx ry ⟨i, j, ra.int_, rb.int_, hl, p.ok A .int⟩
      · exact p.elim
    | _ => exact p.elim
  | _ => exact p.elim
theorem ops_pow : OpS X (binaryOp .Pow) opPow := by
  intro E pins s st H x y v u Q I rx ry h
  obtain ⟨r, S, a, b, A, ra, rb, p⟩ := h
  cases a with
  | int i =>
    cases b with
    | int j =>
      simp only [opPow] at p
      split at p
      · rename_i hl
        exact op_pow pins s st H x y v u Q I rx ry ⟨i, j, ra.int_, rb.int_, hl, p.ok A .int⟩
      · exact p.elim
    | _ => exact p.elim
  | _ => exact p.elim
theorem ops_lt : OpS X (compareOp .Lt) opLt := by
  intro E pins s st H x y v u Q I rx ry h
  obtain ⟨r, S, a, b, A, ra, rb, p⟩ := h
  cases a with
  | int i =>
    cases b with
    | int j => exact op_lt pins s st H x y v u Q I rx ry ⟨i, j, ra.int_, rb.int_, p.ok A .bl⟩
    | _ => exact p.elim
  | str i =>
    cases b with
    | str j => exact op_lt_str pins s st H x y v u Q I rx ry ⟨_, _, ra.str_, rb.str_, p.ok A .bl⟩
    | _ => exact p.elim
  | _ => exact p.elim
theorem ops_le : OpS X (compareOp .LtE) opLe := by
  intro E pins s st H x y v u Q I rx ry h
  obtain ⟨r, S, a, b, A, ra, rb, p⟩ := h
  cases a with
  | int i =>
    cases b with
    | int j => exact op_le pins s st H x y v u Q I rx ry ⟨i, j, ra.int_, rb.int_, p.ok A .bl⟩
    | _ => exact p.elim
  | str i =>
    cases b with
    | str j => exact op_le_str pins s st H x y v u Q I rx ry ⟨_, _, ra.str_, rb.str_, p.ok A .bl⟩
    | _ => exact p.elim
  | _ => exact p.elim
theorem ops_gt : OpS X (compareOp .Gt) opGt := by
  intro E pins s st H x y v u Q I rx ry h
  obtain ⟨r, S, a, b, A, ra, rb, p⟩ := h
  cases a with
  | int i =>
    cases b with
    | int j => exact op_gt pins s st H x y v u Q I rx ry ⟨i, j, ra.int_, rb.int_, p.ok A .bl⟩
    | _ => exact p.elim
  | _ => exact p.elim
theorem ops_ge : OpS X (compareOp .GtE) opGe := by
  intro E pins s st H x y v u Q I rx ry h
  obtain ⟨r, S, a, b, A, ra, rb, p⟩ := h
  cases a with
  | int i =>
    cases b with
    | int j => exact op_ge pins s st H x y v u Q I rx ry ⟨i, j, ra.int_, rb.int_, p.ok A .bl⟩
    | _ => exact p.elim
  | str i =>
    cases b with
    | str j => exact op_ge_str pins s st H x y v u Q I rx ry ⟨_, _, ra.str_, rb.str_, p.ok A .bl⟩
    | _ => exact p.elim
  | _ => exact p.elim
mutual
theorem dat_dp (A : Abs G r S H) : ∀ (n : Nat) (w : W) (d : PyData) (v : V), dat S n w = some d → VR G r H w v → Dp G.K H v d
  | n, .non, d, v, e, q => by
    have z := q.non_
    subst z
    simp only [dat] at e; cases e; exact .non
  | n, .bl b, d, v, e, q => by
    have z := q.bl_
    subst z
    simp only [dat] at e; cases e; exact .bl b
  | n, .int i, d, v, e, q => by
    have z := q.int_
    subst z
    simp only [dat] at e; cases e; exact .int i
  | n, .str s, d, v, e, q => by
    have z := q.str_
    subst z
    simp only [dat] at e; cases e; exact .str _
  | n, .tup xs, d, v, e, q => by
    obtain ⟨a, vs, rfl, h1, h2⟩ := q.tup_
    simp only [dat] at e
    obtain ⟨ds, e1, rfl⟩ := Option.map_eq_some_iff.mp e
    exact .tup h1 (dat_dpL A n xs ds vs e1 h2)
  | 0, .ref i, d, v, e, q => by simp only [dat] at e; cases e
  | n + 1, .ref i, d, v, e, q => by
    obtain ⟨a, h1, rfl⟩ := q.ref_
    simp only [dat] at e
    split at e
    · rename_i xs hx
      obtain ⟨ds, e1, rfl⟩ := Option.map_eq_some_iff.mp e
      obtain ⟨vs, h2, h3⟩ := A.lst hx h1
      exact .lst (SqL.of h2) (dat_dpL A n xs ds vs e1 h3)
    · rename_i xs hx
      obtain ⟨ds, e1, rfl⟩ := Option.map_eq_some_iff.mp e
      obtain ⟨vs, h2, h3⟩ := A.scr hx h1
      exact .lst h2.seq (dat_dpL A n xs ds vs e1 h3)
    · cases e
theorem dat_dpL (A : Abs G r S H) : ∀ (n : Nat) (w : List W) (d : List PyData) (v : List V), datL S n w = some d → VRs G r H w v → DpAll G.K H v d
  | n, [], d, v, e, q => by
    unfold VRs at q
    subst q
    simp only [datL] at e; cases e; exact .nil
  | n, x :: xs, d, v, e, q => by
    unfold VRs at q
    obtain ⟨y, t, rfl, h1, h2⟩ := q
    simp only [datL] at e
    obtain ⟨d1, e1, e2⟩ := Option.bind_eq_some_iff.mp e
    obtain ⟨ds, e3, rfl⟩ := Option.map_eq_some_iff.mp e2
    exact .cons (dat_dp A n x d1 y e1 h1) (dat_dpL A n xs ds t e3 h2)
end
theorem ops_eq (hu : X.A.units + 64 < cLine) : OpS X (compareOp .Eq) opEq := by
  intro E pins s st H x y v u Q I rx ry h
  obtain ⟨r, S, a, b, A, ra, rb, p⟩ := h
  unfold opEq at p
  split at p
  · rename_i d e h1 h2
    split at p
    · rename_i hs
      exact op_eqD hu pins s st H x y v u Q I rx ry ⟨d, e, dat_dp A _ _ _ _ h1 ra, dat_dp A _ _ _ _ h2 rb, hs.1, hs.2, p.ok A .bl⟩
    · exact p.elim
  · exact p.elim
theorem ops_ne (hu : X.A.units + 64 < cLine) : OpS X (compareOp .NotEq) opNe := by
  intro E pins s st H x y v u Q I rx ry h
  obtain ⟨r, S, a, b, A, ra, rb, p⟩ := h
  unfold opNe at p
  split at p
  · rename_i d e h1 h2
    split at p
    · rename_i hs
      exact op_neD hu pins s st H x y v u Q I rx ry ⟨d, e, dat_dp A _ _ _ _ h1 ra, dat_dp A _ _ _ _ h2 rb, hs.1, hs.2, p.ok A .bl⟩
    · exact p.elim
  · exact p.elim
theorem non_iff {w : W} {v : V} (q : VR G r H w v) : decide (v = .non) = isNon w := by
  cases w with
  | non => have z := q.non_; subst z; rfl
  | bl b => have z := q.bl_; subst z; rfl
  | int i => have z := q.int_; subst z; rfl
  | str i => have z := q.str_; subst z; rfl
  | tup i => obtain ⟨a, vs, rfl, _⟩ := q.tup_; rfl
  | ref i => obtain ⟨a, _, rfl⟩ := q.ref_; rfl
theorem ops_is : OpS X (compareOp .Is) opIs := by
  intro E pins s st H x y v u Q I rx ry h
  obtain ⟨r, S, a, b, A, ra, rb, p⟩ := h
  cases b with
  | non =>
    refine op_isN pins s st H x y v u Q I rx ry ⟨rb.non_, ?_⟩
    rw [non_iff ra]
    have p' : Post (gw X) (VR (gw X)) r H (.ok (.bl (isNon a)) S) Q E := by cases a <;> exact p
    exact p'.ok A .bl
  | bl j =>
    cases a with
    | bl i => exact op_isBl pins s st H x y v u Q I rx ry ⟨i, j, ra.bl_, rb.bl_, p.ok A .bl⟩
    | _ => exact p.elim
  | _ => cases a <;> exact p.elim
theorem ops_isnot : OpS X (compareOp .IsNot) opIsNot := by
  intro E pins s st H x y v u Q I rx ry h
  obtain ⟨r, S, a, b, A, ra, rb, p⟩ := h
  cases b with
  | non =>
    refine op_notN pins s st H x y v u Q I rx ry ⟨rb.non_, ?_⟩
    rw [non_iff ra]
    have p' : Post (gw X) (VR (gw X)) r H (.ok (.bl (!isNon a)) S) Q E := by cases a <;> exact p
    exact p'.ok A .bl
  | bl j =>
    cases a with
    | bl i => exact op_notBl pins s st H x y v u Q I rx ry ⟨i, j, ra.bl_, rb.bl_, p.ok A .bl⟩
    | _ => exact p.elim
  | _ => cases a <;> exact p.elim
theorem flat_of {w : W} {v : V} (q : VR G r H w v) : flatV v = flatW w := by
  cases w with
  | non => have z := q.non_; subst z; rfl
  | bl b => have z := q.bl_; subst z; rfl
  | int i => have z := q.int_; subst z; rfl
  | str i => have z := q.str_; subst z; rfl
  | tup i => obtain ⟨a, vs, rfl, _⟩ := q.tup_; rfl
  | ref i => obtain ⟨a, _, rfl⟩ := q.ref_; rfl
theorem flats_of : ∀ {w : List W} {v : List V}, VRs G r H w v → v.all flatV = w.all flatW
  | [], _, q => by unfold VRs at q; subst q; rfl
  | x :: xs, _, q => by
    unfold VRs at q
    obtain ⟨y, t, rfl, h1, h2⟩ := q
    rw [List.all_cons, List.all_cons, flat_of h1, flats_of h2]
theorem strEq (a b : List Nat) : ((⟨a.toArray⟩ : Str) == ⟨b.toArray⟩) = (a == b) := by
  rw [Bool.eq_iff_iff, beq_iff_eq, beq_iff_eq]
  simp
theorem eqV_of {w z : W} {v y : V} (q : VR G r H w v) (p : VR G r H z y) (hw : flatW w = true) (hz : flatW z = true) : eqV v y = eqF w z := by
  cases w with
  | non =>
    have e := q.non_; subst e
    cases z with
    | non => have e := p.non_; subst e; rfl
    | bl b => have e := p.bl_; subst e; rfl
    | int i => have e := p.int_; subst e; rfl
    | str i => have e := p.str_; subst e; rfl
    | _ => cases hz
  | bl b =>
    have e := q.bl_; subst e
    cases z with
    | non => have e := p.non_; subst e; rfl
    | bl b => have e := p.bl_; subst e; rfl
    | int i => have e := p.int_; subst e; rfl
    | str i => have e := p.str_; subst e; rfl
    | _ => cases hz
  | int i =>
    have e := q.int_; subst e
    cases z with
    | non => have e := p.non_; subst e; rfl
    | bl b => have e := p.bl_; subst e; rfl
    | int i => have e := p.int_; subst e; rfl
    | str i => have e := p.str_; subst e; rfl
    | _ => cases hz
  | str i =>
    have e := q.str_; subst e
    cases z with
    | non => have e := p.non_; subst e; rfl
    | bl b => have e := p.bl_; subst e; rfl
    | int i => have e := p.int_; subst e; rfl
    | str i => have e := p.str_; subst e; exact strEq _ _
    | _ => cases hz
  | _ => cases hw
theorem inV_of {w : W} {v : V} (q : VR G r H w v) (hw : flatW w = true) : ∀ {zs : List W} {ys : List V}, VRs G r H zs ys → zs.all flatW = true → inV v ys = inF w zs
  | [], _, p, _ => by unfold VRs at p; subst p; rfl
  | z :: zs, _, p, h => by
    unfold VRs at p
    obtain ⟨y, t, rfl, h1, h2⟩ := p
    rw [List.all_cons, Bool.and_eq_true] at h
    show (eqV y v || inV v t) = (eqF z w || inF w zs)
    rw [eqV_of h1 q h.1 hw, inV_of q hw h2 h.2]
theorem items_of {w : W} {v : V} {xs : List W} (A : Abs G r S H) (q : VR G r H w v) (e : itemsOf w S = some xs) : ∃ a vs, v = .ref a ∧ (SqL G.K H a vs ∨ SqT G.K H a vs) ∧ VRs G r H xs vs := by
  cases w with
  | tup ys =>
    have e' : ys = xs := Option.some.inj e
    subst e'
    obtain ⟨a, vs, rfl, h1, h2⟩ := q.tup_
    exact ⟨a, vs, rfl, .inr h1, h2⟩
  | ref i =>
    obtain ⟨a, h1, rfl⟩ := q.ref_
    simp only [itemsOf] at e
    split at e
    · rename_i ys hy
      cases e
      obtain ⟨vs, h2, h3⟩ := A.lst hy h1
      exact ⟨a, vs, rfl, .inl (SqL.of h2), h3⟩
    · rename_i ys hy
      cases e
      obtain ⟨vs, h2, h3⟩ := A.scr hy h1
      exact ⟨a, vs, rfl, .inl h2.seq, h3⟩
    · cases e
  | _ => cases e
def notC : CmpOp → Bool
  | .NotIn => true
  | _ => false
theorem inW_seq {x c : W} (hx : ∀ a s, x = .str a → c ≠ .str s) : inW x c S = (match itemsOf c S with
    | some xs => if flatW x && xs.all flatW then some (inF x xs) else none
    | none => none) := by
  cases x with
  | str a =>
    cases c with
    | str s => exact absurd rfl (hx a s rfl)
    | _ => cases a with
      | nil => rfl
      | cons b l => cases l <;> rfl
  | _ => cases c <;> rfl
theorem ops_in : OpS X (compareOp .In) opIn := by
  intro E pins s st H x y v u Q I rx ry h
  obtain ⟨r, S, a, b, A, ra, rb, p⟩ := h
  by_cases hs : ∃ i j, a = .str i ∧ b = .str j
  · obtain ⟨i, j, rfl, rfl⟩ := hs
    match i, ra, p with
    | [], ra, p => exact op_in_str pins s st H x y v u Q I rx ry ⟨_, _, ra.str_, rb.str_, p.ok A .bl⟩
    | [c], ra, p => exact op_in_sign pins s st H x y v u Q I rx ry ⟨c, _, ra.str_, rb.str_, p.ok A .bl⟩
    | c :: d :: i, ra, p => exact op_in_str pins s st H x y v u Q I rx ry ⟨_, _, ra.str_, rb.str_, p.ok A .bl⟩
  · unfold opIn at p
    rw [inW_seq (fun i j h1 h2 => hs ⟨i, j, h1, h2⟩)] at p
    cases e : itemsOf b S with
    | none => rw [e] at p; exact p.elim
    | some xs =>
      rw [e] at p
      dsimp only at p
      by_cases hf : (flatW a && xs.all flatW) = true
      · rw [if_pos hf] at p
        rw [Bool.and_eq_true] at hf
        obtain ⟨q, vs, e1, h1, h2⟩ := items_of A rb e
        refine op_in_seq pins s st H x y v u Q I rx ry ⟨q, vs, e1, h1, by rw [flat_of ra]; exact hf.1, by rw [flats_of h2]; exact hf.2, ?_⟩
        rw [if_neg Bool.false_ne_true, inV_of ra hf.1 h2 hf.2]
        exact p.ok A .bl
      · rw [if_neg hf] at p
        exact p.elim
theorem ops_notin : OpS X (compareOp .NotIn) opNotIn := by
  intro E pins s st H x y v u Q I rx ry h
  obtain ⟨r, S, a, b, A, ra, rb, p⟩ := h
  by_cases hs : ∃ i j, a = .str i ∧ b = .str j
  · obtain ⟨i, j, rfl, rfl⟩ := hs
    match i, ra, p with
    | [], ra, p => exact op_notIn_str pins s st H x y v u Q I rx ry ⟨_, _, ra.str_, rb.str_, p.ok A .bl⟩
    | [c], ra, p => exact op_notIn_sign pins s st H x y v u Q I rx ry ⟨c, _, ra.str_, rb.str_, p.ok A .bl⟩
    | c :: d :: i, ra, p => exact op_notIn_str pins s st H x y v u Q I rx ry ⟨_, _, ra.str_, rb.str_, p.ok A .bl⟩
  · unfold opNotIn at p
    rw [inW_seq (fun i j h1 h2 => hs ⟨i, j, h1, h2⟩)] at p
    cases e : itemsOf b S with
    | none => rw [e] at p; exact p.elim
    | some xs =>
      rw [e] at p
      dsimp only at p
      by_cases hf : (flatW a && xs.all flatW) = true
      · rw [if_pos hf] at p
        rw [Bool.and_eq_true] at hf
        obtain ⟨q, vs, e1, h1, h2⟩ := items_of A rb e
        refine op_notIn_seq pins s st H x y v u Q I rx ry ⟨q, vs, e1, h1, by rw [flat_of ra]; exact hf.1, by rw [flats_of h2]; exact hf.2, ?_⟩
        rw [if_pos rfl, inV_of ra hf.1 h2 hf.2]
        exact p.ok A .bl
      · rw [if_neg hf] at p
        exact p.elim
end
end PD

namespace PD
open PySem PySem.Spec PyProof.Rows L2
/-! ## subscripts -/
def cutW {α : Type} (xs : List α) (lo hi : Option Int) : List α := (xs.drop (HT.sIx xs.length 0 lo)).take (HT.sIx xs.length xs.length hi - HT.sIx xs.length 0 lo)
def keyOf : W → Option Key
  | .int i => some (.inl i)
  | .str s => some (.inr ⟨s.toArray⟩)
  | _ => none
def eqK : W → W → Bool
  | .int a, .int b => a == b
  | .str a, .str b => a == b
  | _, _ => false
def getK (kvs : List (W × W)) (k : W) : Option W := (kvs.find? fun p => eqK p.1 k).map (·.2)
def ixW : W → W → Store → Out W
  | .tup xs, .int i, S => match atI xs i with
    | some w => .ok w S
    | none => .bad
  | .str s, .int i, S => if s.length ≤ SL then (match atI s i with
    | some c => .ok (.str [c]) S
    | none => .bad) else .bad
  | .ref p, k, S => match S[p]?, k with
    | some (.lst xs), .int i => (match atI xs i with
      | some w => .ok w S
      | none => .bad)
    | some (.scr xs), .int i => (match atI xs i with
      | some w => .ok w S
      | none => .bad)
    | _, _ => .bad
  | _, _, _ => .bad
def slW : W → Option Int → Option Int → Store → Out W
  | .tup xs, lo, hi, S => .ok (.tup (cutW xs lo hi)) S
  | .str s, lo, hi, S => if s.length ≤ SL then .ok (.str (cutW s lo hi)) S else .bad
  | .ref p, lo, hi, S => match S[p]? with
    | some (.lst xs) => .ok (.ref S.length) (S ++ [.lst (cutW xs lo hi)])
    | some (.scr xs) => .ok (.ref S.length) (S ++ [.lst (cutW xs lo hi)])
    | _ => .bad
  | _, _, _, _ => .bad
/-- o[i] = v -/
def setW : W → W → W → Store → Option Store
  | .ref p, .int i, v, S => match S[p]? with
    | some (.lst xs) => (match ixN xs.length i with
      | some j => some (S.set p (.lst (xs.set j v)))
      | none => none)
    | _ => none
  | _, _, _, _ => none

section
variable {X : Cx} {G : Gw} {r : List Addr} {S : Store} {H : Hp} {Q : VK} {E : XK}
theorem VRs.atI {ws : List W} {vs : List V} {i : Int} {w : W} (q : VRs G r H ws vs) (e : L2.atI ws i = some w) : ∃ v, L2.atI vs i = some v ∧ VR G r H w v := by
  unfold L2.atI at e ⊢
  rw [q.length] at e
  obtain ⟨j, e1, e2⟩ := Option.bind_eq_some_iff.mp e
  obtain ⟨v, e3, h⟩ := q.get e2
  exact ⟨v, by rw [e1]; exact e3, h⟩
theorem VRs.cut {ws : List W} {vs : List V} (q : VRs G r H ws vs) (lo hi : Option Int) : VRs G r H (cutW ws lo hi) (cutV vs lo hi) := by
  unfold cutW cutV
  rw [q.length]
  exact (q.drop _).take _
def IxS (X : Cx) (op : W → W → Store → Out W) : Prop := ∀ E, IxR X (rOp (gw X) op E)
theorem ixs : IxS X ixW := by
  intro E value slice pins s st H x y v u Q I rx ry h hs
  obtain ⟨r, S, a, b, A, ra, rb, p⟩ := h
  cases a with
  | tup xs =>
    cases b with
    | int i =>
      obtain ⟨a, vs, e1, q1, t1⟩ := ra.tup_
      simp only [ixW] at p
      split at p
      · rename_i w hw
        obtain ⟨z, hz, rz⟩ := t1.atI hw
        exact ix_tup value slice pins s st H x y v u Q I rx ry ⟨a, vs, i, z, e1, rb.int_, q1, hz, p.ok A rz⟩ hs
      · exact p.elim
    | _ => exact p.elim
  | str xs =>
    cases b with
    | int i =>
      simp only [ixW] at p
      split at p
      · rename_i hl
        split at p
        · rename_i c hc
          exact ix_str value slice pins s st H x y v u Q I rx ry ⟨_, i, c, ra.str_, rb.int_, by rw [str_len, sl_eq]; exact hl, hc, p.ok A .str⟩ hs
        · exact p.elim
      · exact p.elim
    | _ => exact p.elim
  | ref i =>
    obtain ⟨q, e1, e2⟩ := ra.ref_
    simp only [ixW] at p
    split at p
    · rename_i xs j h1
      obtain ⟨vs, q1, t1⟩ := A.lst h1 e1
      split at p
      · rename_i w hw
        obtain ⟨z, hz, rz⟩ := t1.atI hw
        exact ix_list value slice pins s st H x y v u Q I rx ry ⟨q, vs, j, z, e2, rb.int_, SqL.of q1, hz, p.ok A rz⟩ hs
      · exact p.elim
    · rename_i xs j h1
      obtain ⟨vs, q1, t1⟩ := A.scr h1 e1
      split at p
      · rename_i w hw
        obtain ⟨z, hz, rz⟩ := t1.atI hw
        exact ix_list value slice pins s st H x y v u Q I rx ry ⟨q, vs, j, z, e2, rb.int_, q1.seq, hz, p.ok A rz⟩ hs
      · exact p.elim
    · exact p.elim
  | _ => exact p.elim
def rSlW (G : Gw) (E : XK) : V → Option Int → Option Int → Hp → VK → Prop := fun x lo hi H Q => ∃ r S a, Abs G r S H ∧ VR G r H a x ∧ Post G (VR G) r H (slW a lo hi S) Q E
theorem sls : ∀ E, SlR X (rSlW (gw X) E) := by
  intro E pins s st H x v vl vu lo hi sl Q I rx hs pl pu h
  obtain ⟨r, S, a, A, ra, p⟩ := h
  cases a with
  | tup xs =>
    obtain ⟨a, vs, e1, q1, t1⟩ := ra.tup_
    refine sl_tupA pins s st H x v vl vu lo hi sl Q I rx hs pl pu ⟨a, vs, e1, q1, fun hw => ?_, fun _ => post_tup A (t1.cut lo hi) p⟩
    have e : cutW xs lo hi = xs := by
      unfold cutW
      rw [t1.length, hw.1, hw.2, List.drop_zero, Nat.sub_zero, ← t1.length, List.take_length]
    have p' : Post (gw X) (VR (gw X)) r H (.ok (.tup (cutW xs lo hi)) S) Q E := p
    rw [e] at p'
    exact p'.ok A (.tup q1 t1)
  | str xs =>
    simp only [slW] at p
    split at p
    · rename_i hl
      refine sl_str pins s st H x v vl vu lo hi sl Q I rx hs pl pu ⟨_, ra.str_, by rw [str_len, sl_eq]; exact hl, ?_⟩
      have e : cutS ⟨xs.toArray⟩ lo hi = ⟨(cutW xs lo hi).toArray⟩ := by
        unfold cutS cutW
        rw [str_len]
      rw [e]
      exact p.ok A .str
    · exact p.elim
  | ref i =>
    obtain ⟨q, e1, e2⟩ := ra.ref_
    simp only [slW] at p
    split at p
    · rename_i xs h1
      obtain ⟨vs, q1, t1⟩ := A.lst h1 e1
      exact sl_list pins s st H x v vl vu lo hi sl Q I rx hs pl pu ⟨q, vs, e2, SqL.of q1, post_lst A (t1.cut lo hi) p⟩
    · rename_i xs h1
      obtain ⟨vs, q1, t1⟩ := A.scr h1 e1
      exact sl_list pins s st H x v vl vu lo hi sl Q I rx hs pl pu ⟨q, vs, e2, q1.seq, post_lst A (t1.cut lo hi) p⟩
    · exact p.elim
  | _ => exact p.elim
/-- the heap behind a store that is written -/
theorem Abs.putL {i : Nat} {a : Addr} {xs ys : List W} {us : List V} (A : Abs G r S H) (hi : S[i]? = some (.lst xs)) (ha : r[i]? = some a) (q : VRs G r H ys us) :
    Ext G r H r (upd H a (.lst us)) ∧ Abs G r (S.set i (.lst ys)) (upd H a (.lst us)) := by
  obtain ⟨vs, h1, _⟩ := A.lst hi ha
  have m : Mut (H a) := by rw [h1]; trivial
  exact ⟨Ext.write m, A.write hi ha rfl ⟨us, upd_same, q.ext (Ext.write m)⟩ rfl⟩
theorem Abs.putD {i : Nat} {a : Addr} {xs ys : List (W × W)} {us : List (Key × V)} (A : Abs G r S H) (hi : S[i]? = some (.dic xs)) (ha : r[i]? = some a) (q : KVR G r H ys us) :
    Ext G r H r (upd H a (.dK us)) ∧ Abs G r (S.set i (.dic ys)) (upd H a (.dK us)) := by
  obtain ⟨vs, h1, _⟩ := A.dic hi ha
  have m : Mut (H a) := by rw [h1]; trivial
  exact ⟨Ext.write m, A.write hi ha rfl ⟨us, upd_same, q.ext (Ext.write m)⟩ rfl⟩
def rSetW (G : Gw) : V → V → V → Hp → (Hp → Prop) → Prop := fun o i v H Q => ∃ r S a b c S', Abs G r S H ∧ VR G r H a o ∧ VR G r H b i ∧ VR G r H c v ∧ setW a b c S = some S' ∧
  ∀ r' H', Ext G r H r' H' → Abs G r' S' H' → Q H'
theorem sets : PSet X (rSetW (gw X)) := by
  intro pins s st H o i v ov iv u Q I ro ri rv h
  obtain ⟨r, S, a, b, c, S', A, ra, rb, rc, e, p⟩ := h
  cases a with
  | ref j =>
    cases b with
    | int k =>
      obtain ⟨q, e1, e2⟩ := ra.ref_
      simp only [setW] at e
      split at e
      · rename_i xs h1
        obtain ⟨vs, q1, t1⟩ := A.lst h1 e1
        split at e
        · rename_i n hn
          cases e
          obtain ⟨x1, A1⟩ := A.putL h1 e1 (t1.set rc n)
          exact set_list pins s st H o i v ov iv u Q I ro ri rv ⟨q, vs, k, n, e2, rb.int_, q1, by rw [← t1.length]; exact hn, p r _ x1 A1⟩
        · cases e
      · cases e
    | _ => cases e
  | _ => cases e
end

/-! ## built-in functions by name -/
abbrev BF := List W → Store → Out W
def rCall (G : Gw) (b : BF) (E : XK) : List V → Hp → VK → Prop := fun vs H Q => ∃ r S ws, Abs G r S H ∧ VRs G r H ws vs ∧ Post G (VR G) r H (b ws S) Q E
def CallS (X : Cx) (f : Value) (b : BF) : Prop := ∀ E, CallR X f (rCall (gw X) b E)
def biLen : BF
  | [.str s], S => if s.length ≤ SL then .ok (.int s.length) S else .bad
  | [.ref i], S => (match S[i]? with
    | some (.lst xs) => .ok (.int xs.length) S
    | some (.scr xs) => .ok (.int xs.length) S
    | some (.dic xs) => .ok (.int xs.length) S
    | _ => .bad)
  | [.tup xs], S => .ok (.int xs.length) S
  | _, _ => .bad
def biAbs : BF
  | [.int i], S => .ok (.int (if i < 0 then -i else i)) S
  | _, _ => .bad
def biInt : BF
  | [.int i], S => .ok (.int i) S
  | [.bl k], S => .ok (.int (if k then 1 else 0)) S
  | [.str s], S => if s.length ≤ 640 then (match PySem.intText? ⟨s.toArray⟩ with
    | some n => .ok (.int n) S
    | none => .bad) else .bad
  | _, _ => .bad
def biOrd : BF
  | [.str [c]], S => .ok (.int c) S
  | _, _ => .bad
def biMax : BF
  | [.int i, .int j], S => .ok (.int (if j > i then j else i)) S
  | _, _ => .bad
def biMin : BF
  | [.int i, .int j], S => .ok (.int (if j < i then j else i)) S
  | _, _ => .bad
def blsW : List W → Option (List Bool)
  | [] => some []
  | .bl b :: r => (blsW r).map (b :: ·)
  | _ :: _ => none
def intsW : List W → Option (List Int)
  | [] => some []
  | .int b :: r => (intsW r).map (b :: ·)
  | _ :: _ => none
def txtsW : List W → Option (List (List Nat))
  | [] => some []
  | .str b :: r => (txtsW r).map (b :: ·)
  | _ :: _ => none
def lstOf : W → Store → Option (List W)
  | .ref i, S => (match S[i]? with
    | some (.lst xs) => some xs
    | some (.scr xs) => some xs
    | _ => none)
  | _, _ => none
def biAll : BF
  | [w], S => (match (lstOf w S).bind blsW with
    | some bs => .ok (.bl (bs.all id)) S
    | none => .bad)
  | _, _ => .bad
def biAny : BF
  | [w], S => (match (lstOf w S).bind blsW with
    | some bs => .ok (.bl (bs.any id)) S
    | none => .bad)
  | _, _ => .bad
def biSum : BF
  | [w], S => (match (lstOf w S).bind intsW with
    | some bs => .ok (.int bs.sum) S
    | none => .bad)
  | _, _ => .bad
def biTuple : BF
  | [w], S => (match itemsOf w S with
    | some xs => .ok (.tup xs) S
    | none => .bad)
  | _, _ => .bad
def biList : BF
  | [w], S => (match itemsOf w S with
    | some xs => .ok (.ref S.length) (S ++ [.lst xs])
    | none => .bad)
  | _, _ => .bad
/-- figures -/
def decW (i : Int) : List Nat := (toString i).toList.map Char.toNat
def biStr : BF
  | [.int i], S => if i.natAbs.log2 < 1920 then .ok (.str (decW i)) S else .bad
  | [.str s], S => .ok (.str s) S
  | _, _ => .bad
section
variable {X : Cx} {G : Gw} {r : List Addr} {S : Store} {H : Hp} {Q : VK} {E : XK}
theorem VRs.one {w : W} {vs : List V} (q : VRs G r H [w] vs) : ∃ v, vs = [v] ∧ VR G r H w v := by
  unfold VRs at q
  obtain ⟨v, t, rfl, h, z⟩ := q
  unfold VRs at z
  subst z
  exact ⟨v, rfl, h⟩
theorem VRs.two {w w' : W} {vs : List V} (q : VRs G r H [w, w'] vs) : ∃ v v', vs = [v, v'] ∧ VR G r H w v ∧ VR G r H w' v' := by
  unfold VRs at q
  obtain ⟨v, t, rfl, h, z⟩ := q
  obtain ⟨v', rfl, h'⟩ := z.one
  exact ⟨v, v', rfl, h, h'⟩
theorem lst_of {w : W} {v : V} {xs : List W} (A : Abs G r S H) (q : VR G r H w v) (e : lstOf w S = some xs) : ∃ a vs, v = .ref a ∧ SqL G.K H a vs ∧ VRs G r H xs vs := by
  cases w with
  | ref i =>
    obtain ⟨a, h1, rfl⟩ := q.ref_
    simp only [lstOf] at e
    split at e
    · rename_i ys hy
      cases e
      obtain ⟨vs, h2, h3⟩ := A.lst hy h1
      exact ⟨a, vs, rfl, SqL.of h2, h3⟩
    · rename_i ys hy
      cases e
      obtain ⟨vs, h2, h3⟩ := A.scr hy h1
      exact ⟨a, vs, rfl, h2.seq, h3⟩
    · cases e
  | _ => cases e
theorem bls_of : ∀ {xs : List W} {vs : List V} {bs : List Bool}, VRs G r H xs vs → blsW xs = some bs → vs = bs.map V.bl
  | [], _, _, q, e => by unfold VRs at q; cases e; exact q
  | x :: xs, _, _, q, e => by
    unfold VRs at q
    obtain ⟨v, t, rfl, h, z⟩ := q
    cases x with
    | bl b =>
      simp only [blsW] at e
      obtain ⟨cs, e1, rfl⟩ := Option.map_eq_some_iff.mp e
      rw [bls_of z e1, h.bl_, List.map_cons]
    | _ => cases e
theorem ints_of : ∀ {xs : List W} {vs : List V} {bs : List Int}, VRs G r H xs vs → intsW xs = some bs → vs = bs.map V.int
  | [], _, _, q, e => by unfold VRs at q; cases e; exact q
  | x :: xs, _, _, q, e => by
    unfold VRs at q
    obtain ⟨v, t, rfl, h, z⟩ := q
    cases x with
    | int b =>
      simp only [intsW] at e
      obtain ⟨cs, e1, rfl⟩ := Option.map_eq_some_iff.mp e
      rw [ints_of z e1, h.int_, List.map_cons]
    | _ => cases e
theorem txts_of : ∀ {xs : List W} {vs : List V} {bs : List (List Nat)}, VRs G r H xs vs → txtsW xs = some bs → vs = (bs.map fun b => (⟨b.toArray⟩ : Str)).map V.str
  | [], _, _, q, e => by unfold VRs at q; cases e; exact q
  | x :: xs, _, _, q, e => by
    unfold VRs at q
    obtain ⟨v, t, rfl, h, z⟩ := q
    cases x with
    | str b =>
      simp only [txtsW] at e
      obtain ⟨cs, e1, rfl⟩ := Option.map_eq_some_iff.mp e
      rw [txts_of z e1, h.str_, List.map_cons, List.map_cons]
    | _ => cases e
theorem KVR.length : ∀ {xs : List (W × W)} {l : List (Key × V)}, KVR G r H xs l → xs.length = l.length
  | [], _, q => by unfold KVR at q; subst q; rfl
  | (k, x) :: xs, _, q => by
    unfold KVR at q
    obtain ⟨k', v, t, rfl, _, _, z⟩ := q
    simp [KVR.length z]
theorem cs_len : CallS X (.builtin "len") biLen := by
  intro E pins s st H vs us Q I rs h
  obtain ⟨r, S, ws, A, ra, p⟩ := h
  match ws, ra, p with
  | [.str x], ra, p =>
    obtain ⟨v, rfl, h1⟩ := ra.one
    simp only [biLen] at p
    split at p
    · rename_i hl
      exact call_len pins s st H _ us Q I rs ⟨v, _, rfl, by rw [h1.str_]; exact ⟨by rw [str_len, sl_eq]; exact hl, rfl⟩, by rw [str_len]; exact p.ok A .int⟩
    · exact p.elim
  | [.tup x], ra, p =>
    obtain ⟨v, rfl, h1⟩ := ra.one
    obtain ⟨a, ys, e1, q1, t1⟩ := h1.tup_
    subst e1
    exact call_len pins s st H _ us Q I rs ⟨_, ys.length, rfl, .inr ⟨ys, q1, rfl⟩, by rw [← t1.length]; exact p.ok A .int⟩
  | [.ref i], ra, p =>
    obtain ⟨v, rfl, h1⟩ := ra.one
    obtain ⟨a, e1, e2⟩ := h1.ref_
    subst e2
    simp only [biLen] at p
    split at p
    · rename_i xs hx
      obtain ⟨ys, q1, t1⟩ := A.lst hx e1
      exact call_len pins s st H _ us Q I rs ⟨_, ys.length, rfl, .inl ⟨ys, SqL.of q1, rfl⟩, by rw [← t1.length]; exact p.ok A .int⟩
    · rename_i xs hx
      obtain ⟨ys, q1, t1⟩ := A.scr hx e1
      exact call_len pins s st H _ us Q I rs ⟨_, ys.length, rfl, .inl ⟨ys, q1.seq, rfl⟩, by rw [← t1.length]; exact p.ok A .int⟩
    · rename_i xs hx
      obtain ⟨ys, q1, t1⟩ := A.dic hx e1
      exact call_lenD pins s st H _ us Q I rs ⟨a, ys, rfl, q1, by rw [← t1.length]; exact p.ok A .int⟩
    · exact p.elim
  | [], _, p => exact p.elim
  | [.non], _, p => exact p.elim
  | [.bl _], _, p => exact p.elim
  | [.int _], _, p => exact p.elim
  | a :: b :: l, _, p => cases a <;> exact p.elim
theorem cs_abs : CallS X (.builtin "abs") biAbs := by
  intro E pins s st H vs us Q I rs h
  obtain ⟨r, S, ws, A, ra, p⟩ := h
  unfold biAbs at p
  split at p
  · obtain ⟨v, rfl, h1⟩ := ra.one
    exact call_abs pins s st H _ us Q I rs ⟨_, by rw [h1.int_], p.ok A .int⟩
  · exact p.elim
theorem cs_int : CallS X (.type "int") biInt := by
  intro E pins s st H vs us Q I rs h
  obtain ⟨r, S, ws, A, ra, p⟩ := h
  unfold biInt at p
  split at p
  · obtain ⟨v, rfl, h1⟩ := ra.one
    exact call_int1 pins s st H _ us Q I rs (.inl ⟨_, by rw [h1.int_], p.ok A .int⟩)
  · obtain ⟨v, rfl, h1⟩ := ra.one
    exact call_int1 pins s st H _ us Q I rs (.inr ⟨_, by rw [h1.bl_], p.ok A .int⟩)
  · obtain ⟨v, rfl, h1⟩ := ra.one
    split at p
    · rename_i hl
      split at p
      · rename_i n hn
        exact call_int_str pins s st H _ us Q I rs ⟨_, n, by rw [h1.str_], hn, by rw [str_len]; exact hl, p.ok A .int⟩
      · exact p.elim
    · exact p.elim
  · exact p.elim
theorem cs_ord : CallS X (.builtin "ord") biOrd := by
  intro E pins s st H vs us Q I rs h
  obtain ⟨r, S, ws, A, ra, p⟩ := h
  unfold biOrd at p
  split at p
  · obtain ⟨v, rfl, h1⟩ := ra.one
    exact call_ord pins s st H _ us Q I rs ⟨_, by rw [h1.str_], rfl, p.ok A .int⟩
  · exact p.elim
theorem cs_max (hc : X.calm = true) : CallS X (.builtin "max") biMax := by
  intro E pins s st H vs us Q I rs h
  obtain ⟨r, S, ws, A, ra, p⟩ := h
  unfold biMax at p
  split at p
  · obtain ⟨v, v', rfl, h1, h2⟩ := ra.two
    exact call_max2 hc pins s st H _ us Q I rs ⟨_, _, by rw [h1.int_, h2.int_], p.ok A .int⟩
  · exact p.elim
theorem cs_min (hc : X.calm = true) : CallS X (.builtin "min") biMin := by
  intro E pins s st H vs us Q I rs h
  obtain ⟨r, S, ws, A, ra, p⟩ := h
  unfold biMin at p
  split at p
  · obtain ⟨v, v', rfl, h1, h2⟩ := ra.two
    exact call_min2 hc pins s st H _ us Q I rs ⟨_, _, by rw [h1.int_, h2.int_], p.ok A .int⟩
  · exact p.elim
theorem cs_all (hc : X.calm = true) : CallS X (.builtin "all") biAll := by
  intro E pins s st H vs us Q I rs h
  obtain ⟨r, S, ws, A, ra, p⟩ := h
  unfold biAll at p
  split at p
  · obtain ⟨v, rfl, h1⟩ := ra.one
    split at p
    · rename_i bs hb
      obtain ⟨xs, e1, e2⟩ := Option.bind_eq_some_iff.mp hb
      obtain ⟨a, ys, rfl, q1, t1⟩ := lst_of A h1 e1
      have e3 := bls_of t1 e2
      subst e3
      exact cr_all hc pins s st H _ us Q I rs ⟨a, bs, rfl, q1, p.ok A .bl⟩
    · exact p.elim
  · exact p.elim
theorem cs_any (hc : X.calm = true) : CallS X (.builtin "any") biAny := by
  intro E pins s st H vs us Q I rs h
  obtain ⟨r, S, ws, A, ra, p⟩ := h
  unfold biAny at p
  split at p
  · obtain ⟨v, rfl, h1⟩ := ra.one
    split at p
    · rename_i bs hb
      obtain ⟨xs, e1, e2⟩ := Option.bind_eq_some_iff.mp hb
      obtain ⟨a, ys, rfl, q1, t1⟩ := lst_of A h1 e1
      have e3 := bls_of t1 e2
      subst e3
      exact cr_any hc pins s st H _ us Q I rs ⟨a, bs, rfl, q1, p.ok A .bl⟩
    · exact p.elim
  · exact p.elim
theorem cs_sum (hc : X.calm = true) : CallS X (.builtin "sum") biSum := by
  intro E pins s st H vs us Q I rs h
  obtain ⟨r, S, ws, A, ra, p⟩ := h
  unfold biSum at p
  split at p
  · obtain ⟨v, rfl, h1⟩ := ra.one
    split at p
    · rename_i bs hb
      obtain ⟨xs, e1, e2⟩ := Option.bind_eq_some_iff.mp hb
      obtain ⟨a, ys, rfl, q1, t1⟩ := lst_of A h1 e1
      have e3 := ints_of t1 e2
      subst e3
      exact cr_sum hc pins s st H _ us Q I rs ⟨a, bs, rfl, q1, p.ok A .int⟩
    · exact p.elim
  · exact p.elim
theorem cs_tuple : CallS X (.type "tuple") biTuple := by
  intro E pins s st H vs us Q I rs h
  obtain ⟨r, S, ws, A, ra, p⟩ := h
  unfold biTuple at p
  split at p
  · obtain ⟨v, rfl, h1⟩ := ra.one
    split at p
    · rename_i xs hx
      obtain ⟨a, ys, rfl, q1, t1⟩ := items_of A h1 hx
      refine call_tuple_of pins s st H _ us Q I rs ⟨a, ys, rfl, ?_⟩
      rcases q1 with q1 | q1
      · exact .inl ⟨q1, post_tup A t1 p⟩
      · exact .inr ⟨q1, p.ok A (.tup q1 t1)⟩
    · exact p.elim
  · exact p.elim
theorem cs_list : CallS X (.type "list") biList := by
  intro E pins s st H vs us Q I rs h
  obtain ⟨r, S, ws, A, ra, p⟩ := h
  unfold biList at p
  split at p
  · obtain ⟨v, rfl, h1⟩ := ra.one
    split at p
    · rename_i xs hx
      obtain ⟨a, ys, rfl, q1, t1⟩ := items_of A h1 hx
      exact call_list_of pins s st H _ us Q I rs ⟨a, ys, rfl, q1, post_lst A t1 p⟩
    · exact p.elim
  · exact p.elim
theorem str_dec (i : Int) : (Str.ofString (toString i)) = ⟨(decW i).toArray⟩ := by
  rw [Str.ofString_eq_toList]
  rfl
theorem cs_str : CallS X (.type "str") biStr := by
  intro E pins s st H vs us Q I rs h
  obtain ⟨r, S, ws, A, ra, p⟩ := h
  unfold biStr at p
  split at p
  · obtain ⟨v, rfl, h1⟩ := ra.one
    split at p
    · rename_i hl
      refine call_str_int pins s st H _ us Q I rs ⟨_, by rw [h1.int_], hl, ?_⟩
      rw [str_dec]
      exact p.ok A .str
    · exact p.elim
  · obtain ⟨v, rfl, h1⟩ := ra.one
    exact SkE.call_str_str pins s st H _ us Q I rs ⟨_, by rw [h1.str_], p.ok A .str⟩
  · exact p.elim
end
end PD

namespace PD
open PySem PySem.Spec PyProof.Rows L2
/-! ## methods of built-in types -/
inductive BM where
  | append | extend | pop | reverse | clear | insert | join
/-- the type that a method is asked of -/
def bmTy (b : BM) (w : W) (S : Store) : Option String := match b, w with
  | .join, .str _ => some "str"
  | .join, _ => none
  | _, .ref i => (match S[i]? with
    | some (.lst _) => some "list"
    | _ => none)
  | _, _ => none
def bmRun : BM → W → List W → Store → Out W
  | .append, .ref i, [y], S => (match S[i]? with
    | some (.lst xs) => if xs.length < SL then .ok .non (S.set i (.lst (xs ++ [y]))) else .bad
    | _ => .bad)
  | .extend, .ref i, [.ref j], S => (match S[i]?, S[j]? with
    | some (.lst xs), some (.lst ys) => if xs.length + ys.length ≤ SL then .ok .non (S.set i (.lst (xs ++ ys))) else .bad
    | _, _ => .bad)
  | .pop, .ref i, [], S => (match S[i]? with
    | some (.lst xs) => (match xs[xs.length - 1]? with
      | some y => .ok y (S.set i (.lst xs.dropLast))
      | none => .bad)
    | _ => .bad)
  | .pop, .ref i, [.int n], S => (match S[i]? with
    | some (.lst xs) => if 0 ≤ n ∧ n < xs.length then (match xs[n.toNat]? with
      | some y => .ok y (S.set i (.lst (xs.eraseIdx n.toNat)))
      | none => .bad) else .bad
    | _ => .bad)
  | .reverse, .ref i, [], S => (match S[i]? with
    | some (.lst xs) => .ok .non (S.set i (.lst xs.reverse))
    | _ => .bad)
  | .clear, .ref i, [], S => (match S[i]? with
    | some (.lst xs) => .ok .non (S.set i (.lst []))
    | _ => .bad)
  | .insert, .ref i, [.int n, y], S => (match S[i]? with
    | some (.lst xs) => if xs.length < SL ∧ 0 ≤ n ∧ n ≤ SL then .ok .non (S.set i (.lst (xs.take n.toNat ++ [y] ++ xs.drop n.toNat))) else .bad
    | _ => .bad)
  | .join, .str s, [w], S => (match (itemsOf w S).bind txtsW with
    | some ts => if (ts.map List.length).sum + ts.length * s.length ≤ SL then .ok (.str (TL.joinL s ts)) S else .bad
    | none => .bad)
  | _, _, _, _ => .bad
def bmId : BM → String
  | .append => "list.append"
  | .extend => "list.extend"
  | .pop => "list.pop"
  | .reverse => "list.reverse"
  | .clear => "list.clear"
  | .insert => "list.insert"
  | .join => "str.join"
def rMeth (G : Gw) (b : BM) (E : XK) : V → List V → Hp → VK → Prop := fun x vs H Q => ∃ r S a ws, Abs G r S H ∧ VR G r H a x ∧ VRs G r H ws vs ∧ Post G (VR G) r H (bmRun b a ws S) Q E
section
variable {X : Cx} {G : Gw} {r : List Addr} {S : Store} {H : Hp} {Q : VK} {E : XK}
theorem VRs.eraseIdx : ∀ {ws : List W} {vs : List V} (n : Nat), VRs G r H ws vs → VRs G r H (ws.eraseIdx n) (vs.eraseIdx n)
  | [], _, n, q => by unfold VRs at q; subst q; simpa using VRs.nil
  | w :: ws, _, 0, q => by
    unfold VRs at q
    obtain ⟨v, t, rfl, h, z⟩ := q
    exact z
  | w :: ws, _, n + 1, q => by
    unfold VRs at q
    obtain ⟨v, t, rfl, h, z⟩ := q
    exact .cons h (VRs.eraseIdx n z)
theorem join_tl (s : List Nat) (ts : List (List Nat)) : Txt.join ⟨s.toArray⟩ (ts.map fun b => (⟨b.toArray⟩ : Str)) = ⟨(TL.joinL s ts).toArray⟩ := by
  rw [TL.join_eq]
  apply TL.ext_tl
  rw [TL.tl_join, List.map_map]
  have e : (TL.tl ∘ fun b => (⟨b.toArray⟩ : Str)) = (id : List Nat → List Nat) := by funext b; rfl
  rw [e, List.map_id]
theorem ms (b : BM) : MtR X (bmId b) (rMeth (gw X) b E) := by
  intro pins s st H x vs v us Q I rx rs h
  obtain ⟨r, S, a, ws, A, ra, rw_, p⟩ := h
  unfold bmRun at p
  split at p
  · -- append
    obtain ⟨q, e1, e2⟩ := ra.ref_
    obtain ⟨y, rfl, ry⟩ := rw_.one
    split at p
    · rename_i xs h1
      obtain ⟨vs, q1, t1⟩ := A.lst h1 e1
      split at p
      · rename_i hl
        obtain ⟨x1, A1⟩ := A.putL h1 e1 (t1.append (.cons ry .nil))
        exact mt_append pins s st H x _ v us Q I rx rs ⟨q, vs, y, e2, rfl, q1, by rw [← t1.length, sl_eq]; exact hl, p _ _ _ x1 A1 .non⟩
      · exact p.elim
    · exact p.elim
  · -- extend
    obtain ⟨q, e1, e2⟩ := ra.ref_
    obtain ⟨y, rfl, ry⟩ := rw_.one
    obtain ⟨q2, e3, e4⟩ := ry.ref_
    subst e4
    split at p
    · rename_i xs ys h1 h2
      obtain ⟨vs, q1, t1⟩ := A.lst h1 e1
      obtain ⟨vs2, q3, t2⟩ := A.lst h2 e3
      split at p
      · rename_i hl
        obtain ⟨x1, A1⟩ := A.putL h1 e1 (t1.append t2)
        exact mt_extend pins s st H x _ v us Q I rx rs ⟨q, q2, vs, vs2, e2, rfl, q1, q3, by rw [← t1.length, ← t2.length, sl_eq]; exact hl, p _ _ _ x1 A1 .non⟩
      · exact p.elim
    · exact p.elim
  · -- pop
    obtain ⟨q, e1, e2⟩ := ra.ref_
    have ev : vs = [] := by unfold VRs at rw_; exact rw_
    subst ev
    split at p
    · rename_i xs h1
      obtain ⟨vs, q1, t1⟩ := A.lst h1 e1
      split at p
      · rename_i y hy
        obtain ⟨z, hz, rz⟩ := t1.get hy
        obtain ⟨x1, A1⟩ := A.putL h1 e1 t1.dropLast
        exact mt_pop pins s st H x _ v us Q I rx rs ⟨q, vs, z, e2, rfl, q1, by rw [← t1.length]; exact hz, p _ _ _ x1 A1 (rz.ext x1)⟩
      · exact p.elim
    · exact p.elim
  · -- pop at
    rename_i i n
    obtain ⟨q, e1, e2⟩ := ra.ref_
    obtain ⟨y, rfl, ry⟩ := rw_.one
    have ey := ry.int_
    subst ey
    split at p
    · rename_i xs h1
      obtain ⟨vs, q1, t1⟩ := A.lst h1 e1
      split at p
      · rename_i hl
        split at p
        · rename_i y hy
          obtain ⟨z, hz, rz⟩ := t1.get hy
          obtain ⟨x1, A1⟩ := A.putL h1 e1 (t1.eraseIdx n.toNat)
          obtain ⟨_, _, _, _, hsz⟩ := I.lstM q1
          have hlen : vs.length ≤ sizeLine := (I.lstM q1).1
          rw [sl_eq] at hlen
          have hln := t1.length
          have SLv : SL = 16777216 := rfl
          refine mt_popAt pins s st H x _ v us Q I rx rs ⟨q, vs, n, n.toNat, z, e2, rfl, q1, by omega, by omega, ?_, hz, p _ _ _ x1 A1 (rz.ext x1)⟩
          exact PySem.StrLaws.seqIndex_nonneg hl.1 (by omega)
        · exact p.elim
      · exact p.elim
    · exact p.elim
  · -- reverse
    obtain ⟨q, e1, e2⟩ := ra.ref_
    have ev : vs = [] := by unfold VRs at rw_; exact rw_
    subst ev
    split at p
    · rename_i xs h1
      obtain ⟨vs, q1, t1⟩ := A.lst h1 e1
      obtain ⟨x1, A1⟩ := A.putL h1 e1 t1.reverse
      exact mt_reverse pins s st H x _ v us Q I rx rs ⟨q, vs, e2, rfl, q1, p _ _ _ x1 A1 .non⟩
    · exact p.elim
  · -- clear
    obtain ⟨q, e1, e2⟩ := ra.ref_
    have ev : vs = [] := by unfold VRs at rw_; exact rw_
    subst ev
    split at p
    · rename_i xs h1
      obtain ⟨vs, q1, t1⟩ := A.lst h1 e1
      obtain ⟨x1, A1⟩ := A.putL (ys := []) (us := []) h1 e1 .nil
      exact mt_clear pins s st H x _ v us Q I rx rs ⟨q, vs, e2, rfl, q1, p _ _ _ x1 A1 .non⟩
    · exact p.elim
  · -- insert
    rename_i i n y0
    obtain ⟨q, e1, e2⟩ := ra.ref_
    obtain ⟨y, z, rfl, ry, rz⟩ := rw_.two
    have ey := ry.int_
    subst ey
    split at p
    · rename_i xs h1
      obtain ⟨vs, q1, t1⟩ := A.lst h1 e1
      split at p
      · rename_i hl
        obtain ⟨x1, A1⟩ := A.putL h1 e1 (((t1.take n.toNat).append (.cons rz .nil)).append (t1.drop n.toNat))
        have SLv : SL = 16777216 := rfl
        exact mt_insert pins s st H x _ v us Q I rx rs ⟨q, vs, n, z, e2, rfl, q1, by rw [← t1.length, sl_eq]; exact hl.1, hl.2.1, by omega, p _ _ _ x1 A1 .non⟩
      · exact p.elim
    · exact p.elim
  · -- join
    obtain ⟨y, rfl, ry⟩ := rw_.one
    split at p
    · rename_i ts hts
      obtain ⟨xs, h1, h2⟩ := Option.bind_eq_some_iff.mp hts
      obtain ⟨a, ys, rfl, q1, t1⟩ := items_of A ry h1
      have e3 := txts_of t1 h2
      subst e3
      split at p
      · rename_i hl
        refine mt_join pins s st H x _ v us Q I rx rs ⟨_, a, _, ra.str_, rfl, q1, ?_, ?_⟩
        · rw [List.map_map, List.length_map, str_len]
          have e : (fun x : Str => x.length) ∘ (fun b : List Nat => (⟨b.toArray⟩ : Str)) = List.length := by funext b; exact str_len
          have e' : ((·.length) ∘ fun b : List Nat => (⟨b.toArray⟩ : Str)) = List.length := e
          rw [e']
          exact hl
        · rw [join_tl]
          exact p.ok A .str
      · exact p.elim
    · exact p.elim
  · exact p.elim
theorem bmTy_ok {b : BM} {w : W} {T : String} {v : V} (A : Abs G r S H) (q : VR G r H w v) (e : bmTy b w S = some T) : tyV G.K T v H ∧ bmTy b w S = some T := by
  refine ⟨?_, e⟩
  unfold bmTy at e
  split at e
  · cases e
    rw [q.str_]
    exact rfl
  · cases e
  · obtain ⟨a, h1, rfl⟩ := q.ref_
    split at e
    · rename_i xs hx
      cases e
      obtain ⟨vs, q1, _⟩ := A.lst hx h1
      exact .inl ⟨rfl, vs, SqL.of q1⟩
    · cases e
  · cases e
/-- a value's truth -/
def truW : W → Store → Option Bool
  | .non, _ => some false
  | .bl b, _ => some b
  | .int i, _ => some (i != 0)
  | .str s, _ => if s.length ≤ SL then some ((s.length : Int) != 0) else none
  | .tup xs, _ => some (!xs.isEmpty)
  | .ref i, S => match S[i]? with
    | some (.lst xs) => some (!xs.isEmpty)
    | some (.scr xs) => some (!xs.isEmpty)
    | some (.dic xs) => some (!xs.isEmpty)
    | _ => none
theorem VRs.emp : ∀ {ws : List W} {vs : List V}, VRs G r H ws vs → ws.isEmpty = vs.isEmpty
  | [], _, q => by unfold VRs at q; subst q; rfl
  | w :: ws, _, q => by
    unfold VRs at q
    obtain ⟨v, t, rfl, h, z⟩ := q
    rfl
theorem KVR.emp : ∀ {ws : List (W × W)} {vs : List (Key × V)}, KVR G r H ws vs → ws.isEmpty = vs.isEmpty
  | [], _, q => by unfold KVR at q; subst q; rfl
  | (k, w) :: ws, _, q => by
    unfold KVR at q
    obtain ⟨k', v, t, rfl, _, _, z⟩ := q
    rfl
theorem tru_of {w : W} {v : V} {b : Bool} (A : Abs G r S H) (q : VR G r H w v) (e : truW w S = some b) : TruV G.K v H b := by
  cases w with
  | non => have z := q.non_; subst z; exact (Option.some.inj e).symm
  | bl c => have z := q.bl_; subst z; exact (Option.some.inj e).symm
  | int c => have z := q.int_; subst z; exact (Option.some.inj e).symm
  | str c =>
    have z := q.str_; subst z
    simp only [truW] at e
    split at e
    · rename_i hl
      exact ⟨by rw [str_len, sl_eq]; exact hl, by rw [str_len]; exact (Option.some.inj e).symm⟩
    · cases e
  | tup xs =>
    obtain ⟨a, vs, rfl, q1, t1⟩ := q.tup_
    exact .inr (.inl ⟨vs, q1, by rw [← t1.emp]; exact (Option.some.inj e).symm⟩)
  | ref i =>
    obtain ⟨a, h1, rfl⟩ := q.ref_
    simp only [truW] at e
    split at e
    · rename_i xs hx
      obtain ⟨vs, q1, t1⟩ := A.lst hx h1
      exact .inl ⟨vs, SqL.of q1, by rw [← t1.emp]; exact (Option.some.inj e).symm⟩
    · rename_i xs hx
      obtain ⟨vs, q1, t1⟩ := A.scr hx h1
      exact .inl ⟨vs, q1.seq, by rw [← t1.emp]; exact (Option.some.inj e).symm⟩
    · rename_i xs hx
      obtain ⟨vs, q1, t1⟩ := A.dic hx h1
      exact .inr (.inr ⟨vs, q1, by rw [← t1.emp]; exact (Option.some.inj e).symm⟩)
    · cases e
end

/-! ## what a call leaves behind is let go -/
mutual
def oldW (n : Nat) : W → Bool
  | .ref i => decide (i < n)
  | .tup xs => oldL n xs
  | _ => true
def oldL (n : Nat) : List W → Bool
  | [] => true
  | x :: xs => oldW n x && oldL n xs
end
def oldC (n : Nat) : Cell → Bool
  | .lst xs => oldL n xs
  | .scr xs => oldL n xs
  | .dic kvs => kvs.all fun p => oldW n p.2
  | .ins _ fs => fs.all fun p => oldW n p.2
def Kept (S S' : Store) : Prop := ∀ i, i < S.length → S'[i]? = S[i]? ∨ ∃ c, S'[i]? = some c ∧ oldC S.length c = true
open Classical in
noncomputable def gc (S : Store) (o : Out W) : Out W := match o with
  | .ok w S' => if Kept S S' then (if oldW S.length w = true then .ok w (S'.take S.length) else match w with
      | .ref j => (match S'[j]? with
        | some (.lst xs) => if oldL S.length xs = true ∧ S.length ≤ j then .ok (.ref S.length) (S'.take S.length ++ [.lst xs]) else .ok w S'
        | _ => .ok w S')
      | _ => .ok w S') else .ok w S'
  | .exc x S' => if Kept S S' ∧ (∀ f w, x.fld = some (f, w) → oldW S.length w = true) then .exc x (S'.take S.length) else .exc x S'
  | .bad => .bad
section
variable {G : Gw} {r t : List Addr} {S S' : Store} {H H' : Hp} {E : XK}
mutual
theorem VR.old {n : Nat} (hn : n = r.length) : ∀ {w : W} {v : V}, oldW n w = true → VR G (r ++ t) H w v → VR G r H w v
  | .non, _, _, q => by unfold VR at q ⊢; exact q
  | .bl _, _, _, q => by unfold VR at q ⊢; exact q
  | .int _, _, _, q => by unfold VR at q ⊢; exact q
  | .str _, _, _, q => by unfold VR at q ⊢; exact q
  | .tup xs, _, o, q => by
    unfold oldW at o
    obtain ⟨a, vs, e, q1, q2⟩ := q.tup_
    unfold VR
    exact ⟨a, vs, e, q1, VRs.old hn o q2⟩
  | .ref i, _, o, q => by
    unfold oldW at o
    obtain ⟨a, e, f⟩ := q.ref_
    have hi : i < r.length := by rw [← hn]; exact of_decide_eq_true o
    rw [List.getElem?_append_left hi] at e
    unfold VR
    exact ⟨a, e, f⟩
theorem VRs.old {n : Nat} (hn : n = r.length) : ∀ {w : List W} {v : List V}, oldL n w = true → VRs G (r ++ t) H w v → VRs G r H w v
  | [], _, _, q => by unfold VRs at q ⊢; exact q
  | x :: xs, _, o, q => by
    unfold oldL at o
    rw [Bool.and_eq_true] at o
    unfold VRs at q ⊢
    obtain ⟨v, u, e, q1, q2⟩ := q
    exact ⟨v, u, e, VR.old hn o.1 q1, VRs.old hn o.2 q2⟩
end
mutual
theorem VR.isOld {n : Nat} (hn : n = r.length) : ∀ {w : W} {v : V}, VR G r H w v → oldW n w = true
  | .non, _, q => by unfold oldW; rfl
  | .bl _, _, q => by unfold oldW; rfl
  | .int _, _, q => by unfold oldW; rfl
  | .str _, _, q => by unfold oldW; rfl
  | .tup xs, _, q => by
    obtain ⟨a, vs, e, q1, q2⟩ := q.tup_
    unfold oldW
    exact VRs.isOld hn q2
  | .ref i, _, q => by
    obtain ⟨a, e, f⟩ := q.ref_
    unfold oldW
    exact decide_eq_true (by rw [hn]; exact (List.getElem?_eq_some_iff.mp e).1)
theorem VRs.isOld {n : Nat} (hn : n = r.length) : ∀ {w : List W} {v : List V}, VRs G r H w v → oldL n w = true
  | [], _, q => by unfold oldL; rfl
  | x :: xs, _, q => by
    unfold VRs at q
    obtain ⟨v, u, e, q1, q2⟩ := q
    unfold oldL
    rw [VR.isOld hn q1, VRs.isOld hn q2]
    rfl
end
theorem KVR.old {n : Nat} (hn : n = r.length) : ∀ {w : List (W × W)} {v : List (Key × V)}, (w.all fun p => oldW n p.2) = true → KVR G (r ++ t) H w v → KVR G r H w v
  | [], _, _, q => by unfold KVR at q ⊢; exact q
  | (k, x) :: xs, _, o, q => by
    rw [List.all_cons, Bool.and_eq_true] at o
    unfold KVR at q ⊢
    obtain ⟨k', v, u, e, q0, q1, q2⟩ := q
    exact ⟨k', v, u, e, q0, q1.old hn o.1, KVR.old hn o.2 q2⟩
theorem KVR.isOld {n : Nat} (hn : n = r.length) : ∀ {w : List (W × W)} {v : List (Key × V)}, KVR G r H w v → (w.all fun p => oldW n p.2) = true
  | [], _, q => rfl
  | (k, x) :: xs, _, q => by
    unfold KVR at q
    obtain ⟨k', v, u, e, q0, q1, q2⟩ := q
    rw [List.all_cons, KVR.isOld hn q2, q1.isOld hn]
    rfl
theorem FR.old {n : Nat} (hn : n = r.length) : ∀ {w : List (Str × W)} {v : List (Str × V)}, (w.all fun p => oldW n p.2) = true → FR G (r ++ t) H w v → FR G r H w v
  | [], _, _, q => by unfold FR at q ⊢; exact q
  | (k, x) :: xs, _, o, q => by
    rw [List.all_cons, Bool.and_eq_true] at o
    unfold FR at q ⊢
    obtain ⟨v, u, e, q1, q2⟩ := q
    exact ⟨v, u, e, q1.old hn o.1, FR.old hn o.2 q2⟩
theorem FR.isOld {n : Nat} (hn : n = r.length) : ∀ {w : List (Str × W)} {v : List (Str × V)}, FR G r H w v → (w.all fun p => oldW n p.2) = true
  | [], _, q => rfl
  | (k, x) :: xs, _, q => by
    unfold FR at q
    obtain ⟨v, u, e, q1, q2⟩ := q
    rw [List.all_cons, FR.isOld hn q2, q1.isOld hn]
    rfl
theorem CR.old {n : Nat} (hn : n = r.length) {a : Addr} {c : Cell} (o : oldC n c = true) (q : CR G (r ++ t) H a c) : CR G r H a c := by
  cases c with
  | lst xs => obtain ⟨vs, e, q⟩ := q; exact ⟨vs, e, q.old hn o⟩
  | scr xs => obtain ⟨vs, e, q⟩ := q; exact ⟨vs, e, q.old hn o⟩
  | dic kvs => obtain ⟨l, e, q⟩ := q; exact ⟨l, e, q.old hn o⟩
  | ins c fs => obtain ⟨C, dx, l, g, e, q⟩ := q; exact ⟨C, dx, l, g, e, q.old hn o⟩
theorem CR.isOld {n : Nat} (hn : n = r.length) {a : Addr} {c : Cell} (q : CR G r H a c) : oldC n c = true := by
  cases c with
  | lst xs => obtain ⟨vs, e, q⟩ := q; exact q.isOld hn
  | scr xs => obtain ⟨vs, e, q⟩ := q; exact q.isOld hn
  | dic kvs => obtain ⟨l, e, q⟩ := q; exact q.isOld hn
  | ins c fs => obtain ⟨C, dx, l, g, e, q⟩ := q; exact q.isOld hn
/-- what was there at the entry, behind it -/
theorem Abs.cut (A : Abs G r S H) (x : Ext G r H (r ++ t) H') (A' : Abs G (r ++ t) S' H') (k : Kept S S') : Ext G r H r H' ∧ Abs G r (S'.take S.length) H' := by
  have hl := A.len
  have hl' := A'.len
  rw [List.length_append] at hl'
  refine ⟨⟨⟨[], by simp⟩, x.tup⟩, ⟨?_, fun i c a e f => ?_, fun i j c d a e e' f f' m m' => ?_⟩⟩
  · rw [List.length_take]; omega
  · have hi : i < S.length := by rw [← hl]; exact (List.getElem?_eq_some_iff.mp f).1
    rw [List.getElem?_take_of_lt hi] at e
    have f' : (r ++ t)[i]? = some a := by rw [List.getElem?_append_left (by omega)]; exact f
    refine CR.old hl.symm ?_ (A'.at_ i c a e f')
    rcases k i hi with z | ⟨c', z, o⟩
    · rw [e] at z
      exact (A.at_ i c a z.symm f).isOld hl.symm
    · rw [e] at z; cases z
      exact o
  · have hi : i < S.length := by rw [← hl]; exact (List.getElem?_eq_some_iff.mp f).1
    have hj : j < S.length := by rw [← hl]; exact (List.getElem?_eq_some_iff.mp f').1
    rw [List.getElem?_take_of_lt hi] at e
    rw [List.getElem?_take_of_lt hj] at e'
    exact A'.inj i j c d a e e' (by rw [List.getElem?_append_left (by omega)]; exact f) (by rw [List.getElem?_append_left (by omega)]; exact f') m m'
theorem gc_post {o : Out W} {Q : VK} (A : Abs G r S H) (p : Post G (VR G) r H (gc S o) Q E) : Post G (VR G) r H o Q E := by
  have hl := A.len
  cases o with
  | bad => exact p
  | exc x S' =>
    simp only [gc] at p
    split at p
    · rename_i h
      intro r' H' cls d y A' q
      obtain ⟨t, rfl⟩ := y.pre
      obtain ⟨x1, A1⟩ := A.cut y A' h.1
      refine p r H' cls d x1 A1 ⟨q.1, ?_⟩
      have q2 := q.2
      cases e : x.fld with
      | none => rw [e] at q2; exact q2
      | some z =>
        obtain ⟨f, w⟩ := z
        rw [e] at q2
        obtain ⟨b, v, e1, e2, e3⟩ := q2
        exact ⟨b, v, e1, e2, e3.old hl.symm (h.2 f w e)⟩
    · exact p
  | ok w S' =>
    simp only [gc] at p
    split at p
    · rename_i hk
      intro r' H' v y A' q
      obtain ⟨t, rfl⟩ := y.pre
      obtain ⟨x1, A1⟩ := A.cut y A' hk
      split at p
      · rename_i ho
        exact p r H' v x1 A1 (q.old hl.symm ho)
      · split at p
        · rename_i j _
          split at p
          · rename_i xs hx
            split at p
            · rename_i ho
              obtain ⟨a, ha, rfl⟩ := q.ref_
              obtain ⟨vs, h1, h2⟩ := A'.lst hx ha
              have hl' := A'.len
              rw [List.length_append] at hl'
              have ht : (S'.take S.length).length = S.length := by rw [List.length_take]; omega
              have hlr : r.length = (S'.take S.length).length := by rw [ht]; exact hl
              have xr : Ext G r H' (r ++ [a]) H' := ⟨⟨[a], rfl⟩, fun _ _ h => h⟩
              have split_ : ∀ {i : Nat} {d : Cell} {b : Addr}, (S'.take S.length ++ [Cell.lst xs])[i]? = some d → (r ++ [a])[i]? = some b → ((S'.take S.length)[i]? = some d ∧ r[i]? = some b ∧ i < S.length) ∨ (i = S.length ∧ d = .lst xs ∧ b = a) := fun {i d b} e f => by
                by_cases hi : i < S.length
                · rw [List.getElem?_append_left (by omega)] at e
                  rw [List.getElem?_append_left (by omega)] at f
                  exact .inl ⟨e, f, hi⟩
                · have hi' : i = S.length := by
                    have := (List.getElem?_eq_some_iff.mp f).1
                    rw [List.length_append, List.length_singleton] at this
                    omega
                  rw [List.getElem?_append_right (by omega)] at e
                  rw [List.getElem?_append_right (by omega)] at f
                  rw [show i - (S'.take S.length).length = 0 by omega] at e
                  rw [show i - r.length = 0 by omega] at f
                  simp at e f
                  exact .inr ⟨hi', e.symm, f.symm⟩
              have up : ∀ {i : Nat} {d : Cell} {b : Addr}, (S'.take S.length)[i]? = some d → r[i]? = some b → i < S.length → S'[i]? = some d ∧ (r ++ t)[i]? = some b := fun {i d b} e f hi =>
                ⟨by rw [List.getElem?_take_of_lt hi] at e; exact e, by rw [List.getElem?_append_left (by omega)]; exact f⟩
              refine p (r ++ [a]) H' (.ref a) (x1.trans xr) ⟨by simp [ht, hl], fun i c b e f => ?_, fun i k c d b e e' f f' m m' => ?_⟩ (.ref (by rw [← hl]; simp))
              · rcases split_ e f with ⟨e, f, hi⟩ | ⟨_, h3, h4⟩
                · exact (A1.at_ i c b e f).ext xr (fun _ z _ => z) fun _ z => z
                · rw [h3, h4]
                  exact ⟨vs, h1, VRs.ext xr (h2.old hl.symm ho.1)⟩
              · rcases split_ e f with ⟨e1, f1, hi⟩ | ⟨hi, h3, h4⟩
                · rcases split_ e' f' with ⟨e2, f2, hk⟩ | ⟨hk, h5, h6⟩
                  · exact A1.inj i k c d b e1 e2 f1 f2 m m'
                  · exfalso
                    obtain ⟨u1, u2⟩ := up e1 f1 hi
                    rw [h6] at u2
                    have := A'.inj i j c (.lst xs) a u1 hx u2 ha m rfl
                    omega
                · rcases split_ e' f' with ⟨e2, f2, hk⟩ | ⟨hk, h5, h6⟩
                  · exfalso
                    obtain ⟨u1, u2⟩ := up e2 f2 hk
                    rw [h4] at u2
                    have := A'.inj k j d (.lst xs) a u1 hx u2 ha m' rfl
                    omega
                  · omega
            · exact p _ H' v y A' q
          · exact p _ H' v y A' q
        · exact p _ H' v y A' q
    · exact p
end
end PD

namespace L2
open PySem PySem.Spec PyProof.Rows
section
variable {X : Cx} {t t' : TE}
theorem PE.impW {e : Expr} (h : PE X e t) (i : ∀ st H Q, t' st H Q → t st H Q) : PE X e t' := ⟨fun pins s st H Q I q => h.run pins s st H Q I (i _ _ _ q)⟩
theorem PE.noW {e : Expr} (i : ∀ st H Q, ¬ t st H Q) : PE X e t := ⟨fun pins s st H Q I q => (i _ _ _ q).elim⟩
theorem PT.impW {e : Expr} {t t' : TT} (h : PT X e t) (i : ∀ st H Q, t' st H Q → t st H Q) : PT X e t' := ⟨fun pins s st H Q I q => h.run pins s st H Q I (i _ _ _ q)⟩
theorem PT.noW {e : Expr} {t : TT} (i : ∀ st H Q, ¬ t st H Q) : PT X e t := ⟨fun pins s st H Q I q => (i _ _ _ q).elim⟩
theorem PW.impW {e : Expr} {t t' : TT} (h : PW X e t) (i : ∀ st H Q, t' st H Q → t st H Q) : PW X e t' := ⟨fun wh pins s st H Q I q => h.run wh pins s st H Q I (i _ _ _ q)⟩
theorem PW.noW {e : Expr} {t : TT} (i : ∀ st H Q, ¬ t st H Q) : PW X e t := ⟨fun wh pins s st H Q I q => (i _ _ _ q).elim⟩
theorem PA.impW {e : List Expr} {t t' : TA} (h : PA X e t) (i : ∀ st H Q, t' st H Q → t st H Q) : PA X e t' := ⟨fun pos pins s st H Q I q => h.run pos pins s st H Q I (i _ _ _ q)⟩
theorem PA.noW {e : List Expr} {t : TA} (i : ∀ st H Q, ¬ t st H Q) : PA X e t := ⟨fun pos pins s st H Q I q => (i _ _ _ q).elim⟩
theorem PO.impW {e : Option Expr} {t t' : TO} (h : PO X e t) (i : ∀ st H Q, t' st H Q → t st H Q) : PO X e t' := ⟨fun pins s st H Q I q => h.run pins s st H Q I (i _ _ _ q)⟩
end
end L2
namespace PD
open PySem PySem.Spec PyProof.Rows L2
/-! ## expressions: what they denote -/
abbrev OM := Slots → Store → Out (Option Int)
def eBad : EM := fun _ _ => .bad
def eVar (i : Nat) : EM := fun m S => match m[i]? with
  | some (some w) => .ok w S
  | _ => .bad
def eCon (w : W) : EM := fun _ S => .ok w S
def eBin (op : W → W → Store → Out W) (a b : EM) : EM := fun m S => (a m S).bind fun x S1 => (b m S1).bind fun y S2 => op x y S2
def eUn (op : W → Store → Out W) (a : EM) : EM := fun m S => (a m S).bind fun x S1 => op x S1
def eChain (o1 o2 : W → W → Store → Out W) (a b c : EM) : EM := fun m S => (a m S).bind fun x S1 => (b m S1).bind fun y S2 => (o1 x y S2).bind fun z S3 => match z with
  | .bl true => (c m S3).bind fun v S4 => o2 y v S4
  | .bl false => .ok (.bl false) S3
  | _ => .bad
def eAnd (a b : EM) : EM := fun m S => (a m S).bind fun x S1 => match x with
  | .bl true => b m S1
  | .bl false => .ok (.bl false) S1
  | _ => .bad
def eOr (a b : EM) : EM := fun m S => (a m S).bind fun x S1 => match x with
  | .bl false => b m S1
  | .bl true => .ok (.bl true) S1
  | _ => .bad
def eNot (a : EM) : EM := fun m S => (a m S).bind fun x S1 => match x with
  | .bl c => .ok (.bl (!c)) S1
  | _ => .bad
def aNil : AM := fun _ S => .ok [] S
def aCons (e : EM) (as : AM) : AM := fun m S => (e m S).bind fun x S1 => (as m S1).bind fun xs S2 => .ok (x :: xs) S2
def eTup (as : AM) : EM := fun m S => (as m S).bind fun xs S1 => if xs.length ≤ SL then .ok (.tup xs) S1 else .bad
def eLst (as : AM) : EM := fun m S => (as m S).bind fun xs S1 => if xs.length ≤ SL then .ok (.ref S1.length) (S1 ++ [.lst xs]) else .bad
def oNone : OM := fun _ S => .ok none S
def oSome (e : EM) : OM := fun m S => (e m S).bind fun x S1 => match x with
  | .int i => .ok (some i) S1
  | _ => .bad
def eSl (a : EM) (lo hi : OM) : EM := fun m S => (a m S).bind fun x S1 => (lo m S1).bind fun l S2 => (hi m S2).bind fun h S3 => slW x l h S3
def eCall (run : List W → Store → Out W) (ds : List W) (as : AM) : EM := fun m S => (as m S).bind fun xs S1 => run (xs ++ ds) S1
def eMethB (b : BM) (o : EM) (as : AM) : EM := fun m S => (o m S).bind fun x S1 => match bmTy b x S1 with
  | some _ => (as m S1).bind fun xs S2 => bmRun b x xs S2
  | none => .bad
def eFld (o : EM) (f : Str) : EM := fun m S => (o m S).bind fun x S1 => match x with
  | .ref i => (match S1[i]? with
    | some (.ins _ fs) => (match fs.lookup f with
      | some w => .ok w S1
      | none => .bad)
    | _ => .bad)
  | _ => .bad
/-- a dict display: the new dict stands empty meanwhile -/
def putW (kvs : List (W × W)) (k v : W) : List (W × W) := match kvs with
  | [] => [(k, v)]
  | (k', v') :: r => if eqK k' k then (k', v) :: r else (k', v') :: putW r k v
/-- a value's built-in type -/
def tyW : W → Store → Option String
  | .non, _ => some "NoneType"
  | .bl _, _ => some "bool"
  | .int _, _ => some "int"
  | .str _, _ => some "str"
  | .tup _, _ => some "tuple"
  | .ref i, S => match S[i]? with
    | some (.lst _) => some "list"
    | some (.scr _) => some "list"
    | some (.dic _) => some "dict"
    | _ => none
/-- isinstance(a, T), T a built-in type -/
def eIsi (T : String) (a : EM) : EM := fun m S => (a m S).bind fun x S1 => match (tyW x S1).bind fun t => kitB t T with
  | some b => .ok (.bl b) S1
  | none => .bad
/-! tests -/
def tB (e : EM) : TM := fun m S => (e m S).bind fun x S1 => match x with
  | .bl b => .ok b S1
  | _ => .bad
def tVal (e : EM) : TM := fun m S => (e m S).bind fun x S1 => match truW x S1 with
  | some b => .ok b S1
  | none => .bad
def ttAnd (a b : TM) : TM := fun m S => (a m S).bind fun x S1 => if x = true then b m S1 else .ok false S1
def ttOr (a b : TM) : TM := fun m S => (a m S).bind fun x S1 => if x = true then .ok true S1 else b m S1
def ttNot (a : TM) : TM := fun m S => (a m S).bind fun x S1 => .ok (!x) S1
def ttBad : TM := fun _ _ => .bad

/-! ## their readings -/
abbrev wE (W' : WX) (st : L2.St) : XK := fun cls d H => W' cls d st H
def tE (G : Gw) (W' : WX) (m : EM) : TE := fun st H Q => ∃ r sl S, Abs G r S H ∧ SR G r H sl st ∧ Post G (VR G) r H (m sl S) Q (wE W' st)
def tA (G : Gw) (W' : WX) (m : AM) : TA := fun st H Q => ∃ r sl S, Abs G r S H ∧ SR G r H sl st ∧ Post G (VRs G) r H (m sl S) Q (wE W' st)
def RB : List Addr → Hp → Bool → Bool → Prop := fun _ _ a b => a = b
def RI : List Addr → Hp → Option Int → Option Int → Prop := fun _ _ a b => a = b
def tT (G : Gw) (W' : WX) (m : TM) : TT := fun st H Q => ∃ r sl S, Abs G r S H ∧ SR G r H sl st ∧ Post G RB r H (m sl S) Q (wE W' st)
def tO (G : Gw) (W' : WX) (m : OM) : TO := fun st H Q => ∃ r sl S, Abs G r S H ∧ SR G r H sl st ∧ Post G RI r H (m sl S) Q (wE W' st)
section
variable {X : Cx} {G : Gw} {W' : WX} {a b c : EM} {as : AM} {ta tb : TM} {st : L2.St} {H : Hp} {Q : VK}
theorem tE_bad : ¬ tE G W' eBad st H Q := fun ⟨_, _, _, _, _, p⟩ => p
theorem idE {E : XK} : ∀ c d H, E c d H → E c d H := fun _ _ _ z => z
/-- two parts, one behind the other -/
theorem two_of {α β γ δ : Type} {R : List Addr → Hp → α → β → Prop} {R' : List Addr → Hp → γ → δ → Prop} {a : Slots → Store → Out α} {k : α → Store → Out γ} {Q : δ → Hp → Prop} {Q' : β → Hp → Prop} {E : XK} {r : List Addr} {sl : Slots} {S : Store}
    (sr : SR G r H sl st) (p : Post G R' r H ((a sl S).bind k) Q E) (h : ∀ r1 x S1 v H1, Ext G r H r1 H1 → Abs G r1 S1 H1 → SR G r1 H1 sl st → R r1 H1 x v → Post G R' r1 H1 (k x S1) Q E → Q' v H1) : Post G R r H (a sl S) Q' E :=
  p.bind.mono (fun v H1 ⟨r1, x, S1, x1, A1, q1, p1⟩ => h r1 x S1 v H1 x1 A1 (sr.ext x1) q1 p1) idE
theorem me_var {i : Nat} {x : Str} {pos : Pos} (hN : X.N[i]? = some x) (hv : Vis X.env.scope x) (hd : (x == ("__debug__" : Str)) = false) (hcd : (x == ("__classdict__" : Str)) = false) : PE X (.Name x pos) (tE (gw X) W' (eVar i)) := by
  refine (pe_var hN hv hd hcd).impW fun st H Q ⟨r, sl, S, A, sr, p⟩ => ?_
  unfold eVar at p
  split at p
  · rename_i w hw
    obtain ⟨v, e, q⟩ := sr.2 i w hw
    exact ⟨v, e, p.ok A q⟩
  · exact p.elim
theorem me_int {i j pos} : PE X (.Constant (.int i) j pos) (tE (gw X) W' (eCon (.int i))) := pe_int.impW fun st H Q ⟨r, sl, S, A, sr, p⟩ => Post.ok p A .int
theorem me_bl {i j pos} : PE X (.Constant (.bool i) j pos) (tE (gw X) W' (eCon (.bl i))) := pe_bl.impW fun st H Q ⟨r, sl, S, A, sr, p⟩ => Post.ok p A .bl
theorem me_non {j pos} : PE X (.Constant .none j pos) (tE (gw X) W' (eCon .non)) := pe_non.impW fun st H Q ⟨r, sl, S, A, sr, p⟩ => Post.ok p A .non
theorem me_str {i j pos} : PE X (.Constant (.str i) j pos) (tE (gw X) W' (eCon (.str i.cps.toList))) := pe_str.impW fun st H Q ⟨r, sl, S, A, sr, p⟩ => Post.ok p A (.strOf i)
theorem me_glob {x : Str} {w : W} {v : V} {u : Value} {pos : Pos} (hg : Gl X x) (hm : X.mg x = some u) (rv : RelV v u) (rw_ : ∀ r H, VR (gw X) r H w v) (hd : (x == ("__debug__" : Str)) = false) : PE X (.Name x pos) (tE (gw X) W' (eCon w)) :=
  (pe_glob hg hm rv hd).impW fun st H Q ⟨r, sl, S, A, sr, p⟩ => Post.ok p A (rw_ _ _)
theorem me_bin {op : Operator} {f : W → W → Store → Out W} {ea eb : Expr} {pos : Pos} (ho : OpS X (binaryOp op) f) (ha : PE X ea (tE (gw X) W' a)) (hb : PE X eb (tE (gw X) W' b)) : PE X (.BinOp ea op eb pos) (tE (gw X) W' (eBin f a b)) := by
  refine ⟨fun pins s st H Q I h => (pe_op (ho (wE W' st)) ha hb).run pins s st H Q I ?_⟩
  obtain ⟨r, sl, S, A, sr, p⟩ := h
  exact ⟨r, sl, S, A, sr, two_of sr p fun r1 x S1 v H1 x1 A1 s1 q1 p1 => ⟨r1, sl, S1, A1, s1, two_of s1 p1 fun r2 y S2 u H2 x2 A2 s2 q2 p2 => ⟨r2, S2, x, y, A2, q1.ext x2, q2, p2⟩⟩⟩
theorem me_neg {ea : Expr} {pos : Pos} (ha : PE X ea (tE (gw X) W' a)) : PE X (.UnaryOp .USub ea pos) (tE (gw X) W' (eUn unNeg a)) := by
  refine (pe_un un_neg ha).impW fun st H Q ⟨r, sl, S, A, sr, p⟩ => ⟨r, sl, S, A, sr, two_of sr p fun r1 x S1 v H1 x1 A1 s1 q1 p1 => ?_⟩
  cases x with
  | int i => exact ⟨i, q1.int_, Post.ok p1 A1 .int⟩
  | _ => exact p1.elim
theorem me_cmp {op : CmpOp} {f : W → W → Store → Out W} {ea eb : Expr} {pos : Pos} (ho : OpS X (compareOp op) f) (ha : PE X ea (tE (gw X) W' a)) (hb : PE X eb (tE (gw X) W' b)) (hm : behindInMarks op eb = false) : PE X (.Compare ea [op] [eb] pos) (tE (gw X) W' (eBin f a b)) := by
  refine ⟨fun pins s st H Q I h => (pe_cmpR (ho (wE W' st)) ha hb hm).run pins s st H Q I ?_⟩
  obtain ⟨r, sl, S, A, sr, p⟩ := h
  exact ⟨r, sl, S, A, sr, two_of sr p fun r1 x S1 v H1 x1 A1 s1 q1 p1 => ⟨r1, sl, S1, A1, s1, two_of s1 p1 fun r2 y S2 u H2 x2 A2 s2 q2 p2 => ⟨r2, S2, x, y, A2, q1.ext x2, q2, p2⟩⟩⟩
theorem mt_cmp {op : CmpOp} {f : W → W → Store → Out W} {ea eb : Expr} {pos : Pos} (ho : OpS X (compareOp op) f) (ha : PE X ea (tE (gw X) W' a)) (hb : PE X eb (tE (gw X) W' b)) (hm : behindInMarks op eb = false) : PT X (.Compare ea [op] [eb] pos) (tT (gw X) W' (tB (eBin f a b))) := by
  refine ⟨fun pins s st H Q I h => (pt_cmpR (ho (wE W' st)) ha hb hm).run pins s st H Q I ?_⟩
  obtain ⟨r, sl, S, A, sr, p⟩ := h
  have p' : Post (gw X) RB r H ((a sl S).bind fun x S1 => (b sl S1).bind fun y S2 => (f x y S2).bind fun z S3 => match z with
    | .bl b => .ok b S3
    | _ => .bad) Q (wE W' st) := by
    unfold tB eBin at p
    cases e1 : a sl S with
    | ok x S1 =>
      rw [e1] at p
      simp only [bind_ok] at p ⊢
      cases e2 : b sl S1 with
      | ok y S2 => rw [e2] at p; exact p
      | exc y S2 => rw [e2] at p; exact p
      | bad => rw [e2] at p; exact p
    | exc x S1 => rw [e1] at p; exact p
    | bad => rw [e1] at p; exact p
  refine ⟨r, sl, S, A, sr, two_of sr p' fun r1 x S1 v H1 x1 A1 s1 q1 p1 => ⟨r1, sl, S1, A1, s1, two_of s1 p1 fun r2 y S2 u H2 x2 A2 s2 q2 p2 => ⟨r2, S2, x, y, A2, q1.ext x2, q2, ?_⟩⟩⟩
  refine two_of (a := fun _ S => f x y S) s2 p2 fun r3 z S3 v3 H3 x3 A3 s3 q3 p3 => ?_
  cases z with
  | bl k => exact ⟨k, q3.bl_, Post.ok p3 A3 rfl⟩
  | _ => exact p3.elim
theorem me_chain {op op' : CmpOp} {f f' : W → W → Store → Out W} {ea eb ec : Expr} {pos : Pos} (ho : OpS X (compareOp op) f) (ho' : OpS X (compareOp op') f') (ha : PE X ea (tE (gw X) W' a)) (hb : PE X eb (tE (gw X) W' b)) (hc : PE X ec (tE (gw X) W' c))
    (hm : lastMarks [op, op'] [eb, ec] = false) : PE X (.Compare ea [op, op'] [eb, ec] pos) (tE (gw X) W' (eChain f f' a b c)) := by
  refine ⟨fun pins s st H Q I h => (pe_chain (ho (wE W' st)) (ho' (wE W' st)) ha hb hc hm).run pins s st H Q I ?_⟩
  obtain ⟨r, sl, S, A, sr, p⟩ := h
  refine ⟨r, sl, S, A, sr, two_of sr p fun r1 x S1 v H1 x1 A1 s1 q1 p1 => ⟨r1, sl, S1, A1, s1, two_of s1 p1 fun r2 y S2 u H2 x2 A2 s2 q2 p2 => ⟨r2, S2, x, y, A2, q1.ext x2, q2, ?_⟩⟩⟩
  refine two_of (a := fun _ S => f x y S) s2 p2 fun r3 z S3 v3 H3 x3 A3 s3 q3 p3 => ?_
  cases z with
  | bl k =>
    cases k with
    | true => exact ⟨true, q3.bl_, ⟨r3, sl, S3, A3, s3, two_of s3 p3 fun r4 y4 S4 u4 H4 x4 A4 s4 q4 p4 => ⟨r4, S4, y, y4, A4, (q2.ext x3).ext x4, q4, p4⟩⟩⟩
    | false => exact ⟨false, q3.bl_, Post.ok p3 A3 .bl⟩
  | _ => exact p3.elim
theorem mt_chain {op op' : CmpOp} {f f' : W → W → Store → Out W} {ea eb ec : Expr} {pos : Pos} (ho : OpS X (compareOp op) f) (ho' : OpS X (compareOp op') f') (ha : PE X ea (tE (gw X) W' a)) (hb : PE X eb (tE (gw X) W' b)) (hc : PE X ec (tE (gw X) W' c))
    (hm : lastMarks [op, op'] [eb, ec] = false) : PT X (.Compare ea [op, op'] [eb, ec] pos) (tT (gw X) W' (tB (eChain f f' a b c))) := by
  refine ⟨fun pins s st H Q I h => (pt_chain (ho (wE W' st)) (ho' (wE W' st)) ha hb hc hm).run pins s st H Q I ?_⟩
  obtain ⟨r, sl, S, A, sr, p⟩ := h
  let k2 : W → Store → Out Bool := fun z S => match z with
    | .bl b => .ok b S
    | _ => .bad
  have p' : Post (gw X) RB r H ((a sl S).bind fun x S1 => (b sl S1).bind fun y S2 => (f x y S2).bind fun z S3 => match z with
    | .bl true => (c sl S3).bind fun v S4 => (f' y v S4).bind k2
    | .bl false => .ok false S3
    | _ => .bad) Q (wE W' st) := by
    unfold tB eChain at p
    cases e1 : a sl S with
    | ok x S1 =>
      rw [e1] at p
      simp only [bind_ok] at p ⊢
      cases e2 : b sl S1 with
      | ok y S2 =>
        rw [e2] at p
        simp only [bind_ok] at p ⊢
        cases e3 : f x y S2 with
        | ok z S3 =>
          rw [e3] at p
          simp only [bind_ok] at p ⊢
          cases z with
          | bl k =>
            cases k with
            | true =>
              simp only at p ⊢
              cases e4 : c sl S3 with
              | ok v S4 => rw [e4] at p; exact p
              | exc v S4 => rw [e4] at p; exact p
              | bad => rw [e4] at p; exact p
            | false => exact p
          | _ => exact p
        | exc z S3 => rw [e3] at p; exact p
        | bad => rw [e3] at p; exact p
      | exc y S2 => rw [e2] at p; exact p
      | bad => rw [e2] at p; exact p
    | exc x S1 => rw [e1] at p; exact p
    | bad => rw [e1] at p; exact p
  refine ⟨r, sl, S, A, sr, two_of sr p' fun r1 x S1 v H1 x1 A1 s1 q1 p1 => ⟨r1, sl, S1, A1, s1, two_of s1 p1 fun r2 y S2 u H2 x2 A2 s2 q2 p2 => ⟨r2, S2, x, y, A2, q1.ext x2, q2, ?_⟩⟩⟩
  refine two_of (a := fun _ S => f x y S) s2 p2 fun r3 z S3 v3 H3 x3 A3 s3 q3 p3 => ?_
  cases z with
  | bl k =>
    cases k with
    | true =>
      refine ⟨true, q3.bl_, ⟨r3, sl, S3, A3, s3, two_of s3 p3 fun r4 y4 S4 u4 H4 x4 A4 s4 q4 p4 => ⟨r4, S4, y, y4, A4, (q2.ext x3).ext x4, q4, ?_⟩⟩⟩
      refine two_of (a := fun _ S => f' y y4 S) s4 p4 fun r5 z5 S5 v5 H5 x5 A5 s5 q5 p5 => ?_
      cases z5 with
      | bl k => exact ⟨k, q5.bl_, Post.ok p5 A5 rfl⟩
      | _ => exact p5.elim
    | false => exact ⟨false, q3.bl_, false, rfl, Post.ok p3 A3 rfl⟩
  | _ => exact p3.elim
theorem me_and {ea eb : Expr} {rest : List Expr} {pos : Pos} (ha : PE X ea (tE (gw X) W' a)) (hb : PE X (.BoolOp .And (eb :: rest) pos) (tE (gw X) W' b)) : PE X (.BoolOp .And (ea :: eb :: rest) pos) (tE (gw X) W' (eAnd a b)) := by
  refine (pe_and ha hb).impW fun st H Q ⟨r, sl, S, A, sr, p⟩ => ⟨r, sl, S, A, sr, two_of sr p fun r1 x S1 v H1 x1 A1 s1 q1 p1 => ?_⟩
  cases x with
  | bl k =>
    refine ⟨k, q1.bl_, ?_⟩
    cases k with
    | true => exact ⟨r1, sl, S1, A1, s1, p1⟩
    | false => exact Post.ok p1 A1 .bl
  | _ => exact p1.elim
theorem me_or {ea eb : Expr} {rest : List Expr} {pos : Pos} (ha : PE X ea (tE (gw X) W' a)) (hb : PE X (.BoolOp .Or (eb :: rest) pos) (tE (gw X) W' b)) : PE X (.BoolOp .Or (ea :: eb :: rest) pos) (tE (gw X) W' (eOr a b)) := by
  refine (pe_or ha hb).impW fun st H Q ⟨r, sl, S, A, sr, p⟩ => ⟨r, sl, S, A, sr, two_of sr p fun r1 x S1 v H1 x1 A1 s1 q1 p1 => ?_⟩
  cases x with
  | bl k =>
    refine ⟨k, q1.bl_, ?_⟩
    cases k with
    | true => exact Post.ok p1 A1 .bl
    | false => exact ⟨r1, sl, S1, A1, s1, p1⟩
  | _ => exact p1.elim
theorem me_not {ea : Expr} {pos : Pos} (ha : PE X ea (tE (gw X) W' a)) : PE X (.UnaryOp .Not ea pos) (tE (gw X) W' (eNot a)) := by
  refine (pe_not ha).impW fun st H Q ⟨r, sl, S, A, sr, p⟩ => ⟨r, sl, S, A, sr, two_of sr p fun r1 x S1 v H1 x1 A1 s1 q1 p1 => ?_⟩
  cases x with
  | bl k => exact ⟨k, q1.bl_, Post.ok p1 A1 .bl⟩
  | _ => exact p1.elim
theorem ma_nil : PA X [] (tA (gw X) W' aNil) := pa_nil.impW fun st H Q ⟨r, sl, S, A, sr, p⟩ => Post.ok p A .nil
theorem ma_cons {e : Expr} {es : List Expr} (ha : PE X e (tE (gw X) W' a)) (hs : PA X es (tA (gw X) W' as)) (hst : starEach (e :: es) X.env = (false, eval e X.env) :: starEach es X.env) : PA X (e :: es) (tA (gw X) W' (aCons a as)) :=
  (pa_cons ha hs hst).impW fun st H Q ⟨r, sl, S, A, sr, p⟩ => ⟨r, sl, S, A, sr, two_of sr p fun r1 x S1 v H1 x1 A1 s1 q1 p1 => ⟨r1, sl, S1, A1, s1, two_of s1 p1 fun r2 y S2 u H2 x2 A2 s2 q2 p2 => Post.ok p2 A2 (.cons (q1.ext x2) q2)⟩⟩
theorem me_tup {es : List Expr} {k : Nat} {pos : Pos} (h : PA X es (tA (gw X) W' as)) : PE X (.Tuple es k pos) (tE (gw X) W' (eTup as)) := by
  refine (pe_tup h).impW fun st H Q ⟨r, sl, S, A, sr, p⟩ => ⟨r, sl, S, A, sr, two_of sr p fun r1 x S1 v H1 x1 A1 s1 q1 p1 => ?_⟩
  split at p1
  · rename_i hl
    exact ⟨by rw [← q1.length, sl_eq]; exact hl, post_tup A1 q1 p1⟩
  · exact p1.elim
theorem me_lst {es : List Expr} {pos : Pos} (h : PA X es (tA (gw X) W' as)) : PE X (.List es pos) (tE (gw X) W' (eLst as)) := by
  refine (pe_lst h).impW fun st H Q ⟨r, sl, S, A, sr, p⟩ => ⟨r, sl, S, A, sr, two_of sr p fun r1 x S1 v H1 x1 A1 s1 q1 p1 => ?_⟩
  split at p1
  · rename_i hl
    exact ⟨by rw [← q1.length, sl_eq]; exact hl, post_lst A1 q1 p1⟩
  · exact p1.elim
theorem me_ix {ea eb : Expr} {pos : Pos} (ha : PE X ea (tE (gw X) W' a)) (hb : PE X eb (tE (gw X) W' b)) (hs : PlainIx eb) : PE X (.Subscript ea eb pos) (tE (gw X) W' (eBin ixW a b)) := by
  refine ⟨fun pins s st H Q I h => (pe_ix (ixs (wE W' st)) ha hb hs).run pins s st H Q I ?_⟩
  obtain ⟨r, sl, S, A, sr, p⟩ := h
  exact ⟨r, sl, S, A, sr, two_of sr p fun r1 x S1 v H1 x1 A1 s1 q1 p1 => ⟨r1, sl, S1, A1, s1, two_of s1 p1 fun r2 y S2 u H2 x2 A2 s2 q2 p2 => ⟨r2, S2, x, y, A2, q1.ext x2, q2, p2⟩⟩⟩
theorem mo_none : PO X none (tO (gw X) W' oNone) := po_none.impW fun st H Q ⟨r, sl, S, A, sr, p⟩ => Post.ok p A rfl
theorem mo_some {e : Expr} (ha : PE X e (tE (gw X) W' a)) : PO X (some e) (tO (gw X) W' (oSome a)) := by
  refine (po_some ha).impW fun st H Q ⟨r, sl, S, A, sr, p⟩ => ⟨r, sl, S, A, sr, two_of sr p fun r1 x S1 v H1 x1 A1 s1 q1 p1 => ?_⟩
  cases x with
  | int i => exact ⟨i, q1.int_, Post.ok p1 A1 rfl⟩
  | _ => exact p1.elim
theorem me_sl {ea : Expr} {lo hi : Option Expr} {ol oh : OM} {p2 pos : Pos} (ha : PE X ea (tE (gw X) W' a)) (hl : PO X lo (tO (gw X) W' ol)) (hh : PO X hi (tO (gw X) W' oh)) : PE X (.Subscript ea (.Slice lo hi none p2) pos) (tE (gw X) W' (eSl a ol oh)) := by
  refine ⟨fun pins s st H Q I h => (pe_slice (sls (wE W' st)) ha hl hh).run pins s st H Q I ?_⟩
  obtain ⟨r, sl, S, A, sr, p⟩ := h
  exact ⟨r, sl, S, A, sr, two_of sr p fun r1 x S1 v H1 x1 A1 s1 q1 p1 => ⟨r1, sl, S1, A1, s1, two_of s1 p1 fun r2 l S2 l' H2 x2 A2 s2 q2 p2 => ⟨r2, sl, S2, A2, s2, two_of s2 p2 fun r3 h S3 h' H3 x3 A3 s3 q3 p3 => by
    have e1 : l = l' := q2
    have e2 : h = h' := q3
    subst e1; subst e2
    exact ⟨r3, S3, x, A3, (q1.ext x2).ext x3, p3⟩⟩⟩⟩
theorem me_callB {x : Str} {id : String} {bf : BF} {e : Expr} {es : List Expr} {p pos : Pos} (hc : CallS X (.builtin id) bf) (hg : Gl X x) (hm : X.mg x = none) (hv : bootBuiltins x = some (.builtin id)) (ha : PA X (e :: es) (tA (gw X) W' as)) (hn : x ≠ "__name__") (hdb : (x == ("__debug__" : Str)) = false)
    (he : starEach (e :: es) X.env = (false, eval e X.env) :: starEach es X.env) (hpl : (backTo pos (starEach es X.env)).any (·.1) = false) : PE X (.Call (.Name x p) (e :: es) [] pos) (tE (gw X) W' (eCall bf [] as)) := by
  refine ⟨fun pins s st H Q I h => (pe_callB (hc (wE W' st)) hg hm hv ha hn hdb he hpl).run pins s st H Q I ?_⟩
  obtain ⟨r, sl, S, A, sr, p⟩ := h
  refine ⟨r, sl, S, A, sr, two_of sr p fun r1 x S1 v H1 x1 A1 s1 q1 p1 => ?_⟩
  rw [List.append_nil] at p1
  exact ⟨r1, S1, x, A1, q1, p1⟩
theorem me_callTy {x : Str} {id : String} {bf : BF} {e : Expr} {es : List Expr} {p pos : Pos} (hc : CallS X (.type id) bf) (hg : Gl X x) (hm : X.mg x = none) (hv : bootBuiltins x = some (.type id)) (ha : PA X (e :: es) (tA (gw X) W' as)) (hn : x ≠ "__name__") (hdb : (x == ("__debug__" : Str)) = false)
    (he : starEach (e :: es) X.env = (false, eval e X.env) :: starEach es X.env) (hpl : (backTo pos (starEach es X.env)).any (·.1) = false) : PE X (.Call (.Name x p) (e :: es) [] pos) (tE (gw X) W' (eCall bf [] as)) := by
  refine ⟨fun pins s st H Q I h => (pe_callTy (hc (wE W' st)) hg hm hv ha hn hdb he hpl).run pins s st H Q I ?_⟩
  obtain ⟨r, sl, S, A, sr, p⟩ := h
  refine ⟨r, sl, S, A, sr, two_of sr p fun r1 x S1 v H1 x1 A1 s1 q1 p1 => ?_⟩
  rw [List.append_nil] at p1
  exact ⟨r1, S1, x, A1, q1, p1⟩
/-- what a built-in's method is -/
structure BmOk (b : BM) (name : Str) (T : String) : Prop where
  pa : PlainAttrs T
  slot : Slot T name (bmId b)
  ty : typeOf (.builtin (bmId b)) = pure (.type "method_descriptor")
  only : ∀ w S T', bmTy b w S = some T' → T' = T
theorem me_methB0 {b : BM} {name : Str} {T : String} {o : Expr} {apos cpos : Pos} (k : BmOk b name T) (ho : PE X o (tE (gw X) W' a)) (hbase : attributeBase o name X.env (eval o X.env) = eval o X.env) (hline : (apos.endLine == cpos.line) = true) :
    PE X (.Call (.Attribute o name apos) [] [] cpos) (tE (gw X) W' (eMethB b a aNil)) := by
  refine ⟨fun pins s st H Q I h => (pe_bm0 k.pa k.slot k.ty (ms (E := wE W' st) b) ho hbase hline).run pins s st H Q I ?_⟩
  obtain ⟨r, sl, S, A, sr, p⟩ := h
  refine ⟨r, sl, S, A, sr, two_of sr p fun r1 x S1 v H1 x1 A1 s1 q1 p1 => ?_⟩
  split at p1
  · rename_i T' hT
    have e := k.only _ _ _ hT
    subst e
    exact ⟨(bmTy_ok A1 q1 hT).1, r1, S1, x, [], A1, q1, .nil, p1⟩
  · exact p1.elim
theorem me_methB {b : BM} {name : Str} {T : String} {o e : Expr} {es : List Expr} {apos cpos : Pos} (k : BmOk b name T) (ho : PE X o (tE (gw X) W' a)) (ha : PA X (e :: es) (tA (gw X) W' as)) (hbase : attributeBase o name X.env (eval o X.env) = eval o X.env)
    (hfew : ((backTo cpos (starEach (e :: es) X.env)).all (fun x => !x.1) && (backToKw cpos (keywordEach [] X.env)).all (fun x => x.1.isSome)
      && decide ((e :: es).length + ([] : List Keyword).length + (if ([] : List Keyword).isEmpty then 0 else 1) < 30)) = true)
    (hline : (apos.endLine == cpos.line) = true) (hs : starEach (e :: es) X.env = (false, eval e X.env) :: starEach es X.env) (hplain : (backTo cpos (starEach es X.env)).any (·.1) = false) :
    PE X (.Call (.Attribute o name apos) (e :: es) [] cpos) (tE (gw X) W' (eMethB b a as)) := by
  refine ⟨fun pins s st H Q I h => (pe_bm k.pa k.slot k.ty (ms (E := wE W' st) b) ho ha hbase hfew hline hs hplain).run pins s st H Q I ?_⟩
  obtain ⟨r, sl, S, A, sr, p⟩ := h
  refine ⟨r, sl, S, A, sr, two_of sr p fun r1 x S1 v H1 x1 A1 s1 q1 p1 => ?_⟩
  split at p1
  · rename_i T' hT
    have e := k.only _ _ _ hT
    subst e
    exact ⟨(bmTy_ok A1 q1 hT).1, r1, sl, S1, A1, s1, two_of s1 p1 fun r2 y S2 u H2 x2 A2 s2 q2 p2 => ⟨r2, S2, x, y, A2, q1.ext x2, q2, p2⟩⟩
  · exact p1.elim
theorem ty_of {w : W} {v : V} {t : String} {K : PySem.W.Frag} {mg : Str → Option Value} {r : List Addr} {S : Store} (A : Abs ⟨K, mg⟩ r S H) (q : VR ⟨K, mg⟩ r H w v) (e : tyW w S = some t) : TyX K H v (.type t) := by
  cases w with
  | non => have z := q.non_; subst z; cases e; exact .base .non
  | bl c => have z := q.bl_; subst z; cases e; exact .base (.bl c)
  | int c => have z := q.int_; subst z; cases e; exact .base (.int c)
  | str c => have z := q.str_; subst z; cases e; exact .base (.str _)
  | tup xs =>
    obtain ⟨a, vs, rfl, q1, t1⟩ := q.tup_
    cases e
    rcases q1 with (h | ⟨o, h⟩) | ⟨o, its, n, h1, h2, _⟩
    · exact .base (.tup h)
    · exact .fTuple h
    · exact .kTuple h1 h2
  | ref i =>
    obtain ⟨a, h1, rfl⟩ := q.ref_
    simp only [tyW] at e
    split at e
    · rename_i xs hx
      cases e
      obtain ⟨vs, q1, t1⟩ := A.lst hx h1
      exact .base (.lst q1)
    · rename_i xs hx
      cases e
      obtain ⟨vs, q1, t1⟩ := A.scr hx h1
      rcases q1 with ⟨o, h⟩ | ⟨o, its, n, h1, h2, _⟩
      · exact .base (.frz h)
      · exact .kList h1 h2
    · rename_i xs hx
      cases e
      obtain ⟨vs, q1, t1⟩ := A.dic hx h1
      exact .base (.dK q1)
    · cases e
theorem me_isi {ea : Expr} {T : String} {tn : Str} {p p1 pos : Pos} (ha : PE X ea (tE (gw X) W' a)) (hg : Gl X "isinstance") (hm : X.mg "isinstance" = none) (hg2 : Gl X tn) (hm2 : X.mg tn = none) (hv2 : bootBuiltins tn = some (.type T)) (hn2 : tn ≠ "__name__") (hd2 : (tn == ("__debug__" : Str)) = false)
    (he : starEach (ea :: [.Name tn p1]) X.env = (false, eval ea X.env) :: starEach [.Name tn p1] X.env) : PE X (.Call (.Name "isinstance" p) [ea, .Name tn p1] [] pos) (tE (gw X) W' (eIsi T a)) := by
  have hb : PE X (.Name tn p1) (tC (.ty T)) := pe_bltn hg2 hm2 hv2 (show RelV (.ty T) (.type T) from rfl) hn2 hd2
  refine (pe_callB call_isi hg hm (by decide +kernel) (pa_cons ha (pa_cons hb pa_nil rfl) he) (by decide) (by decide) he rfl).impW fun st H Q ⟨r, sl, S, A, sr, p⟩ => ⟨r, sl, S, A, sr, two_of sr p fun r1 x S1 v H1 x1 A1 s1 q1 p1 => ?_⟩
  split at p1
  · rename_i k hk
    obtain ⟨t, ht, hkt⟩ := Option.bind_eq_some_iff.mp hk
    exact ⟨v, .ty T, _, _, k, rfl, .ty T, ty_of A1 q1 ht, kit_ty hkt, Post.ok p1 A1 .bl⟩
  · exact p1.elim
/-! tests -/
theorem mt_val {ea : Expr} (ha : PE X ea (tE (gw X) W' a)) (he : ∀ whole, isTrue ea X.env whole = (do let v ← whole; standAt ea.pos; holding [v] (truthy v))) : PT X ea (tT (gw X) W' (tVal a)) := by
  refine (pt_truth ha he).impW fun st H Q ⟨r, sl, S, A, sr, p⟩ => ⟨r, sl, S, A, sr, two_of sr p fun r1 x S1 v H1 x1 A1 s1 q1 p1 => ?_⟩
  split at p1
  · rename_i k hk
    exact ⟨k, tru_of A1 q1 hk, Post.ok p1 A1 rfl⟩
  · exact p1.elim
theorem mt_not {ea : Expr} {pos : Pos} (ha : PT X ea (tT (gw X) W' ta)) : PT X (.UnaryOp .Not ea pos) (tT (gw X) W' (ttNot ta)) := by
  refine (pt_not ha).impW fun st H Q ⟨r, sl, S, A, sr, p⟩ => ⟨r, sl, S, A, sr, two_of sr p fun r1 x S1 v H1 x1 A1 s1 q1 p1 => ?_⟩
  have e : x = v := q1
  subst e
  exact Post.ok p1 A1 rfl
theorem mw_and {ea eb : Expr} {rest : List Expr} {pos : Pos} (ha : PT X ea (tT (gw X) W' ta)) (hb : PW X (.BoolOp .And (eb :: rest) pos) (tT (gw X) W' tb)) : PW X (.BoolOp .And (ea :: eb :: rest) pos) (tT (gw X) W' (ttAnd ta tb)) := by
  refine (pw_and ha hb).impW fun st H Q ⟨r, sl, S, A, sr, p⟩ => ⟨r, sl, S, A, sr, two_of sr p fun r1 x S1 v H1 x1 A1 s1 q1 p1 => ?_⟩
  have e : x = v := q1
  subst e
  cases x with
  | true => exact ⟨r1, sl, S1, A1, s1, p1⟩
  | false => exact Post.ok p1 A1 rfl
theorem mw_or {ea eb : Expr} {rest : List Expr} {pos : Pos} (ha : PT X ea (tT (gw X) W' ta)) (hb : PW X (.BoolOp .Or (eb :: rest) pos) (tT (gw X) W' tb)) : PW X (.BoolOp .Or (ea :: eb :: rest) pos) (tT (gw X) W' (ttOr ta tb)) := by
  refine (pw_or ha hb).impW fun st H Q ⟨r, sl, S, A, sr, p⟩ => ⟨r, sl, S, A, sr, two_of sr p fun r1 x S1 v H1 x1 A1 s1 q1 p1 => ?_⟩
  have e : x = v := q1
  subst e
  cases x with
  | false => exact ⟨r1, sl, S1, A1, s1, p1⟩
  | true => exact Post.ok p1 A1 rfl
end
end PD

namespace PD
open PySem PySem.Spec PyProof.Rows L2
/-! ## defs, classes, constants of the text -/
structure FnM where
  n : Nat
  dfl : List W
  run : List W → Store → Out W
/-- the defaults that fill up a call of k arguments -/
def FnM.fill (m : FnM) (k : Nat) : Option (List W) := if k ≤ m.n ∧ m.n - k ≤ m.dfl.length then some (m.dfl.drop (m.dfl.length - (m.n - k))) else none
structure ClM where
  init : Option FnM
  ms : List (Str × FnM)
  ats : List Str
inductive GV where
  | fn (m : FnM)
  | cls (c : ClM)
  | con (w : W)
  | exc
structure Gam where
  tab : List (Str × GV)
  blt : List Str
def spM (G : Gw) (m : FnM) : Sp := fun vs H Q E => ∃ r S ws, Abs G r S H ∧ VRs G r H ws vs ∧ ws.length = m.n ∧ Post G (VR G) r H (m.run ws S) Q E
section
variable (P : Program) (w : World) (K : PySem.W.Frag) (mg : Str → Option Value) (base : Heap)
structure FnHas (k : Nat) (f : Addr) (m : FnM) : Prop where
  kp : PySem.W.keepIn K (.ref f) = true
  ex : ∃ fd ps, ps.length = m.n ∧ FnOk P w K mg base (L2.CX P w) k f fd ps (spM ⟨K, mg⟩ m) ∧
    ∀ j ds, m.fill j = some ds → ∃ dvs dus, Vals dvs dus ∧ (∀ r H, VRs ⟨K, mg⟩ r H ds dvs) ∧ Binds K fd ps dus
/-- what a class whose errors are raised must have -/
structure ExcHas (C : Addr) : Prop where
  own : PySem.W.excIn K C [.type "ValueError", .type "Exception", .type "BaseException", .type "object"] "ValueError.__new__" = true
  kp : PySem.W.keepIn K (.ref C) = true
  sub : PySem.W.subIn K (.ref C) (.type "BaseException") = some true
  ty : PySem.W.typeIn K (.ref C) = some (.type "type")
structure GOk (k : Nat) (g : Gam) : Prop where
  fn : ∀ x m, (x, GV.fn m) ∈ g.tab → ∃ f, mg x = some (.ref f) ∧ FnHas P w K mg base k f m
  con : ∀ x c, (x, GV.con c) ∈ g.tab → ∃ u v, mg x = some u ∧ RelV v u ∧ ∀ r H, VR ⟨K, mg⟩ r H c v
  blt : ∀ x ∈ g.blt, mg x = none
  cls : ∀ x c, (x, GV.cls c) ∈ g.tab → ∃ C, mg x = some (.ref C) ∧ Cls K C ∧ (∀ n m, (n, m) ∈ c.ms → ∃ f, Meth K C n f ∧ FnHas P w K mg base k f m) ∧ (∀ a ∈ c.ats, NoAttr K C a) ∧
    ∀ m, c.init = some m → ∃ f j, Mk K C f ∧ FnHas P w K mg base j f m ∧ j + 1 ≤ k
  exc : ∀ x, (x, GV.exc) ∈ g.tab → ∃ C, mg x = some (.ref C) ∧ ExcHas K C
end
def methTab (g : Gam) (name : Str) (k : Nat) : List (Str × (List W → Store → Out W) × List W) := g.tab.filterMap fun p => match p.2 with
  | .cls c => (match c.ms.lookup name with
    | some m => (m.fill k).map fun ds => (p.1, m.run, ds)
    | none => none)
  | _ => none
def clsWith (g : Gam) (f : Str) : List Str := g.tab.filterMap fun p => match p.2 with
  | .cls c => if c.ats.contains f then some p.1 else none
  | _ => none
def eMethU (tab : List (Str × (List W → Store → Out W) × List W)) (name : Str) (o : EM) (as : AM) : EM := fun m S => (o m S).bind fun x S1 => match x with
  | .ref i => (match S1[i]? with
    | some (.ins c fs) => (match tab.lookup c, fs.lookup name with
      | some (run, ds), none => (as m S1).bind fun xs S2 => run (.ref i :: (xs ++ ds)) S2
      | _, _ => .bad)
    | _ => .bad)
  | _ => .bad
def eFldC (cs : List Str) (o : EM) (f : Str) : EM := fun m S => (o m S).bind fun x S1 => match x with
  | .ref i => (match S1[i]? with
    | some (.ins c fs) => if cs.contains c then (match fs.lookup f with
      | some w => .ok w S1
      | none => .bad) else .bad
    | _ => .bad)
  | _ => .bad
/-- C(..): a new instance, then its __init__ -/
def eNew (c : Str) (run : List W → Store → Out W) (ds : List W) (as : AM) : EM := fun m S => (as m S).bind fun xs S1 => (run (.ref S1.length :: (xs ++ ds)) (S1 ++ [.ins c []])).bind fun v S2 => match v with
  | .non => .ok (.ref S1.length) S2
  | _ => .bad
section
variable {X : Cx} {W' : WX} {a : EM} {as : AM} {st : L2.St} {H : Hp} {k : Nat}
theorem fn_run {pins : List (Addr × Obj)} {s : Shared} {st : L2.St} {H : Hp} {Q : VK} {us ds : List Value} {vs dvs : List V} {f : Addr} {fd : FuncData} {ps : List Str} {sp : Sp} (F : FnOk X.prog X.w X.K X.mg X.base (L2.CX X.prog X.w) k f fd ps sp) (hr : Room k X.A) (hb : Binds X.K fd ps ds) (hd : Vals dvs ds)
    (tk : Takes X W') (I : L2.Inv X pins st H s) (rv : Vals vs us) (h : sp (vs ++ dvs) H Q (wE W' st)) : wpAny (model X.prog X.w) X.A (call (.ref f) us) (EP X pins st Q) X.xe s := by
  have r2 : Vals (vs ++ dvs) (us ++ ds) := rv.append hd
  have hl : (us ++ ds).length = ps.length := by rw [← r2.length]; exact F.len _ _ _ _ h
  refine wpAny_call (codeAny_mono (F.run X.A X.stack s H ⟨us, []⟩ _ _ Q (wE W' st) hr I.env0 (hb s us I.kIn hl) r2 h) fun o s' hq => ?_)
  cases o with
  | error e => exact passAt tk st pins H s e s' I hq
  | ok fl =>
    cases fl with
    | ret u => exact I.after hq
    | next => exact False.elim hq
    | brk => exact False.elim hq
    | cont => exact False.elim hq
theorem me_call {x : Str} {f : Addr} {m : FnM} {ds : List W} {e : Expr} {es : List Expr} {p pos : Pos} (F : FnHas X.prog X.w X.K X.mg X.base k f m) (hr : Room k X.A) (tk : Takes X W') (hg : Gl X x) (hm : X.mg x = some (.ref f)) (hf : m.fill (e :: es).length = some ds)
    (ha : PA X (e :: es) (tA (gw X) W' as)) (hn : ∀ sl S xs S', as sl S = .ok xs S' → xs.length = (e :: es).length) (hdb : (x == ("__debug__" : Str)) = false)
    (he : starEach (e :: es) X.env = (false, eval e X.env) :: starEach es X.env) (hpl : (backTo pos (starEach es X.env)).any (·.1) = false) : PE X (.Call (.Name x p) (e :: es) [] pos) (tE (gw X) W' (eCall m.run ds as)) := by
  obtain ⟨fd, ps, hps, ok, bd⟩ := F.ex
  obtain ⟨dvs, dus, rd, rw_, B⟩ := bd _ _ hf
  refine ⟨fun pins s st H Q I ⟨r, sl, S, A, sr, q⟩ => ?_⟩
  refine wpAny_Call_Name_kw (ld_glob I hg hm ?_ hdb)
  have h1 : tA (gw X) W' as st H fun vs H1 => spM (gw X) m (vs ++ dvs) H1 Q (wE W' st) := by
    refine ⟨r, sl, S, A, sr, ?_⟩
    cases e1 : as sl S with
    | bad => unfold eCall at q; rw [e1] at q; exact q
    | exc y S1 => unfold eCall at q; rw [e1] at q; exact q
    | ok xs S1 =>
      have hl := hn _ _ _ _ e1
      unfold eCall at q
      rw [e1] at q
      intro r1 H1 vs y A1 q1
      refine ⟨r1, S1, xs ++ ds, A1, q1.append (rw_ _ _), ?_, Post.ext y q⟩
      unfold FnM.fill at hf
      split at hf
      · rename_i hc
        cases hf
        rw [List.length_append, hl, List.length_drop]
        omega
      · cases hf
  refine PySem.W.callWith_K (h₀ := X.base) I.ok.mod.kin F.kp (thn (ha.run pos pins s st H _ I h1) fun us s1 ⟨vs, H1, I1, rv, q1⟩ => ⟨I1.kIn, ?_⟩) he hpl
  exact fn_run ok hr B rd tk I1 rv q1
theorem me_call0 {x : Str} {f : Addr} {m : FnM} {ds : List W} {p pos : Pos} (F : FnHas X.prog X.w X.K X.mg X.base k f m) (hr : Room k X.A) (tk : Takes X W') (hg : Gl X x) (hm : X.mg x = some (.ref f)) (hf : m.fill 0 = some ds)
    (hdb : (x == ("__debug__" : Str)) = false) : PE X (.Call (.Name x p) [] [] pos) (tE (gw X) W' (eCall m.run ds aNil)) := by
  obtain ⟨fd, ps, hps, ok, bd⟩ := F.ex
  obtain ⟨dvs, dus, rd, rw_, B⟩ := bd _ _ hf
  refine ⟨fun pins s st H Q I ⟨r, sl, S, A, sr, q⟩ => ?_⟩
  refine wpAny_Call_Name_kw (ld_glob I hg hm ?_ hdb)
  refine PySem.W.callWith_K0 I.kIn F.kp (fn_run (us := []) (vs := []) ok hr B rd tk I .nil ⟨r, S, ds, A, rw_ _ _, ?_, q⟩)
  unfold FnM.fill at hf
  split at hf
  · rename_i hc
    cases hf
    rw [List.length_drop]
    omega
  · cases hf
theorem meth_tree {o : Expr} {name : Str} {args : List Expr} {apos pos : Pos} {env : Env} (hbase : attributeBase o name env (eval o env) = eval o env)
    (hfew : methodCallForm (args.length + ([] : List Keyword).length) (backTo pos (starEach args env)) (backToKw pos (keywordEach [] env)) = true) (hline : (apos.endLine == pos.line) = true) :
    eval (.Call (.Attribute o name apos) args [] pos) env = (do
      let ov ← eval o env
      standAt apos.atName
      let (f, first) ← holding [ov] (getMethod ov name (do return (← importBound o env).getD true))
      callWith pos f first (backTo pos (starEach args env)) (backToKw pos (keywordEach [] env))) := by
  rw [arm_eval_Call, hbase]
  have hpos : methodCallPos true o env apos pos = pure pos := by unfold methodCallPos; simp [hline]
  unfold methodCall
  rw [hfew, hpos]
  rfl
theorem mem_of_lk {α : Type} : ∀ {l : List (Str × α)} {x : Str} {v : α}, l.lookup x = some v → (x, v) ∈ l
  | [], _, _, h => by simp at h
  | (y, u) :: l, x, v, h => by
    rw [List.lookup_cons] at h
    cases e : x == y with
    | true =>
      rw [e] at h
      cases h
      rw [eq_of_beq e]
      exact List.mem_cons_self
    | false =>
      rw [e] at h
      exact List.mem_cons_of_mem _ (mem_of_lk h)
theorem mem_methTab {g : Gam} {name : Str} {k : Nat} {c : Str} {run : List W → Store → Out W} {ds : List W} (h : (c, run, ds) ∈ methTab g name k) : ∃ cm m, (c, GV.cls cm) ∈ g.tab ∧ (name, m) ∈ cm.ms ∧ m.fill k = some ds ∧ run = m.run := by
  obtain ⟨⟨x, gv⟩, h1, h2⟩ := List.mem_filterMap.mp h
  dsimp only at h2
  split at h2
  · rename_i cm
    split at h2
    · rename_i m hm
      obtain ⟨ds', h3, h4⟩ := Option.map_eq_some_iff.mp h2
      cases h4
      exact ⟨cm, m, h1, mem_of_lk hm, h3, rfl⟩
    · cases h2
  · cases h2
theorem mem_clsWith {g : Gam} {f c : Str} (h : (clsWith g f).contains c = true) : ∃ cm, (c, GV.cls cm) ∈ g.tab ∧ f ∈ cm.ats := by
  have h' : c ∈ clsWith g f := by simpa using h
  obtain ⟨⟨x, gv⟩, h1, h2⟩ := List.mem_filterMap.mp h'
  dsimp only at h2
  split at h2
  · rename_i cm
    split at h2
    · rename_i hc
      cases h2
      exact ⟨cm, h1, by simpa using hc⟩
    · cases h2
  · cases h2
theorem FR.look {G : Gw} {r : List Addr} : ∀ {fs : List (Str × W)} {l : List (Str × V)} {f : Str}, FR G r H fs l → match fs.lookup f with
    | some w => ∃ v, l.lookup f = some v ∧ VR G r H w v
    | none => l.lookup f = none
  | [], l, f, q => by unfold FR at q; subst q; rfl
  | (y, x) :: fs, l, f, q => by
    unfold FR at q
    obtain ⟨v, t, rfl, h1, h2⟩ := q
    rw [List.lookup_cons, List.lookup_cons]
    cases e : f == y with
    | true => exact ⟨v, rfl, h1⟩
    | false => exact FR.look h2
/-- what an instance's method is -/
theorem meth_at {g : Gam} {name c : Str} {n i : Nat} {run : List W → Store → Out W} {ds : List W} {fs : List (Str × W)} {r1 : List Addr} {S1 : Store} {H1 : Hp} {v : V} (gk : GOk X.prog X.w X.K X.mg X.base k g) (A1 : Abs (gw X) r1 S1 H1) (q1 : VR (gw X) r1 H1 (.ref i) v)
    (hc : S1[i]? = some (.ins c fs)) (hl : (methTab g name (1 + n)).lookup c = some (run, ds)) (hf : fs.lookup name = none) :
    ∃ q C dx l f m, v = .ref q ∧ H1 q = some (.ins C dx l) ∧ Cls X.K C ∧ Meth X.K C name f ∧ l.lookup name = none ∧ FnHas X.prog X.w X.K X.mg X.base k f m ∧ run = m.run ∧ m.fill (1 + n) = some ds ∧ ∀ xs : List W, xs.length = n → (W.ref i :: (xs ++ ds)).length = m.n := by
  obtain ⟨cm, m, h1, h2, h3, rfl⟩ := mem_methTab (mem_of_lk hl)
  obtain ⟨C, g1, g2, g3, _⟩ := gk.cls _ _ h1
  obtain ⟨f, g4, F⟩ := g3 _ _ h2
  obtain ⟨q, e1, rfl⟩ := q1.ref_
  obtain ⟨C', dx, l, g5, g6, g7⟩ := A1.ins hc e1
  have eC : C = C' := by
    have g1' : X.mg c = some (.ref C) := g1
    have g5' : X.mg c = some (.ref C') := g5
    rw [g1'] at g5'
    cases g5'
    rfl
  subst eC
  have hl0 : l.lookup name = none := by
    have z := g7.look (f := name)
    rw [hf] at z
    exact z
  refine ⟨q, C, dx, l, f, m, rfl, g6, g2, g4, hl0, F, rfl, h3, fun xs hx => ?_⟩
  unfold FnM.fill at h3
  split at h3
  · cases h3
    rw [List.length_cons, List.length_append, hx, List.length_drop]
    omega
  · cases h3
theorem me_methU {g : Gam} {o e : Expr} {name : Str} {es : List Expr} {apos pos : Pos} (gk : GOk X.prog X.w X.K X.mg X.base k g) (hr : Room k X.A) (tk : Takes X W') (ho : PE X o (tE (gw X) W' a)) (ha : PA X (e :: es) (tA (gw X) W' as))
    (hn : ∀ sl S xs S', as sl S = .ok xs S' → xs.length = (e :: es).length) (hbase : attributeBase o name X.env (eval o X.env) = eval o X.env)
    (hfew : methodCallForm ((e :: es).length + ([] : List Keyword).length) (backTo pos (starEach (e :: es) X.env)) (backToKw pos (keywordEach [] X.env)) = true) (hline : (apos.endLine == pos.line) = true)
    (hst : starEach (e :: es) X.env = (false, eval e X.env) :: starEach es X.env) (hpl : (backTo pos (starEach es X.env)).any (·.1) = false) :
    PE X (.Call (.Attribute o name apos) (e :: es) [] pos) (tE (gw X) W' (eMethU (methTab g name (1 + (e :: es).length)) name a as)) := by
  refine ⟨fun pins s st H Q I ⟨r, sl, S, A, sr, q⟩ => methcall_of ho I ⟨r, sl, S, A, sr, ?_⟩ (meth_tree hbase hfew hline)⟩
  refine two_of sr q fun r1 x S1 v H1 x1 A1 s1 q1 p1 => ?_
  split at p1
  · rename_i i
    split at p1
    · rename_i c fs hc
      split at p1
      · rename_i run ds hl hf
        obtain ⟨q, C, dx, l, f, m, rfl, g6, g2, g4, hl0, F, rfl, h3, hm⟩ := meth_at gk A1 q1 hc hl hf
        obtain ⟨fd, ps, hps, ok, bd⟩ := F.ex
        obtain ⟨dvs, dus, rd, rw_, B⟩ := bd _ _ h3
        refine ⟨q, C, dx, l, f, rfl, g6, g2, g4, hl0, fun s2 I2 => ?_⟩
        have h4 : tA (gw X) W' as st H1 fun vs H2 => spM (gw X) m (.ref q :: vs ++ dvs) H2 Q (wE W' st) := by
          refine ⟨r1, sl, S1, A1, s1, ?_⟩
          cases e2 : as sl S1 with
          | bad => rw [e2] at p1; exact p1
          | exc y S2 => rw [e2] at p1; exact p1
          | ok xs S2 =>
            rw [e2] at p1
            intro r2 H2 vs y A2 q2
            exact ⟨r2, S2, .ref i :: (xs ++ ds), A2, .cons (q1.ext y) (q2.append (rw_ _ _)), hm xs (hn _ _ _ _ e2), Post.ext y p1⟩
        refine PySem.W.callWith_K (first := [.ref q]) (h₀ := X.base) I.ok.mod.kin g4.kp (thn (ha.run pos pins s2 st H1 _ I2 h4) fun us s3 ⟨vs, H2, I3, rv, sp⟩ => ⟨I3.kIn, ?_⟩) hst hpl
        exact fn_run (us := .ref q :: us) (vs := .ref q :: vs) ok hr B rd tk I3 (.cons rfl rv) sp
      · exact p1.elim
    · exact p1.elim
  · exact p1.elim
theorem me_methU0 {g : Gam} {o : Expr} {name : Str} {apos pos : Pos} (gk : GOk X.prog X.w X.K X.mg X.base k g) (hr : Room k X.A) (tk : Takes X W') (ho : PE X o (tE (gw X) W' a)) (hbase : attributeBase o name X.env (eval o X.env) = eval o X.env) (hline : (apos.endLine == pos.line) = true) :
    PE X (.Call (.Attribute o name apos) [] [] pos) (tE (gw X) W' (eMethU (methTab g name (1 + 0)) name a aNil)) := by
  refine ⟨fun pins s st H Q I ⟨r, sl, S, A, sr, q⟩ => methcall_of ho I ⟨r, sl, S, A, sr, ?_⟩ (meth_tree hbase rfl hline)⟩
  refine two_of sr q fun r1 x S1 v H1 x1 A1 s1 q1 p1 => ?_
  split at p1
  · rename_i i
    split at p1
    · rename_i c fs hc
      split at p1
      · rename_i run ds hl hf
        obtain ⟨q, C, dx, l, f, m, rfl, g6, g2, g4, hl0, F, rfl, h3, hm⟩ := meth_at gk A1 q1 hc hl hf
        obtain ⟨fd, ps, hps, ok, bd⟩ := F.ex
        obtain ⟨dvs, dus, rd, rw_, B⟩ := bd _ _ h3
        refine ⟨q, C, dx, l, f, rfl, g6, g2, g4, hl0, fun s2 I2 => ?_⟩
        refine PySem.W.callWith_K0 (first := [.ref q]) I2.kIn g4.kp ?_
        exact fn_run (us := [.ref q]) (vs := [.ref q]) ok hr B rd tk I2 (.cons rfl .nil) ⟨r1, S1, .ref i :: ([] ++ ds), A1, .cons q1 (rw_ _ _), hm [] rfl, p1⟩
      · exact p1.elim
    · exact p1.elim
  · exact p1.elim
theorem me_fld {g : Gam} {o : Expr} {f : Str} {pos : Pos} (gk : GOk X.prog X.w X.K X.mg X.base k g) (ho : PE X o (tE (gw X) W' a)) (hb : attributeBase o f X.env (eval o X.env) = eval o X.env) : PE X (.Attribute o f pos) (tE (gw X) W' (eFldC (clsWith g f) a f)) := by
  refine (pe_fld ho hb).impW fun st H Q ⟨r, sl, S, A, sr, q⟩ => ⟨r, sl, S, A, sr, two_of sr q fun r1 x S1 v H1 x1 A1 s1 q1 p1 => ?_⟩
  split at p1
  · rename_i i
    split at p1
    · rename_i c fs hc
      split at p1
      · rename_i hcs
        obtain ⟨cm, h1, h2⟩ := mem_clsWith hcs
        obtain ⟨C, g1, g2, _, g3, _⟩ := gk.cls _ _ h1
        obtain ⟨q, e1, rfl⟩ := q1.ref_
        obtain ⟨C', dx, l, g5, g6, g7⟩ := A1.ins hc e1
        have eC : C = C' := by
          have g1' : X.mg c = some (.ref C) := g1
          have g5' : X.mg c = some (.ref C') := g5
          rw [g1'] at g5'
          cases g5'
          rfl
        subst eC
        have z := g7.look (f := f)
        split at p1
        · rename_i w hw
          rw [hw] at z
          obtain ⟨v, hv, rv⟩ := z
          exact ⟨q, C, dx, l, v, rfl, g6, g2, g3 _ h2, hv, Post.ok p1 A1 rv⟩
        · exact p1.elim
      · exact p1.elim
    · exact p1.elim
  · exact p1.elim
/-- a new instance among the store's cells -/
theorem abs_made {G : Gw} {r : List Addr} {S : Store} {x dx C : Addr} {c : Str} (A : Abs G r S H) (hc : G.mg c = some (.ref C)) (hx : H x = none) (hd : H dx = none) (ne : dx ≠ x) :
    Ext G r H (r ++ [x]) (upd (upd H dx (.own x)) x (.ins C dx [])) ∧ Abs G (r ++ [x]) (S ++ [.ins c []]) (upd (upd H dx (.own x)) x (.ins C dx [])) := by
  have A1 := A.new (o := .own x) hd
  have hx1 : (upd H dx (.own x)) x = none := by rw [upd_ne (Ne.symm ne)]; exact hx
  exact ⟨(Ext.new hd).trans (Ext.alloc hx1), A1.alloc hx1 ⟨C, dx, [], hc, upd_same, by unfold FR; rfl⟩ rfl⟩
/-- two parts, no frame told -/
theorem two_fn {α β γ δ : Type} {G : Gw} {R : List Addr → Hp → α → β → Prop} {R' : List Addr → Hp → γ → δ → Prop} {o : Out α} {k : α → Store → Out γ} {Q : δ → Hp → Prop} {Q' : β → Hp → Prop} {E : XK} {r : List Addr}
    (p : Post G R' r H (o.bind k) Q E) (h : ∀ r1 x S1 v H1, Ext G r H r1 H1 → Abs G r1 S1 H1 → R r1 H1 x v → Post G R' r1 H1 (k x S1) Q E → Q' v H1) : Post G R r H o Q' E :=
  p.bind.mono (fun v H1 ⟨r1, x, S1, x1, A1, q1, p1⟩ => h r1 x S1 v H1 x1 A1 q1 p1) idE
theorem mk_run {pins : List (Addr × Obj)} {s : Shared} {st : L2.St} {H : Hp} {Q : VK} {us ds : List Value} {vs dvs : List V} {C f : Addr} {fd : FuncData} {ps : List Str} {sp : Sp} {j : Nat} (M : Mk X.K C f) (F : FnOk X.prog X.w X.K X.mg X.base (L2.CX X.prog X.w) j f fd ps sp) (hr : Room (j + 1) X.A) (hb : Binds X.K fd ps ds) (hd : Vals dvs ds)
    (tk : Takes X W') (I : L2.Inv X pins st H s) (rv : Vals vs us)
    (h : ∀ x dx, H x = none → H dx = none → dx ≠ x → sp (.ref x :: (vs ++ dvs)) (upd (upd H dx (.own x)) x (.ins C dx [])) (fun v H2 => v = .non ∧ Q (.ref x) H2) (wE W' st)) :
    wpAny (model X.prog X.w) X.A (call (.ref C) us) (EP X pins st Q) X.xe s := by
  have hq := h (s.heap.objs.size + 1) s.heap.objs.size (I.hok.fresh (Nat.le_succ _)) (I.hok.fresh (Nat.le_refl _)) (Nat.ne_of_lt (Nat.lt_succ_self _))
  have I2 := L2.Inv.made (C := C) I
  have r2 : Vals (V.ref (s.heap.objs.size + 1) :: (vs ++ dvs)) (Value.ref (s.heap.objs.size + 1) :: (us ++ ds)) := .cons rfl (rv.append hd)
  have hl : (Value.ref (s.heap.objs.size + 1) :: us ++ ds).length = ps.length := (r2.length.symm.trans (F.len _ _ _ _ hq))
  refine wpAny_call (make_map (f := f) I.kIn M.makes M.init (beq_iff_eq.mp M.fn) (codeAny_mono (F.run _ X.stack _ _ ⟨Value.ref (s.heap.objs.size + 1) :: us, []⟩ (Value.ref (s.heap.objs.size + 1) :: (us ++ ds)) _ _ (wE W' st)
    (hr.make C us []) (I2.env0.make C us []) (hb _ (Value.ref (s.heap.objs.size + 1) :: us) I2.kIn hl) r2 hq) fun o s' hq' => ?_))
  cases o with
  | error e => exact passAt tk st pins _ _ e s' I2 hq'
  | ok fl =>
    cases fl with
    | ret u =>
      obtain ⟨v, H', I3, rv, ev, q3⟩ := I2.after hq'
      subst ev
      exact ⟨rv, ⟨V.ref (s.heap.objs.size + 1), H', I3, rfl, q3⟩⟩
    | next => exact False.elim hq'
    | brk => exact False.elim hq'
    | cont => exact False.elim hq'
theorem new_post {x : Str} {C : Addr} {m : FnM} {ds xs : List W} {vs dvs : List V} {r1 : List Addr} {S1 : Store} {H1 : Hp} {Q : VK} {E : XK} (A1 : Abs (gw X) r1 S1 H1) (hm : X.mg x = some (.ref C)) (q1 : VRs (gw X) r1 H1 xs vs) (rw_ : ∀ r H, VRs (gw X) r H ds dvs) (hlen : (W.ref S1.length :: (xs ++ ds)).length = m.n)
    (q : Post (gw X) (VR (gw X)) r1 H1 ((m.run (.ref S1.length :: (xs ++ ds)) (S1 ++ [.ins x []])).bind fun v S2 => match v with
      | .non => .ok (.ref S1.length) S2
      | _ => .bad) Q E) : ∀ a dx, H1 a = none → H1 dx = none → dx ≠ a → spM (gw X) m (.ref a :: (vs ++ dvs)) (upd (upd H1 dx (.own a)) a (.ins C dx [])) (fun v H2 => v = .non ∧ Q (.ref a) H2) E := by
  intro a dx hx hd ne
  obtain ⟨xx, A2⟩ := abs_made A1 (show (gw X).mg x = some (.ref C) from hm) hx hd ne
  refine ⟨_, _, .ref S1.length :: (xs ++ ds), A2, .cons (.ref (by rw [← A1.len]; simp)) ((q1.ext xx).append (rw_ _ _)), hlen, ?_⟩
  refine two_fn (Post.ext xx q) fun r2 z S2 v H2 x2 A3 q3 p3 => ?_
  cases z with
  | non => exact ⟨q3.non_, Post.ok p3 A3 (.ref (x2.get (by rw [← A1.len]; simp)))⟩
  | _ => exact p3.elim
theorem me_new {x : Str} {C f : Addr} {m : FnM} {ds : List W} {e : Expr} {es : List Expr} {p pos : Pos} {j : Nat} (M : Mk X.K C f) (F : FnHas X.prog X.w X.K X.mg X.base j f m) (hr : Room (j + 1) X.A) (tk : Takes X W') (hg : Gl X x) (hm : X.mg x = some (.ref C)) (hf : m.fill (1 + (e :: es).length) = some ds)
    (ha : PA X (e :: es) (tA (gw X) W' as)) (hn : ∀ sl S xs S', as sl S = .ok xs S' → xs.length = (e :: es).length) (hdb : (x == ("__debug__" : Str)) = false)
    (he : starEach (e :: es) X.env = (false, eval e X.env) :: starEach es X.env) (hpl : (backTo pos (starEach es X.env)).any (·.1) = false) : PE X (.Call (.Name x p) (e :: es) [] pos) (tE (gw X) W' (eNew x m.run ds as)) := by
  obtain ⟨fd, ps, hps, ok, bd⟩ := F.ex
  obtain ⟨dvs, dus, rd, rw_, B⟩ := bd _ _ hf
  refine ⟨fun pins s st H Q I ⟨r, sl, S, A, sr, q⟩ => ?_⟩
  have h1 : tA (gw X) W' as st H fun vs H1 => ∀ a dx, H1 a = none → H1 dx = none → dx ≠ a → spM (gw X) m (.ref a :: (vs ++ dvs)) (upd (upd H1 dx (.own a)) a (.ins C dx [])) (fun v H2 => v = .non ∧ Q (.ref a) H2) (wE W' st) := by
    refine ⟨r, sl, S, A, sr, ?_⟩
    cases e1 : as sl S with
    | bad => unfold eNew at q; rw [e1] at q; exact q
    | exc y S1 => unfold eNew at q; rw [e1] at q; exact q
    | ok xs S1 =>
      have hl := hn _ _ _ _ e1
      unfold eNew at q
      rw [e1] at q
      intro r1 H1 vs y A1 q1
      refine new_post A1 hm q1 rw_ ?_ (Post.ext y q)
      unfold FnM.fill at hf
      split at hf
      · cases hf
        rw [List.length_cons, List.length_append, hl, List.length_drop]
        omega
      · cases hf
  refine wpAny_Call_Name_kw (ld_glob I hg hm ?_ hdb)
  refine PySem.W.callWith_K (h₀ := X.base) I.ok.mod.kin M.kp (thn (ha.run pos pins s st H _ I h1) fun us s1 ⟨vs, H1, I1, rv, q1⟩ => ⟨I1.kIn, ?_⟩) he hpl
  exact mk_run M ok hr B rd tk I1 rv q1
theorem me_new0 {x : Str} {C f : Addr} {m : FnM} {ds : List W} {p pos : Pos} {j : Nat} (M : Mk X.K C f) (F : FnHas X.prog X.w X.K X.mg X.base j f m) (hr : Room (j + 1) X.A) (tk : Takes X W') (hg : Gl X x) (hm : X.mg x = some (.ref C)) (hf : m.fill (1 + 0) = some ds)
    (hdb : (x == ("__debug__" : Str)) = false) : PE X (.Call (.Name x p) [] [] pos) (tE (gw X) W' (eNew x m.run ds aNil)) := by
  obtain ⟨fd, ps, hps, ok, bd⟩ := F.ex
  obtain ⟨dvs, dus, rd, rw_, B⟩ := bd _ _ hf
  refine ⟨fun pins s st H Q I ⟨r, sl, S, A, sr, q⟩ => ?_⟩
  refine wpAny_Call_Name_kw (ld_glob I hg hm ?_ hdb)
  refine PySem.W.callWith_K0 I.kIn M.kp (mk_run (us := []) (vs := []) M ok hr B rd tk I .nil (new_post A hm .nil rw_ ?_ q))
  unfold FnM.fill at hf
  split at hf
  · cases hf
    rw [List.length_cons, List.length_append, List.length_drop]
    simp only [List.length_nil]
    omega
  · cases hf
end
end PD

namespace PD
open PySem PySem.Spec PyProof.Rows L2
/-! ## targets -/
inductive Tgt where
  | nm (i : Nat)
  | tup (is : List Nat)
def setAll {α : Type} (m : List (Option α)) : List Nat → List α → List (Option α)
  | i :: is, x :: xs => setAll (m.set i (some x)) is xs
  | _, _ => m
def Tgt.sem : Tgt → W → Slots → Option Slots
  | .nm i, w, m => some (m.set i (some w))
  | .tup is, .tup xs, m => if xs.length = is.length then some (setAll m is xs) else none
  | .tup _, _, _ => none
def tgsOf : List Nat → TGs
  | [] => gNil
  | i :: is => gCons (gName i) (tgsOf is)
def Tgt.raw (K : PySem.W.Frag) : Tgt → TG
  | .nm i => gName i
  | .tup is => gTup K is.length (tgsOf is)
def Tgt.own : Tgt → List Nat
  | .nm i => [i]
  | .tup is => is
section
variable {G : Gw} {r : List Addr} {S : Store} {H : Hp} {st : L2.St} {sl sl' : Slots}
theorem SR.set {i : Nat} {w : W} {v : V} (s : SR G r H sl st) (q : VR G r H w v) : SR G r H (sl.set i (some w)) (st.set i (some v)) := by
  refine ⟨by rw [List.length_set, List.length_set]; exact s.1, fun j u e => ?_⟩
  by_cases hj : i = j
  · subst hj
    by_cases hi : i < sl.length
    · rw [List.getElem?_set_self hi] at e
      cases e
      exact ⟨v, by rw [List.getElem?_set_self (by rw [← s.1]; exact hi)], q⟩
    · rw [List.getElem?_eq_none (by simpa using hi)] at e
      cases e
  · rw [List.getElem?_set_ne hj] at e
    obtain ⟨x, h1, h2⟩ := s.2 j u e
    exact ⟨x, by rw [List.getElem?_set_ne hj]; exact h1, h2⟩
theorem SR.setAll : ∀ {is : List Nat} {ws : List W} {vs : List V} {sl : Slots} {st : L2.St}, SR G r H sl st → VRs G r H ws vs → SR G r H (setAll sl is ws) (setAll st is vs)
  | [], ws, vs, sl, st, s, q => by
    have e1 : PD.setAll sl [] ws = sl := by cases ws <;> rfl
    have e2 : PD.setAll st [] vs = st := by cases vs <;> rfl
    rw [e1, e2]; exact s
  | i :: is, [], vs, sl, st, s, q => by unfold VRs at q; subst q; exact s
  | i :: is, w :: ws, vs, sl, st, s, q => by
    unfold VRs at q
    obtain ⟨v, t, rfl, h1, h2⟩ := q
    exact SR.setAll (sl := sl.set i (some w)) (st := st.set i (some v)) (s.set h1) h2
theorem tgs_run : ∀ {is : List Nat} {vs : List V} {st : L2.St} {Q : L2.St → Hp → Prop}, vs.length = is.length → Q (PD.setAll st is vs) H → tgsOf is vs st H Q
  | [], [], st, Q, _, q => ⟨rfl, q⟩
  | [], v :: vs, st, Q, h, q => by cases h
  | i :: is, [], st, Q, h, q => by cases h
  | i :: is, v :: vs, st, Q, h, q => ⟨v, vs, rfl, tgs_run (by simpa using h) q⟩
/-- a target's store, by what it means -/
theorem tgt_run {g : Tgt} {w : W} {v : V} (A : Abs G r S H) (s : SR G r H sl st) (q : VR G r H w v) (e : g.sem w sl = some sl') :
    ∃ vs : List V, SR G r H sl' (PD.setAll st g.own vs) ∧ ∀ Q : L2.St → Hp → Prop, Q (PD.setAll st g.own vs) H → g.raw G.K v st H Q := by
  cases g with
  | nm i =>
    have e' : sl.set i (some w) = sl' := Option.some.inj e
    subst e'
    exact ⟨[v], s.set q, fun Q h => h⟩
  | tup is =>
    cases w with
    | tup xs =>
      simp only [Tgt.sem] at e
      split at e
      · rename_i hl
        cases e
        obtain ⟨a, vs, rfl, h1, h2⟩ := q.tup_
        have hv : vs.length = is.length := by rw [← h2.length]; exact hl
        exact ⟨vs, s.setAll h2, fun Q h => ⟨a, vs, rfl, h1, hv, tgs_run hv h⟩⟩
      · cases e
    | _ => cases e
theorem wipe_set {σ : L2.St} {i : Nat} {x : Option V} : ∀ {vs : List Nat}, i ∈ vs → wipe (σ.set i x) vs = wipe σ vs
  | v :: vs, h => by
    unfold wipe
    by_cases e : i = v
    · subst e
      by_cases hm : i ∈ vs
      · rw [wipe_set hm]
      · have key : ∀ (us : List Nat), i ∉ us → wipe (σ.set i x) us = (wipe σ us).set i x := by
          intro us
          induction us with
          | nil => intro _; rfl
          | cons u us ih =>
            intro hu
            rw [List.mem_cons, not_or] at hu
            unfold wipe
            rw [ih hu.2, List.set_comm _ _ hu.1]
        rw [key vs hm, List.set_set]
    · rw [wipe_set (List.mem_of_ne_of_mem e h)]
theorem wipe_setAll : ∀ {is : List Nat} {vs : List V} {σ : L2.St} {own : List Nat}, (∀ i ∈ is, i ∈ own) → wipe (PD.setAll σ is vs) own = wipe σ own
  | [], vs, σ, own, _ => by
    have e2 : PD.setAll σ [] vs = σ := by cases vs <;> rfl
    rw [e2]
  | i :: is, [], σ, own, _ => rfl
  | i :: is, v :: vs, σ, own, h => by
    show wipe (PD.setAll (σ.set i (some v)) is vs) own = _
    rw [wipe_setAll fun j hj => h j (List.mem_cons_of_mem _ hj), wipe_set (h i List.mem_cons_self)]
theorem wipe_none {σ : L2.St} {i : Nat} : ∀ {vs : List Nat}, i ∈ vs → i < σ.length → (wipe σ vs)[i]? = some none
  | v :: vs, h, hl => by
    unfold wipe
    by_cases e : v = i
    · subst e
      rw [List.getElem?_set_self (by rw [wipe_length]; exact hl)]
    · rw [List.getElem?_set_ne e]
      exact wipe_none (List.mem_of_ne_of_mem (Ne.symm e) h) hl
theorem wipe_other {σ : L2.St} {i : Nat} : ∀ {vs : List Nat}, i ∉ vs → (wipe σ vs)[i]? = σ[i]?
  | [], _ => rfl
  | v :: vs, h => by
    rw [List.mem_cons, not_or] at h
    unfold wipe
    rw [List.getElem?_set_ne (Ne.symm h.1)]
    exact wipe_other h.2
theorem wipe_wipe (σ : L2.St) (vs : List Nat) : wipe (wipe σ vs) vs = wipe σ vs := by
  apply List.ext_getElem?
  intro i
  by_cases h : i ∈ vs
  · by_cases hl : i < σ.length
    · rw [wipe_none h (by rw [wipe_length]; exact hl), wipe_none h hl]
    · rw [List.getElem?_eq_none (by rw [wipe_length, wipe_length]; omega), List.getElem?_eq_none (by rw [wipe_length]; omega)]
  · rw [wipe_other h]
/-- a block's own names forgotten -/
def wipeW (m : Slots) : List Nat → Slots
  | [] => m
  | v :: vs => (wipeW m vs).set v none
theorem wipeW_length (m : Slots) : ∀ vs : List Nat, (wipeW m vs).length = m.length
  | [] => rfl
  | v :: vs => by unfold wipeW; rw [List.length_set, wipeW_length m vs]
theorem wipeW_some {m : Slots} {i : Nat} {x : W} : ∀ {vs : List Nat}, (wipeW m vs)[i]? = some (some x) → m[i]? = some (some x) ∧ i ∉ vs
  | [], h => ⟨h, by simp⟩
  | v :: vs, h => by
    unfold wipeW at h
    by_cases hi : v = i
    · subst hi
      by_cases hv : v < (wipeW m vs).length
      · rw [List.getElem?_set_self hv] at h; cases h
      · rw [List.getElem?_eq_none (by simpa using hv)] at h; cases h
    · rw [List.getElem?_set_ne hi] at h
      obtain ⟨h1, h2⟩ := wipeW_some h
      exact ⟨h1, by simp only [List.mem_cons, not_or]; exact ⟨fun e => hi e.symm, h2⟩⟩
theorem SR.wipe (s : SR G r H sl st) (vs : List Nat) : SR G r H (wipeW sl vs) (wipe st vs) := by
  refine ⟨by rw [wipeW_length, wipe_length]; exact s.1, fun i w e => ?_⟩
  obtain ⟨h1, h2⟩ := wipeW_some e
  obtain ⟨v, h3, h4⟩ := s.2 i w h1
  exact ⟨v, by rw [wipe_other h2]; exact h3, h4⟩
end

/-! ## what is walked -/
abbrev Walked := List W × List (W × List W)
abbrev IM := Slots → Store → Out Walked
def iAny (e : EM) : IM := fun m S => (e m S).bind fun x S1 => match x with
  | .tup xs => .ok (xs, []) S1
  | .str s => .ok (s.map fun c => .str [c], []) S1
  | .ref i => (match S1[i]? with
    | some (.lst xs) => .ok (xs, [(.ref i, xs)]) S1
    | some (.scr xs) => .ok (xs, [(.ref i, xs)]) S1
    | _ => .bad)
  | _ => .bad
def rngW (lo : Int) (n : Nat) : List W := (List.range n).map fun k => .int (lo + (k : Nat))
def iRng1W (e : EM) : IM := fun m S => (e m S).bind fun x S1 => match x with
  | .int j => if -(2 ^ 62) ≤ j ∧ j < 2 ^ 62 then .ok (rngW 0 j.toNat, []) S1 else .bad
  | _ => .bad
def iRng2W (a b : EM) : IM := fun m S => (a m S).bind fun x S1 => (b m S1).bind fun y S2 => match x, y with
  | .int i, .int j => if -(2 ^ 62) ≤ i ∧ i < 2 ^ 62 ∧ -(2 ^ 62) ≤ j ∧ j < 2 ^ 62 then .ok (rngW i (j - i).toNat, []) S2 else .bad
  | _, _ => .bad
def enumW (n : Nat) : List W → List W
  | [] => []
  | x :: xs => .tup [.int (n : Nat), x] :: enumW (n + 1) xs
def iEnumW (e : EM) : IM := fun m S => (e m S).bind fun x S1 => match lstOf x S1 with
  | some xs => .ok (enumW 0 xs, [(x, xs)]) S1
  | none => .bad
def iRevW (e : EM) : IM := fun m S => (e m S).bind fun x S1 => match lstOf x S1 with
  | some xs => .ok (xs.reverse, [(x, xs)]) S1
  | none => .bad
def iZipW (a b : EM) : IM := fun m S => (a m S).bind fun x S1 => (b m S1).bind fun y S2 => match lstOf x S2, lstOf y S2 with
  | some xs, some ys => .ok ((xs.zip ys).map fun p => .tup [p.1, p.2], [(x, xs), (y, ys)]) S2
  | _, _ => (match x, y with
    | .tup xs, .tup ys => .ok ((xs.zip ys).map fun p => .tup [p.1, p.2], []) S2
    | _, _ => .bad)
def iBad : IM := fun _ _ => .bad
/-- the walk of J yields these, while the guards stand -/
def Wk (G : Gw) (r : List Addr) (H : Hp) (p : Walked) (J : It) : Prop := ∀ r1 H1 S1, Ext G r H r1 H1 → Abs G r1 S1 H1 → (∀ g ∈ p.2, itemsOf g.1 S1 = some g.2) →
  (∀ i w, p.1[i]? = some w → J.go i H1 ∧ ∀ x H2, J.yld i H1 x H2 → Ext G r1 H1 r1 H2 ∧ Abs G r1 S1 H2 ∧ VR G r1 H2 w x) ∧ J.stop p.1.length H1
def tI (G : Gw) (W' : WX) (m : IM) : TI := fun st H R => ∃ r sl S, Abs G r S H ∧ SR G r H sl st ∧ Post G (Wk G) r H (m sl S) R (wE W' st)
section
variable {G : Gw} {r : List Addr} {S : Store} {H : Hp}
theorem wk_list {i : Nat} {a : Addr} {xs : List W} (q : r[i]? = some a) : Wk G r H (xs, [(.ref i, xs)]) (Itl G.K a) := by
  intro r1 H1 S1 x A g
  have g1 : lstOf (.ref i) S1 = some xs := g (.ref i, xs) List.mem_cons_self
  obtain ⟨b, vs, e, h1, h2⟩ := lst_of A (.ref (x.get q)) g1
  cases e
  refine ⟨fun j w hw => ?_, ⟨vs, h1, by rw [← h2.length]; exact Nat.le_refl _⟩⟩
  obtain ⟨v, hv, rv⟩ := h2.get hw
  refine ⟨⟨vs, v, h1, hv⟩, fun y H2 ⟨e, h3⟩ => ?_⟩
  subst e
  have h4 := h3 vs h1
  rw [hv] at h4
  cases h4
  exact ⟨.refl, A, rv⟩
theorem wk_tup {a : Addr} {xs : List W} {vs : List V} (h1 : SqT G.K H a vs) (h2 : VRs G r H xs vs) : Wk G r H (xs, []) (Itt G.K a) := by
  intro r1 H1 S1 x A g
  have h1' := x.tup _ _ h1
  have h2' := h2.ext x
  refine ⟨fun j w hw => ?_, ⟨vs, h1', by rw [← h2.length]; exact Nat.le_refl _⟩⟩
  obtain ⟨v, hv, rv⟩ := h2'.get hw
  refine ⟨⟨vs, v, h1', hv⟩, fun y H2 ⟨e, h3⟩ => ?_⟩
  subst e
  have h4 := h3 vs h1'
  rw [hv] at h4
  cases h4
  exact ⟨.refl, A, rv⟩
theorem wk_str {s : List Nat} : Wk G r H (s.map fun c => .str [c], []) (Its ⟨s.toArray⟩) := by
  intro r1 H1 S1 x A g
  refine ⟨fun j w hw => ?_, by show (s.toArray).size ≤ _; rw [List.length_map]; simp⟩
  rw [List.getElem?_map] at hw
  obtain ⟨c, hc, rfl⟩ := Option.map_eq_some_iff.mp hw
  refine ⟨by show j < (s.toArray).size; rw [List.size_toArray]; exact (List.getElem?_eq_some_iff.mp hc).1, fun y H2 ⟨e, c', h1, h2⟩ => ?_⟩
  subst e
  have h3 : s[j]? = some c' := by simpa using h1
  rw [hc] at h3
  cases h3
  subst h2
  exact ⟨.refl, A, .str⟩
theorem rngW_get {lo : Int} {n j : Nat} {w : W} (h : (rngW lo n)[j]? = some w) : j < n ∧ w = .int (lo + (j : Nat)) := by
  unfold rngW at h
  rw [List.getElem?_map] at h
  obtain ⟨k, hk, rfl⟩ := Option.map_eq_some_iff.mp h
  obtain ⟨h1, h2⟩ := List.getElem?_eq_some_iff.mp hk
  rw [List.length_range] at h1
  simp at h2
  subst h2
  exact ⟨h1, rfl⟩
theorem rngW_length {lo : Int} {n : Nat} : (rngW lo n).length = n := by unfold rngW; simp
theorem wk_rng {lo : Int} {n : Nat} : Wk G r H (rngW lo n, []) (Itr lo n) := by
  intro r1 H1 S1 x A g
  refine ⟨fun j w hw => ?_, by show n ≤ _; rw [rngW_length]; exact Nat.le_refl _⟩
  obtain ⟨h1, rfl⟩ := rngW_get hw
  refine ⟨h1, fun y H2 ⟨e, h2⟩ => ?_⟩
  subst e h2
  exact ⟨.refl, A, .int⟩
theorem enumW_get : ∀ {xs : List W} {n i : Nat} {w : W}, (enumW n xs)[i]? = some w → ∃ x, xs[i]? = some x ∧ w = .tup [.int ((n + i : Nat) : Int), x]
  | [], n, i, w, h => by simp [enumW] at h
  | x :: xs, n, 0, w, h => by
    simp [enumW] at h
    exact ⟨x, rfl, h.symm⟩
  | x :: xs, n, i + 1, w, h => by
    have h' : (enumW (n + 1) xs)[i]? = some w := by simpa [enumW] using h
    obtain ⟨y, h1, h2⟩ := enumW_get h'
    exact ⟨y, by simpa using h1, by rw [h2, show n + 1 + i = n + (i + 1) by omega]⟩
theorem enumW_length : ∀ {xs : List W} {n : Nat}, (enumW n xs).length = xs.length
  | [], n => rfl
  | x :: xs, n => by simp [enumW, enumW_length]
theorem pair_new {w1 w2 : W} {v1 v2 : V} {T : Addr} (A : Abs G r S H) (hT : H T = none) (q1 : VR G r H w1 v1) (q2 : VR G r H w2 v2) :
    Ext G r H r (upd H T (.tup [v1, v2])) ∧ Abs G r S (upd H T (.tup [v1, v2])) ∧ VR G r (upd H T (.tup [v1, v2])) (.tup [w1, w2]) (.ref T) :=
  ⟨Ext.new hT, A.new hT, .tup (SqT.of upd_same) (.cons (q1.ext (Ext.new hT)) (.cons (q2.ext (Ext.new hT)) .nil))⟩
theorem wk_enum {i : Nat} {a : Addr} {xs : List W} (q : r[i]? = some a) : Wk G r H (enumW 0 xs, [(.ref i, xs)]) (Ite G.K a) := by
  intro r1 H1 S1 x A g
  have g1 : lstOf (.ref i) S1 = some xs := g (.ref i, xs) List.mem_cons_self
  obtain ⟨b, vs, e, h1, h2⟩ := lst_of A (.ref (x.get q)) g1
  cases e
  have wk := walk_enum (K := G.K) (a := a) (xs := vs)
  have hl := h2.length
  refine ⟨fun j w hw => ?_, by rw [enumW_length, hl]; exact wk.stops _ h1⟩
  obtain ⟨z, hz, rfl⟩ := enumW_get hw
  obtain ⟨v, hv, rv⟩ := h2.get hz
  have hj : j < vs.length := (List.getElem?_eq_some_iff.mp hv).1
  refine ⟨wk.goes j _ hj h1, fun y H2 hy => ?_⟩
  obtain ⟨T, x1, y1, rfl, hT, rfl, e1, e2⟩ := wk.yields j _ _ _ hj h1 hy
  have e1' : V.int (j : Nat) = x1 := Option.some.inj e1
  subst e1'
  have e2' : vs[j]? = some y1 := e2
  rw [hv] at e2'
  cases e2'
  rw [Nat.zero_add]
  exact pair_new A hT .int rv
theorem wk_rev {i : Nat} {a : Addr} {xs : List W} (q : r[i]? = some a) (n : Nat) (hn : n = xs.length) : Wk G r H (xs.reverse, [(.ref i, xs)]) (Itv G.K a n) := by
  intro r1 H1 S1 x A g
  have g1 : lstOf (.ref i) S1 = some xs := g (.ref i, xs) List.mem_cons_self
  obtain ⟨b, vs, e, h1, h2⟩ := lst_of A (.ref (x.get q)) g1
  cases e
  have hl := h2.length
  rw [hl] at hn
  subst hn
  have wk := walk_rev (K := G.K) (a := a) (xs := vs)
  refine ⟨fun j w hw => ?_, by rw [List.length_reverse, hl]; exact wk.stops _ h1⟩
  have hj : j < vs.length := by rw [← hl]; have := (List.getElem?_eq_some_iff.mp hw).1; simpa using this
  refine ⟨wk.goes j _ hj h1, fun y H2 hy => ?_⟩
  obtain ⟨e, e2⟩ := wk.yields j _ _ _ hj h1 hy
  subst e
  refine ⟨.refl, A, ?_⟩
  rw [List.getElem?_reverse (by rw [hl]; exact hj), hl] at hw
  obtain ⟨v, hv, rv⟩ := h2.get hw
  rw [e2] at hv
  cases hv
  exact rv
theorem wk_zip {i j : Nat} {a b : Addr} {xs ys : List W} (q : r[i]? = some a) (q' : r[j]? = some b) : Wk G r H ((xs.zip ys).map fun p => .tup [p.1, p.2], [(.ref i, xs), (.ref j, ys)]) (Itz G.K a b) := by
  intro r1 H1 S1 x A g
  have g1 : lstOf (.ref i) S1 = some xs := g (.ref i, xs) List.mem_cons_self
  have g2 : lstOf (.ref j) S1 = some ys := g (.ref j, ys) (List.mem_cons_of_mem _ List.mem_cons_self)
  obtain ⟨b', vs, e, h1, h2⟩ := lst_of A (.ref (x.get q)) g1
  cases e
  obtain ⟨b', us, e, h3, h4⟩ := lst_of A (.ref (x.get q')) g2
  cases e
  have wk := walk_zip (K := G.K) (a := a) (b := b) (xs := vs) (ys := us) rfl
  have hl := h2.length
  have hl' := h4.length
  refine ⟨fun k w hw => ?_, by rw [List.length_map, List.length_zip, hl, hl']; exact wk.stops _ ⟨h1, h3⟩⟩
  rw [List.getElem?_map] at hw
  obtain ⟨⟨w1, w2⟩, hp, rfl⟩ := Option.map_eq_some_iff.mp hw
  obtain ⟨p1, p2⟩ := List.getElem?_zip_eq_some.mp hp
  obtain ⟨v1, e1, r1'⟩ := h2.get p1
  obtain ⟨v2, e2, r2'⟩ := h4.get p2
  have hk : k < min vs.length us.length := by
    have z1 := (List.getElem?_eq_some_iff.mp e1).1
    have z2 := (List.getElem?_eq_some_iff.mp e2).1
    omega
  refine ⟨wk.goes k _ hk ⟨h1, h3⟩, fun y H2 hy => ?_⟩
  obtain ⟨T, x1, y1, rfl, hT, rfl, e3, e4⟩ := wk.yields k _ _ _ hk ⟨h1, h3⟩ hy
  have e3' : vs[k]? = some x1 := e3
  have e4' : us[k]? = some y1 := e4
  rw [e1] at e3'
  cases e3'
  rw [e2] at e4'
  cases e4'
  exact pair_new A hT r1' r2'
end
section
variable {X : Cx} {W' : WX} {a b : EM} {tg : Expr} {st : L2.St} {H : Hp}
theorem mi_any {e : Expr} (he : PE X e (tE (gw X) W' a)) : PI X tg e (tI (gw X) W' (iAny a)) := by
  refine ⟨fun pins s st H R I ⟨r, sl, S, A, sr, q⟩ => ?_⟩
  have main : ∀ {t : TI}, PI X tg e t → t st H R → wpAny (model X.prog X.w) X.A (eval e X.env) (fun v s1 => wpAny (model X.prog X.w) X.A (pyIter v) (PIE X pins st tg R) X.xe s1) X.xe s := fun p h => p.run pins s st H R I h
  cases e1 : a sl S with
  | bad => unfold iAny at q; rw [e1] at q; exact q.elim
  | exc y S1 =>
    refine main (pi_list he) ⟨r, sl, S, A, sr, ?_⟩
    unfold iAny at q
    rw [e1] at q ⊢
    exact q
  | ok x S1 =>
    unfold iAny at q
    rw [e1] at q
    simp only [bind_ok] at q
    split at q
    · rename_i xs
      refine main (pi_tup he) ⟨r, sl, S, A, sr, ?_⟩
      rw [e1]
      intro r1 H1 v y A1 q1
      obtain ⟨c, vs, rfl, h1, h2⟩ := q1.tup_
      exact ⟨c, rfl, ⟨vs, h1⟩, q r1 H1 _ y A1 (wk_tup h1 h2)⟩
    · rename_i xs
      refine main (pi_str he) ⟨r, sl, S, A, sr, ?_⟩
      rw [e1]
      intro r1 H1 v y A1 q1
      exact ⟨_, q1.str_, q r1 H1 _ y A1 wk_str⟩
    · rename_i i
      split at q
      · rename_i xs hx
        refine main (pi_list he) ⟨r, sl, S, A, sr, ?_⟩
        rw [e1]
        intro r1 H1 v y A1 q1
        obtain ⟨c, h1, rfl⟩ := q1.ref_
        obtain ⟨vs, h2, h3⟩ := A1.lst hx h1
        exact ⟨c, rfl, ⟨vs, SqL.of h2⟩, q r1 H1 _ y A1 (wk_list h1)⟩
      · rename_i xs hx
        refine main (pi_list he) ⟨r, sl, S, A, sr, ?_⟩
        rw [e1]
        intro r1 H1 v y A1 q1
        obtain ⟨c, h1, rfl⟩ := q1.ref_
        obtain ⟨vs, h2, h3⟩ := A1.scr hx h1
        exact ⟨c, rfl, ⟨vs, h2.seq⟩, q r1 H1 _ y A1 (wk_list h1)⟩
      · exact q.elim
    · exact q.elim
theorem one_a {e : Expr} (he : PE X e (tE (gw X) W' a)) (hs : starEach [e] X.env = (false, eval e X.env) :: starEach [] X.env) : PA X [e] (tCons (tE (gw X) W' a) tNil) := pa_cons he pa_nil hs
theorem mi_rng1 {e : Expr} {p pos : Pos} (hg : Gl X "range") (hm : X.mg "range" = none) (he : PE X e (tE (gw X) W' a)) (hs : starEach [e] X.env = (false, eval e X.env) :: starEach [] X.env) : PI X tg (.Call (.Name "range" p) [e] [] pos) (tI (gw X) W' (iRng1W a)) := by
  refine ⟨fun pins s st H R I ⟨r, sl, S, A, sr, q⟩ => (pi_range1 hg hm (one_a he hs) hs).run pins s st H R I ⟨r, sl, S, A, sr, two_of sr q fun r1 x S1 v H1 x1 A1 s1 q1 p1 => ?_⟩⟩
  cases x with
  | int j =>
    simp only at p1
    split at p1
    · rename_i hb
      exact ⟨j, by rw [q1.int_], hb.1, hb.2, p1 r1 H1 _ .refl A1 wk_rng⟩
    · exact p1.elim
  | _ => exact p1.elim
theorem mi_rng2 {e e2 : Expr} {p pos : Pos} (hg : Gl X "range") (hm : X.mg "range" = none) (he : PE X e (tE (gw X) W' a)) (he2 : PE X e2 (tE (gw X) W' b)) (hs : starEach [e, e2] X.env = (false, eval e X.env) :: starEach [e2] X.env) (hs2 : starEach [e2] X.env = (false, eval e2 X.env) :: starEach [] X.env) :
    PI X tg (.Call (.Name "range" p) [e, e2] [] pos) (tI (gw X) W' (iRng2W a b)) := by
  refine ⟨fun pins s st H R I ⟨r, sl, S, A, sr, q⟩ => (pi_range2 hg hm (pa_cons he (one_a he2 hs2) hs) (by rw [hs, hs2] <;> rfl) hs2).run pins s st H R I ⟨r, sl, S, A, sr, two_of sr q fun r1 x S1 v H1 x1 A1 s1 q1 p1 => ⟨r1, sl, S1, A1, s1, two_of s1 p1 fun r2 y S2 u H2 x2 A2 s2 q2 p2 => ?_⟩⟩⟩
  split at p2
  · rename_i i j
    split at p2
    · rename_i hb
      exact ⟨i, j, by rw [(q1.ext x2).int_, q2.int_], hb, p2 r2 H2 _ .refl A2 wk_rng⟩
    · exact p2.elim
  · exact p2.elim
theorem lst_ref {x : W} {xs : List W} {S : Store} (h : lstOf x S = some xs) : ∃ i, x = .ref i := by
  cases x with
  | ref i => exact ⟨i, rfl⟩
  | _ => cases h
theorem star1 {e : Expr} {env : Env} (hs : starEach [e] env = (false, eval e env) :: starEach [] env) : starEach [e] env = [(false, eval e env)] := hs
theorem mi_enum {e : Expr} {p pos : Pos} {es : List Expr} {kk : Nat} {tpos : Pos} (hg : Gl X "enumerate") (hm : X.mg "enumerate" = none) (he : PE X e (tE (gw X) W' a)) (hs : starEach [e] X.env = (false, eval e X.env) :: starEach [] X.env) :
    PI X (.Tuple es kk tpos) (.Call (.Name "enumerate" p) [e] [] pos) (tI (gw X) W' (iEnumW a)) := by
  refine ⟨fun pins s st H R I ⟨r, sl, S, A, sr, q⟩ => (pi_enum hg hm (one_a he hs) (star1 hs)).run pins s st H R I ⟨r, sl, S, A, sr, two_of sr q fun r1 x S1 v H1 x1 A1 s1 q1 p1 => ?_⟩⟩
  split at p1
  · rename_i xs hx
    obtain ⟨i, rfl⟩ := lst_ref hx
    obtain ⟨c, vs, rfl, h1, h2⟩ := lst_of A1 q1 hx
    obtain ⟨c', h3, h4⟩ := q1.ref_
    cases h4
    exact ⟨c, vs, rfl, h1, p1 r1 H1 _ .refl A1 (wk_enum h3)⟩
  · exact p1.elim
theorem mi_rev {e : Expr} {p pos : Pos} (hg : Gl X "reversed") (hm : X.mg "reversed" = none) (he : PE X e (tE (gw X) W' a)) (hs : starEach [e] X.env = (false, eval e X.env) :: starEach [] X.env) : PI X tg (.Call (.Name "reversed" p) [e] [] pos) (tI (gw X) W' (iRevW a)) := by
  refine ⟨fun pins s st H R I ⟨r, sl, S, A, sr, q⟩ => (pi_reversed hg hm (one_a he hs) (star1 hs)).run pins s st H R I ⟨r, sl, S, A, sr, two_of sr q fun r1 x S1 v H1 x1 A1 s1 q1 p1 => ?_⟩⟩
  split at p1
  · rename_i xs hx
    obtain ⟨i, rfl⟩ := lst_ref hx
    obtain ⟨c, vs, rfl, h1, h2⟩ := lst_of A1 q1 hx
    obtain ⟨c', h3, h4⟩ := q1.ref_
    cases h4
    exact ⟨c, vs, rfl, h1, p1 r1 H1 _ .refl A1 (wk_rev h3 _ h2.length.symm)⟩
  · exact p1.elim
theorem mi_zip {e e2 : Expr} {p pos : Pos} {es : List Expr} {kk : Nat} {tpos : Pos} (hg : Gl X "zip") (hm : X.mg "zip" = none) (he : PE X e (tE (gw X) W' a)) (he2 : PE X e2 (tE (gw X) W' b)) (hs : starEach [e, e2] X.env = (false, eval e X.env) :: starEach [e2] X.env)
    (hs2 : starEach [e2] X.env = (false, eval e2 X.env) :: starEach [] X.env) : PI X (.Tuple es kk tpos) (.Call (.Name "zip" p) [e, e2] [] pos) (tI (gw X) W' (iZipW a b)) := by
  refine ⟨fun pins s st H R I ⟨r, sl, S, A, sr, q⟩ => (RZ.pi_zipA hg hm (pa_cons he (one_a he2 hs2) hs) hs (by rw [hs2] <;> rfl)).run pins s st H R I ⟨r, sl, S, A, sr, two_of sr q fun r1 x S1 v H1 x1 A1 s1 q1 p1 => ⟨r1, sl, S1, A1, s1, two_of s1 p1 fun r2 y S2 u H2 x2 A2 s2 q2 p2 => ?_⟩⟩⟩
  have q1' := q1.ext x2
  split at p2
  · rename_i xs ys hx hy
    obtain ⟨i, rfl⟩ := lst_ref hx
    obtain ⟨j, rfl⟩ := lst_ref hy
    obtain ⟨c, vs, rfl, h1, h2⟩ := lst_of A2 q1' hx
    obtain ⟨c', h3, h4⟩ := q1'.ref_
    cases h4
    obtain ⟨d, us, rfl, h5, h6⟩ := lst_of A2 q2 hy
    obtain ⟨d', h7, h8⟩ := q2.ref_
    cases h8
    exact ⟨c, d, vs, us, rfl, .inl ⟨h1, h5, p2 r2 H2 _ .refl A2 (wk_zip h3 h7)⟩⟩
  · split at p2
    · rename_i xs ys _ _
      obtain ⟨c, vs, rfl, h1, h2⟩ := q1'.tup_
      obtain ⟨d, us, rfl, h5, h6⟩ := q2.tup_
      refine ⟨c, d, vs, us, rfl, .inr ⟨h1, h5, p2 r2 H2 _ .refl A2 ?_⟩⟩
      intro r3 H3 S3 x3 A3 g
      have h1' := x3.tup _ _ h1
      have h5' := x3.tup _ _ h5
      have h2' := h2.ext x3
      have h6' := h6.ext x3
      refine ⟨fun k w hw => ?_, vs, us, h1', h5', ?_⟩
      · rw [List.getElem?_map] at hw
        obtain ⟨⟨w1, w2⟩, hp, rfl⟩ := Option.map_eq_some_iff.mp hw
        obtain ⟨p1, p2⟩ := List.getElem?_zip_eq_some.mp hp
        obtain ⟨v1, e1, r1'⟩ := h2'.get p1
        obtain ⟨v2, e2, r2'⟩ := h6'.get p2
        refine ⟨⟨vs, us, v1, v2, h1', h5', e1, e2⟩, fun y H4 ⟨T, z1, z2, e3, hT, e4, e5, e6⟩ => ?_⟩
        subst e3 e4
        have e5' := e5 vs h1'
        have e6' := e6 us h5'
        rw [e1] at e5'
        rw [e2] at e6'
        cases e5'
        cases e6'
        exact pair_new A3 hT r1' r2'
      · rw [List.length_map, List.length_zip, h2'.length, h6'.length]
        omega
    · exact p2.elim
end
end PD

namespace PD
open PySem PySem.Spec PyProof.Rows L2
/-! ## comprehensions -/
def Out.bindN {α β : Type} (o : Out α) (k : α → Store → Out β) : Out β := match o with
  | .ok a S => k a S
  | _ => .bad
@[simp] theorem bindN_ok {α β : Type} (a : α) (S : Store) (k : α → Store → Out β) : (Out.ok a S).bindN k = k a S := rfl
def Guards (gd : List (W × List W)) (S : Store) : Prop := ∀ q ∈ gd, itemsOf q.1 S = some q.2
open Classical in
noncomputable def lcGo (d : Nat) (gd : List (W × List W)) (g : Tgt) (t : TM) (e : EM) : List W → Slots → Store → Out W
  | [], _, S => if Guards gd S then .ok (.ref d) S else .bad
  | x :: xs, m, S => if Guards gd S then (match g.sem x m with
      | some m1 => (t m1 S).bindN fun b S2 => if b = true then (e m1 S2).bindN fun y S3 => (match S3[d]? with
          | some (.lst acc) => if acc.length < SL then lcGo d gd g t e xs m (S3.set d (.lst (acc ++ [y]))) else .bad
          | _ => .bad) else lcGo d gd g t e xs m S2
      | none => .bad) else .bad
noncomputable def eLc (own : List Nat) (src : IM) (g : Tgt) (t : TM) (e : EM) : EM := fun m S => (src m S).bind fun p S1 => lcGo S1.length p.2 g t e p.1 (wipeW m own) (S1 ++ [.lst []])
def ttYes : TM := fun _ S => .ok true S
abbrev WF : WX := fun _ _ _ _ => False
section
variable {G : Gw} {r : List Addr} {S : Store} {H : Hp} {st : L2.St} {W' : WX}
theorem two_ofN {α β γ δ : Type} {R : List Addr → Hp → α → β → Prop} {R' : List Addr → Hp → γ → δ → Prop} {o : Out α} {k : α → Store → Out γ} {Q : δ → Hp → Prop} {Q' : β → Hp → Prop} {E E' : XK} {r : List Addr}
    (p : Post G R' r H (o.bindN k) Q E) (h : ∀ r1 x S1 v H1, Ext G r H r1 H1 → Abs G r1 S1 H1 → R r1 H1 x v → Post G R' r1 H1 (k x S1) Q E → Q' v H1) : Post G R r H o Q' E' := by
  cases o with
  | ok a S => exact fun r1 H1 v y A q => h r1 a S v H1 y A q (Post.ext y p)
  | exc y S => exact p.elim
  | bad => exact p
theorem lc_sound {own : List Nat} {src : IM} {g : Tgt} {t : TM} {e : EM} {Q : VK} (hg : ∀ i ∈ g.own, i ∈ own) (h : tE G W' (eLc own src g t e) st H Q) : tLc (tI G W' src) (g.raw G.K) (tT G WF t) (tE G WF e) own st H Q := by
  obtain ⟨r0, sl, S0, A0, sr0, p0⟩ := h
  refine ⟨r0, sl, S0, A0, sr0, two_of sr0 p0 fun r1 p S1 J H1 x1 A1 s1 wk p1 => ?_⟩
  obtain ⟨xs, gd⟩ := p
  intro D hD
  have hlen := A1.len
  have A2 : Abs G (r1 ++ [D]) (S1 ++ [.lst []]) (upd H1 D (.lst [])) := A1.alloc hD ⟨[], upd_same, .nil⟩ rfl
  have x2 : Ext G r1 H1 (r1 ++ [D]) (upd H1 D (.lst [])) := Ext.alloc hD
  refine ⟨fun i m H2 => m = xs.length - i ∧ i ≤ xs.length ∧ ∃ r2 S2, Ext G r1 H1 r2 H2 ∧ Abs G r2 S2 H2 ∧ SR G r2 H2 (wipeW sl own) (wipe st own) ∧ r2[S1.length]? = some D ∧
    Post G (VR G) r2 H2 (lcGo S1.length gd g t e (xs.drop i) (wipeW sl own) S2) Q (wE W' st), ⟨xs.length, rfl, Nat.zero_le _, r1 ++ [D], _, x2, A2, (s1.wipe own).ext x2, by rw [← hlen]; simp, Post.ext x2 p1⟩, ?_⟩
  rintro i m H2 ⟨rfl, hi, r2, S2, x3, A3, s3, hd, p3⟩
  by_cases hlt : i < xs.length
  · rw [List.drop_eq_getElem_cons hlt] at p3
    simp only [lcGo] at p3
    split at p3
    · rename_i hgd
      obtain ⟨go, _⟩ := wk r2 H2 S2 x3 A3 hgd
      obtain ⟨go1, go2⟩ := go i _ (List.getElem?_eq_getElem hlt)
      have again : ∀ {r4 S4 H4}, Ext G r2 H2 r4 H4 → Abs G r4 S4 H4 → Post G (VR G) r4 H4 (lcGo S1.length gd g t e (xs.drop (i + 1)) (wipeW sl own) S4) Q (wE W' st) →
          ∃ m', m' < xs.length - i ∧ (m' = xs.length - (i + 1) ∧ i + 1 ≤ xs.length ∧ ∃ r2 S2, Ext G r1 H1 r2 H4 ∧ Abs G r2 S2 H4 ∧ SR G r2 H4 (wipeW sl own) (wipe st own) ∧ r2[S1.length]? = some D ∧
            Post G (VR G) r2 H4 (lcGo S1.length gd g t e (xs.drop (i + 1)) (wipeW sl own) S2) Q (wE W' st)) := fun {r4 S4 H4} x4 A4 p4 =>
        ⟨xs.length - (i + 1), by omega, rfl, hlt, r4, S4, x3.trans x4, A4, s3.ext x4, x4.get hd, p4⟩
      refine .inr ⟨go1, fun H' => ∃ r4 S4, Ext G r2 H2 r4 H' ∧ Abs G r4 S4 H' ∧ Post G (VR G) r4 H' (lcGo S1.length gd g t e (xs.drop (i + 1)) (wipeW sl own) S4) Q (wE W' st), fun H' ⟨r4, S4, x4, A4, p4⟩ => again x4 A4 p4, fun x H3 hy => ?_⟩
      obtain ⟨x4, A4, q4⟩ := go2 x H3 hy
      split at p3
      · rename_i m1 hm
        obtain ⟨vs, s5, run⟩ := tgt_run A4 (s3.ext x4) q4 hm
        refine run _ ⟨?_, r2, m1, S2, A4, s5, ?_⟩
        · rw [wipe_setAll hg, wipe_wipe]
        · refine two_ofN (Post.ext x4 p3) fun r5 b S5 b' H5 x5 A5 eb p5 => ?_
          have eb' : b = b' := eb
          subst eb'
          cases b with
          | false => exact ⟨r5, S5, x4.trans x5, A5, p5⟩
          | true =>
            simp only [if_true] at p5 ⊢
            refine ⟨r5, m1, S5, A5, s5.ext x5, two_ofN p5 fun r6 y S6 v H6 x6 A6 q6 p6 => ?_⟩
            split at p6
            · rename_i acc hacc
              have hd6 : r6[S1.length]? = some D := (x4.trans (x5.trans x6)).get hd
              obtain ⟨us, h1, h2⟩ := A6.lst hacc hd6
              split at p6
              · rename_i hz
                obtain ⟨x7, A7⟩ := A6.putL hacc hd6 (h2.append (.cons q6 .nil))
                exact ⟨us, h1, by rw [← h2.length, sl_eq]; exact hz, r6, _, (x4.trans (x5.trans x6)).trans x7, A7, Post.ext x7 p6⟩
              · exact p6.elim
            · exact p6.elim
      · exact p3.elim
    · exact p3.elim
  · have e : i = xs.length := by omega
    subst e
    rw [List.drop_length] at p3
    simp only [lcGo] at p3
    split at p3
    · rename_i hgd
      obtain ⟨_, stop⟩ := wk r2 H2 S2 x3 A3 hgd
      exact .inl ⟨stop, Post.ok p3 A3 (.ref hd)⟩
    · exact p3.elim
end

/-! ## statements -/
inductive SOut where
  | nx (m : Slots) (S : Store)
  | rt (w : W) (S : Store)
  | bk (m : Slots) (S : Store)
  | ct (m : Slots) (S : Store)
  | exc (x : Ex) (m : Slots) (S : Store)
  | bad
abbrev SM := Slots → Store → SOut
def liftE {α : Type} (o : Out α) (m : Slots) (k : α → Store → SOut) : SOut := match o with
  | .ok a S => k a S
  | .exc x S => .exc x m S
  | .bad => .bad
@[simp] theorem liftE_ok {α : Type} (a : α) (S : Store) (m : Slots) (k : α → Store → SOut) : liftE (.ok a S) m k = k a S := rfl
@[simp] theorem liftE_exc {α : Type} (x : Ex) (S : Store) (m : Slots) (k : α → Store → SOut) : liftE (.exc x S) m k = .exc x m S := rfl
def sBad : SM := fun _ _ => .bad
def sNx : SM := fun m S => .nx m S
def sSeq (a b : SM) : SM := fun m S => match a m S with
  | .nx m' S' => b m' S'
  | o => o
def sAsg (g : Tgt) (e : EM) : SM := fun m S => liftE (e m S) m fun w S1 => match g.sem w m with
  | some m' => .nx m' S1
  | none => .bad
def sDrop (e : EM) : SM := fun m S => liftE (e m S) m fun _ S1 => .nx m S1
def sRet (e : EM) : SM := fun m S => liftE (e m S) m fun w S1 => .rt w S1
def sRetN : SM := fun _ S => .rt .non S
def sBrk : SM := fun m S => .bk m S
def sCt : SM := fun m S => .ct m S
def sSub (o i e : EM) : SM := fun m S => liftE (e m S) m fun v S1 => liftE (o m S1) m fun x S2 => liftE (i m S2) m fun k S3 => match setW x k v S3 with
  | some S4 => .nx m S4
  | none => .bad
def putFW (f : Str) (v : W) : List (Str × W) → List (Str × W)
  | [] => [(f, v)]
  | (g, x) :: r => if g = f then (g, v) :: r else (g, x) :: putFW f v r
def sFldC (cs : List Str) (o : EM) (f : Str) (e : EM) : SM := fun m S => liftE (e m S) m fun v S1 => liftE (o m S1) m fun x S2 => match x with
  | .ref i => (match S2[i]? with
    | some (.ins c fs) => if cs.contains c = true ∧ fs.length < 1000 then .nx m (S2.set i (.ins c (putFW f v fs))) else .bad
    | _ => .bad)
  | _ => .bad
def sIf (t : TM) (a b : SM) : SM := fun m S => liftE (t m S) m fun c S1 => if c = true then a m S1 else b m S1
def sPar (is : List Nat) (as : AM) : SM := fun m S => liftE (as m S) m fun ws S1 => if ws.length = is.length then .nx (setAll m is ws) S1 else .bad
def sRaise (c : Str) : SM := fun m S => .exc ⟨c, none⟩ m S
open Classical in
noncomputable def forGo (gd : List (W × List W)) (g : Tgt) (b : SM) : List W → SM
  | [], m, S => if Guards gd S then .nx m S else .bad
  | x :: xs, m, S => if Guards gd S then (match g.sem x m with
      | some m1 => (match b m1 S with
        | .nx m2 S2 => forGo gd g b xs m2 S2
        | .ct m2 S2 => forGo gd g b xs m2 S2
        | .bk m2 S2 => .nx m2 S2
        | o => o)
      | none => .bad) else .bad
noncomputable def sFor (src : IM) (g : Tgt) (b : SM) : SM := fun m S => liftE (src m S) m fun p S1 => forGo p.2 g b p.1 m S1
def whGo (t : TM) (b : SM) : Nat → Slots → Store → Option SOut
  | 0, _, _ => none
  | n + 1, m, S => match t m S with
    | .ok c S1 => if c = true then (match b m S1 with
        | .nx m2 S2 => whGo t b n m2 S2
        | .ct m2 S2 => whGo t b n m2 S2
        | .bk m2 S2 => some (.nx m2 S2)
        | o => some o) else some (.nx m S1)
    | .exc x S1 => some (.exc x m S1)
    | .bad => some .bad
open Classical in
noncomputable def sWhile (t : TM) (b : SM) : SM := fun m S => if h : ∃ n o, whGo t b n m S = some o then Classical.choose (Classical.choose_spec h) else .bad
theorem whGo_more {t : TM} {b : SM} : ∀ {n : Nat} {m : Slots} {S : Store} {o : SOut} (k : Nat), whGo t b n m S = some o → whGo t b (n + k) m S = some o
  | 0, _, _, _, _, h => by cases h
  | n + 1, m, S, o, k, h => by
    rw [show n + 1 + k = (n + k) + 1 by omega]
    simp only [whGo] at h ⊢
    cases e1 : t m S with
    | bad => rw [e1] at h; exact h
    | exc x S1 => rw [e1] at h; exact h
    | ok c S1 =>
      rw [e1] at h
      cases c with
      | false => exact h
      | true =>
        simp only [if_true] at h ⊢
        cases e2 : b m S1 with
        | nx m2 S2 => rw [e2] at h; exact whGo_more k h
        | ct m2 S2 => rw [e2] at h; exact whGo_more k h
        | bk m2 S2 => rw [e2] at h; exact h
        | rt w S2 => rw [e2] at h; exact h
        | exc x m2 S2 => rw [e2] at h; exact h
        | bad => rw [e2] at h; exact h
theorem whGo_one {t : TM} {b : SM} {n n' : Nat} {m : Slots} {S : Store} {o o' : SOut} (h : whGo t b n m S = some o) (h' : whGo t b n' m S = some o') : o = o' := by
  have e1 := whGo_more n' h
  have e2 := whGo_more n h'
  rw [Nat.add_comm n' n, e1] at e2
  exact Option.some.inj e2
theorem sWhile_of {t : TM} {b : SM} {n : Nat} {m : Slots} {S : Store} {o : SOut} (h : whGo t b n m S = some o) : sWhile t b m S = o := by
  have ex : ∃ n o, whGo t b n m S = some o := ⟨n, o, h⟩
  unfold sWhile
  rw [dif_pos ex]
  exact whGo_one (Classical.choose_spec (Classical.choose_spec ex)) h
theorem sWhile_some {t : TM} {b : SM} {m : Slots} {S : Store} : (∃ n, whGo t b n m S = some (sWhile t b m S)) ∨ sWhile t b m S = .bad := by
  by_cases ex : ∃ n o, whGo t b n m S = some o
  · obtain ⟨n, o, h⟩ := ex
    exact .inl ⟨n, by rw [sWhile_of h]; exact h⟩
  · refine .inr ?_
    unfold sWhile
    rw [dif_neg ex]
/-- one turn of a while -/
theorem sWhile_eq (t : TM) (b : SM) (m : Slots) (S : Store) : sWhile t b m S = (match t m S with
    | .ok c S1 => if c = true then (match b m S1 with
        | .nx m2 S2 => sWhile t b m2 S2
        | .ct m2 S2 => sWhile t b m2 S2
        | .bk m2 S2 => .nx m2 S2
        | o => o) else .nx m S1
    | .exc x S1 => .exc x m S1
    | .bad => .bad) := by
  have go : ∀ m2 S2, (∀ n o, whGo t b n m2 S2 = some o → whGo t b (n + 1) m S = some o) → (∀ n o, whGo t b (n + 1) m S = some o → whGo t b n m2 S2 = some o) → sWhile t b m S = sWhile t b m2 S2 := fun m2 S2 h1 h2 => by
    rcases sWhile_some (t := t) (b := b) (m := m2) (S := S2) with ⟨n, h⟩ | h
    · exact sWhile_of (h1 n _ h)
    · rcases sWhile_some (t := t) (b := b) (m := m) (S := S) with ⟨n, h'⟩ | h'
      · cases n with
        | zero => cases h'
        | succ n => exact (sWhile_of (h2 n _ h')).symm
      · rw [h, h']
  cases e1 : t m S with
  | bad => exact sWhile_of (n := 1) (by simp only [whGo, e1])
  | exc x S1 => exact sWhile_of (n := 1) (by simp only [whGo, e1])
  | ok c S1 =>
    cases c with
    | false => exact sWhile_of (n := 1) (by simp only [whGo, e1]; rfl)
    | true =>
      simp only [if_true]
      cases e2 : b m S1 with
      | nx m2 S2 => exact go m2 S2 (fun n o h => by simp only [whGo, e1, e2, if_true]; exact h) fun n o h => by simpa only [whGo, e1, e2, if_true] using h
      | ct m2 S2 => exact go m2 S2 (fun n o h => by simp only [whGo, e1, e2, if_true]; exact h) fun n o h => by simpa only [whGo, e1, e2, if_true] using h
      | bk m2 S2 => exact sWhile_of (n := 1) (by simp only [whGo, e1, e2, if_true])
      | rt w S2 => exact sWhile_of (n := 1) (by simp only [whGo, e1, e2, if_true])
      | exc x m2 S2 => exact sWhile_of (n := 1) (by simp only [whGo, e1, e2, if_true])
      | bad => exact sWhile_of (n := 1) (by simp only [whGo, e1, e2, if_true])

def PostS (G : Gw) (r : List Addr) (H : Hp) (o : SOut) (D : Ends) (W' : WX) : Prop := match o with
  | .nx m S' => ∀ r' H' st', Ext G r H r' H' → Abs G r' S' H' → SR G r' H' m st' → D.nx st' H'
  | .rt w S' => ∀ r' H' v, Ext G r H r' H' → Abs G r' S' H' → VR G r' H' w v → D.rt v H'
  | .bk m S' => ∀ r' H' st', Ext G r H r' H' → Abs G r' S' H' → SR G r' H' m st' → D.bk st' H'
  | .ct m S' => ∀ r' H' st', Ext G r H r' H' → Abs G r' S' H' → SR G r' H' m st' → D.ct st' H'
  | .exc x m S' => ∀ r' H' st' cls d, Ext G r H r' H' → Abs G r' S' H' → SR G r' H' m st' → XR G r' H' x cls d → W' cls d st' H'
  | .bad => False
def tS (G : Gw) (W' : WX) (m : SM) : TS := fun D st H => ∃ r sl S, Abs G r S H ∧ SR G r H sl st ∧ PostS G r H (m sl S) D W'
section
variable {G : Gw} {r r' : List Addr} {S : Store} {H H' : Hp} {st : L2.St} {W' : WX} {sl : Slots} {D D' : Ends}
theorem PostS.ext {o : SOut} (x : Ext G r H r' H') (p : PostS G r H o D W') : PostS G r' H' o D W' := by
  cases o with
  | nx m S => exact fun r2 H2 s y => p r2 H2 s (x.trans y)
  | rt m S => exact fun r2 H2 s y => p r2 H2 s (x.trans y)
  | bk m S => exact fun r2 H2 s y => p r2 H2 s (x.trans y)
  | ct m S => exact fun r2 H2 s y => p r2 H2 s (x.trans y)
  | exc e m S => exact fun r2 H2 s c d y => p r2 H2 s c d (x.trans y)
  | bad => exact p
/-- an expression ahead in a statement -/
theorem two_s {α β : Type} {R : List Addr → Hp → α → β → Prop} {a : Out α} {k : α → Store → SOut} {Q' : β → Hp → Prop} (sr : SR G r H sl st) (p : PostS G r H (liftE a sl k) D W')
    (h : ∀ r1 x S1 v H1, Ext G r H r1 H1 → Abs G r1 S1 H1 → SR G r1 H1 sl st → R r1 H1 x v → PostS G r1 H1 (k x S1) D W' → Q' v H1) : Post G R r H a Q' (wE W' st) := by
  cases a with
  | ok x S1 => exact fun r1 H1 v y A q => h r1 x S1 v H1 y A (sr.ext y) q (PostS.ext y p)
  | exc e S1 => exact fun r1 H1 c d y A q => p r1 H1 st c d y A (sr.ext y) q
  | bad => exact p
end
end PD
namespace L2
open PySem PySem.Spec PyProof.Rows
theorem PS.impW {X : Cx} {s : Stmt} {t t' : TS} (h : PS X s t) (i : ∀ D st H, t' D st H → t D st H) : PS X s t' := ⟨fun pins s st H D I q => h.run pins s st H D I (i _ _ _ q)⟩
theorem PSs.impW {X : Cx} {s : List Stmt} {t t' : TS} (h : PSs X s t) (i : ∀ D st H, t' D st H → t D st H) : PSs X s t' := ⟨fun pins s st H D I q => h.run pins s st H D I (i _ _ _ q)⟩
theorem PS.noW {X : Cx} {s : Stmt} {t : TS} (i : ∀ D st H, ¬ t D st H) : PS X s t := ⟨fun pins s st H D I q => (i _ _ _ q).elim⟩
theorem PSs.noW {X : Cx} {s : List Stmt} {t : TS} (i : ∀ D st H, ¬ t D st H) : PSs X s t := ⟨fun pins s st H D I q => (i _ _ _ q).elim⟩
end L2
namespace PD
open PySem PySem.Spec PyProof.Rows L2
section
variable {X : Cx} {W' : WX} {e : Expr} {a b c : EM} {as : AM} {t : TM} {m n : SM} {pos : Pos} {src : IM} {g : Tgt}
theorem tS_bad {G : Gw} {D : Ends} {st : L2.St} {H : Hp} : ¬ tS G W' sBad D st H := fun ⟨_, _, _, _, _, p⟩ => p
theorem mss_nil : PSs X [] (tS (gw X) W' sNx) := pss_nil.impW fun D st H ⟨r, sl, S, A, sr, p⟩ => p r H st .refl A sr
theorem mss_cons {s : Stmt} {ss : List Stmt} (h1 : PS X s (tS (gw X) W' m)) (h2 : PSs X ss (tS (gw X) W' n)) : PSs X (s :: ss) (tS (gw X) W' (sSeq m n)) := by
  refine (pss_cons h1 h2).impW fun D st H ⟨r, sl, S, A, sr, p⟩ => ⟨r, sl, S, A, sr, ?_⟩
  unfold sSeq at p
  cases e1 : m sl S with
  | nx m' S' => rw [e1] at p; exact fun r1 H1 st1 y A1 s1 => ⟨r1, m', S', A1, s1, PostS.ext y p⟩
  | rt w S' => rw [e1] at p; exact p
  | bk m' S' => rw [e1] at p; exact p
  | ct m' S' => rw [e1] at p; exact p
  | exc x m' S' => rw [e1] at p; exact p
  | bad => rw [e1] at p; exact p
theorem ms_pass : PS X (.Pass pos) (tS (gw X) W' sNx) := ps_pass.impW fun D st H ⟨r, sl, S, A, sr, p⟩ => p r H st .refl A sr
theorem ms_doc {x j pos'} : PS X (.Expr (.Constant (.str x) j pos) pos') (tS (gw X) W' sNx) := ps_doc.impW fun D st H ⟨r, sl, S, A, sr, p⟩ => p r H st .refl A sr
theorem ms_brk : PS X (.Break pos) (tS (gw X) W' sBrk) := ps_break.impW fun D st H ⟨r, sl, S, A, sr, p⟩ => p r H st .refl A sr
theorem ms_ct : PS X (.Continue pos) (tS (gw X) W' sCt) := ps_continue.impW fun D st H ⟨r, sl, S, A, sr, p⟩ => p r H st .refl A sr
theorem ms_expr (he : PE X e (tE (gw X) W' a)) (hs : swapsWith e none pos.line X.env = pure false) : PS X (.Expr e pos) (tS (gw X) W' (sDrop a)) :=
  (ps_expr he hs).impW fun D st H ⟨r, sl, S, A, sr, p⟩ => ⟨r, sl, S, A, sr, two_s sr p fun r1 x S1 v H1 x1 A1 s1 q1 p1 => p1 r1 H1 st .refl A1 s1⟩
theorem ms_ret (he : PE X e (tE (gw X) W' a)) : PS X (.Return (some e) pos) (tS (gw X) W' (sRet a)) :=
  (ps_ret he).impW fun D st H ⟨r, sl, S, A, sr, p⟩ => ⟨r, sl, S, A, sr, two_s sr p fun r1 x S1 v H1 x1 A1 s1 q1 p1 => p1 r1 H1 v .refl A1 q1⟩
theorem ms_retN : PS X (.Return none pos) (tS (gw X) W' sRetN) := ps_retN.impW fun D st H ⟨r, sl, S, A, sr, p⟩ => p r H .non .refl A .non
theorem ms_if {ss us : List Stmt} (ht : PT X e (tT (gw X) W' t)) (h1 : PSs X ss (tS (gw X) W' m)) (h2 : PSs X us (tS (gw X) W' n)) : PS X (.If e ss us pos) (tS (gw X) W' (sIf t m n)) := by
  refine (ps_if ht h1 h2).impW fun D st H ⟨r, sl, S, A, sr, p⟩ => ⟨r, sl, S, A, sr, two_s sr p fun r1 x S1 v H1 x1 A1 s1 q1 p1 => ?_⟩
  have ev : x = v := q1
  subst ev
  cases x with
  | true => exact ⟨r1, sl, S1, A1, s1, p1⟩
  | false => exact ⟨r1, sl, S1, A1, s1, p1⟩
/-- a store, by the expression's reading -/
theorem asg_read {G : Gw} {st : L2.St} {H : Hp} {D : Ends} (h : tS G W' (sAsg g a) D st H) : tAsg (tE G W' a) (g.raw G.K) D st H := by
  obtain ⟨r, sl, S, A, sr, p⟩ := h
  refine ⟨r, sl, S, A, sr, two_s sr p fun r1 x S1 v H1 x1 A1 s1 q1 p1 => ?_⟩
  split at p1
  · rename_i m' hm
    obtain ⟨vs, s2, run⟩ := tgt_run A1 s1 q1 hm
    exact run _ (p1 r1 H1 _ .refl A1 s2)
  · exact p1.elim
theorem ms_set {i : Nat} {x : Str} {pos' : Pos} (hN : X.N.Nodup) (hi : X.N[i]? = some x) (hx : Loc X.env.scope x) (he : PE X e (tE (gw X) W' a)) (hs : swapsWith e (some (.Name x pos')) pos.line X.env = pure false) (hf : X.fn x = true ∨ X.env.scope.names.lookup x = some .local) :
    PS X (.Assign [.Name x pos'] e pos) (tS (gw X) W' (sAsg (.nm i) a)) := (ps_set hN hi hx he hs hf).impW fun D st H h => asg_read (g := .nm i) h
theorem ms_asg {tg : Expr} (he : PE X e (tE (gw X) W' a)) (hg : PG X tg (g.raw X.K)) (hs : swapsWithSole [tg] e pos.line X.env = pure false) (hw : swappedStores [tg] e X.env = pure none) (h1 : (assignEach [tg] X.env).map (·.2) = [assign tg X.env]) :
    PS X (.Assign [tg] e pos) (tS (gw X) W' (sAsg g a)) := (ps_asg he hg hs hw h1).impW fun D st H h => asg_read h
theorem ms_par {i j : Nat} {x y : Str} {ea eb : Expr} {px py pt : Pos} {kt k2 pt2} (hc : X.calm = true) (hN : X.N.Nodup) (hi : X.N[i]? = some x) (hj : X.N[j]? = some y) (hij : i ≠ j)
    (hx : X.env.scope.names.lookup x = some .local) (hy : X.env.scope.names.lookup y = some .local) (ha : PA X [ea, eb] (tA (gw X) W' as))
    (hw : swappedStores [.Tuple [.Name x px, .Name y py] kt pt] (.Tuple [ea, eb] k2 pt2) X.env = pure (some [x, y]))
    (hs : swapsWithSole [.Tuple [.Name x px, .Name y py] kt pt] (.Tuple [ea, eb] k2 pt2) pos.line X.env = pure false) : PS X (.Assign [.Tuple [.Name x px, .Name y py] kt pt] (.Tuple [ea, eb] k2 pt2) pos) (tS (gw X) W' (sPar [i, j] as)) := by
  refine (ps_par hc hN hi hj hij hx hy ha hw hs).impW fun D st H ⟨r, sl, S, A, sr, p⟩ => ⟨r, sl, S, A, sr, two_s sr p fun r1 ws S1 vs H1 x1 A1 s1 q1 p1 => ?_⟩
  split at p1
  · rename_i hl
    match ws, hl, q1, p1 with
    | [u, v], _, q1, p1 =>
      obtain ⟨u', v', rfl, h1, h2⟩ := q1.two
      exact ⟨u', v', rfl, p1 r1 H1 _ .refl A1 (s1.setAll (is := [i, j]) q1)⟩
  · exact p1.elim
theorem ms_sub {o i : Expr} {pt : Pos} (he : PE X e (tE (gw X) W' a)) (ho : PE X o (tE (gw X) W' b)) (hi : PE X i (tE (gw X) W' c)) (hs : swapsWithSole [.Subscript o i pt] e pos.line X.env = pure false) (hw : swappedStores [.Subscript o i pt] e X.env = pure none)
    (h1 : (assignEach [.Subscript o i pt] X.env).map (·.2) = [assign (.Subscript o i pt) X.env])
    (hst : ∀ v, assign (.Subscript o i pt) X.env v = (do
      let ov ← holding [v] (eval o X.env)
      let iv ← holding [v, ov] (eval i X.env)
      standAt pt
      holding [v, ov, iv] (setItem ov iv v)
      release [v, ov, iv] [])) : PS X (.Assign [.Subscript o i pt] e pos) (tS (gw X) W' (sSub b c a)) := by
  refine (ps_asg he (pg_sub ho hi sets hst) hs hw h1).impW fun D st H ⟨r, sl, S, A, sr, p⟩ => ⟨r, sl, S, A, sr, two_s sr p fun r1 x S1 v H1 x1 A1 s1 q1 p1 => ?_⟩
  refine ⟨r1, sl, S1, A1, s1, two_s s1 p1 fun r2 y S2 u H2 x2 A2 s2 q2 p2 => ?_⟩
  refine ⟨r2, sl, S2, A2, s2, two_s s2 p2 fun r3 z S3 k H3 x3 A3 s3 q3 p3 => ?_⟩
  split at p3
  · rename_i S4 h4
    exact ⟨r3, S3, y, z, x, S4, A3, q2.ext x3, q3, (q1.ext x2).ext x3, h4, fun r4 H4 x4 A4 => p3 r4 H4 st x4 A4 (s3.ext x4)⟩
  · exact p3.elim
theorem FR.put {G : Gw} {r : List Addr} {H : Hp} {w : W} {v : V} {f : Str} (q : VR G r H w v) : ∀ {fs : List (Str × W)} {l : List (Str × V)}, FR G r H fs l → FR G r H (putFW f w fs) (putF f v l)
  | [], l, h => by
    unfold FR at h
    subst h
    exact ⟨v, [], rfl, q, by unfold FR; rfl⟩
  | (k, x) :: fs, l, h => by
    unfold FR at h
    obtain ⟨y, t, rfl, h1, h2⟩ := h
    unfold putFW putF
    by_cases e : k = f
    · rw [if_pos e, if_pos e]
      exact ⟨v, t, rfl, q, h2⟩
    · rw [if_neg e, if_neg e]
      exact ⟨y, _, rfl, h1, FR.put q h2⟩
theorem FR.length {G : Gw} {r : List Addr} {H : Hp} : ∀ {fs : List (Str × W)} {l : List (Str × V)}, FR G r H fs l → fs.length = l.length
  | [], l, h => by unfold FR at h; subst h; rfl
  | (k, x) :: fs, l, h => by
    unfold FR at h
    obtain ⟨y, t, rfl, h1, h2⟩ := h
    simp [FR.length h2]
theorem ms_fld {g : Gam} {k : Nat} {o : Expr} {f : Str} {pos' : Pos} (gk : GOk X.prog X.w X.K X.mg X.base k g) (he : PE X e (tE (gw X) W' a)) (ho : PE X o (tE (gw X) W' b)) (hs : swapsWith e (some (.Attribute o f pos')) pos.line X.env = pure false) :
    PS X (.Assign [.Attribute o f pos'] e pos) (tS (gw X) W' (sFldC (clsWith g f) b f a)) := by
  refine (ps_fld ho he hs).impW fun D st H ⟨r, sl, S, A, sr, p⟩ => ⟨r, sl, S, A, sr, two_s sr p fun r1 x S1 v H1 x1 A1 s1 q1 p1 => ?_⟩
  refine ⟨r1, sl, S1, A1, s1, two_s s1 p1 fun r2 y S2 u H2 x2 A2 s2 q2 p2 => ?_⟩
  split at p2
  · rename_i i
    split at p2
    · rename_i c fs hc
      split at p2
      · rename_i hcs
        obtain ⟨cm, h1, h2⟩ := mem_clsWith hcs.1
        obtain ⟨C, g1, g2, _, g3, _⟩ := gk.cls _ _ h1
        obtain ⟨q, e1, rfl⟩ := q2.ref_
        obtain ⟨C', dx, l, g5, g6, g7⟩ := A2.ins hc e1
        have eC : C = C' := by
          have g1' : X.mg c = some (.ref C) := g1
          have g5' : X.mg c = some (.ref C') := g5
          rw [g1'] at g5'
          cases g5'
          rfl
        subst eC
        have mu : Mut (H2 q) := by rw [g6]; trivial
        have x3 : Ext (gw X) r2 H2 r2 (upd H2 q (.ins C dx (putF f v l))) := Ext.write mu
        have A3 : Abs (gw X) r2 (S2.set i (.ins c (putFW f x fs))) (upd H2 q (.ins C dx (putF f v l))) := A2.write hc e1 rfl ⟨C, dx, _, g1, upd_same, (FR.put (q1.ext x2) g7).ext x3⟩ rfl
        exact ⟨q, C, dx, l, rfl, g6, g2, g3 _ h2, by rw [← g7.length]; exact hcs.2, p2 r2 _ st x3 A3 (s2.ext x3)⟩
      · exact p2.elim
    · exact p2.elim
  · exact p2.elim
theorem ms_while {ss : List Stmt} (hp : PassesOwn (model X.prog X.w) X.A X.env X.xe) (ht : PT X e (tT (gw X) W' t)) (h1 : PSs X ss (tS (gw X) W' m)) : PS X (.While e ss [] pos) (tS (gw X) W' (sWhile t m)) := by
  refine (ps_while hp ht h1).impW fun D st H ⟨r, sl, S, A, sr, p⟩ => ?_
  rcases sWhile_some (t := t) (b := m) (m := sl) (S := S) with ⟨n0, hn0⟩ | hb
  · refine ⟨fun n st' H' => ∃ r1 sl1 S1 o, Abs (gw X) r1 S1 H' ∧ SR (gw X) r1 H' sl1 st' ∧ whGo t m n sl1 S1 = some o ∧ PostS (gw X) r1 H' o D W', ⟨n0, r, sl, S, _, A, sr, hn0, p⟩, ?_⟩
    rintro n st1 H1 ⟨r1, sl1, S1, o, A1, s1, hn, p1⟩
    cases n with
    | zero => cases hn
    | succ n =>
      simp only [whGo] at hn
      refine ⟨r1, sl1, S1, A1, s1, ?_⟩
      cases e1 : t sl1 S1 with
      | bad =>
        rw [e1] at hn
        cases hn
        exact p1
      | exc x S2 =>
        rw [e1] at hn
        cases hn
        exact fun r2 H2 c d y A2 q2 => p1 r2 H2 st1 c d y A2 (s1.ext y) q2
      | ok b S2 =>
        rw [e1] at hn
        intro r2 H2 b' y A2 eb
        have eb' : b = b' := eb
        subst eb'
        cases b with
        | false =>
          simp only [Bool.false_eq_true, if_false] at hn ⊢
          cases hn
          exact p1 r2 H2 st1 y A2 (s1.ext y)
        | true =>
          simp only [if_true] at hn ⊢
          refine ⟨fun st' H' => ∃ r1 sl1 S1 o, Abs (gw X) r1 S1 H' ∧ SR (gw X) r1 H' sl1 st' ∧ whGo t m n sl1 S1 = some o ∧ PostS (gw X) r1 H' o D W', fun st' H' h => ⟨n, Nat.lt_succ_self n, h⟩, r2, sl1, S2, A2, s1.ext y, ?_⟩
          cases e2 : m sl1 S2 with
          | nx m2 S3 =>
            rw [e2] at hn
            exact fun r3 H3 st3 z A3 s3 => ⟨r3, m2, S3, o, A3, s3, hn, PostS.ext (y.trans z) p1⟩
          | ct m2 S3 =>
            rw [e2] at hn
            exact fun r3 H3 st3 z A3 s3 => ⟨r3, m2, S3, o, A3, s3, hn, PostS.ext (y.trans z) p1⟩
          | bk m2 S3 =>
            rw [e2] at hn
            cases hn
            exact fun r3 H3 st3 z A3 s3 => p1 r3 H3 st3 (y.trans z) A3 s3
          | rt w S3 =>
            rw [e2] at hn
            cases hn
            exact fun r3 H3 st3 z A3 s3 => p1 r3 H3 st3 (y.trans z) A3 s3
          | exc x m2 S3 =>
            rw [e2] at hn
            cases hn
            exact fun r3 H3 st3 c d z A3 s3 => p1 r3 H3 st3 c d (y.trans z) A3 s3
          | bad =>
            rw [e2] at hn
            cases hn
            exact p1
  · rw [hb] at p
    exact p.elim
theorem ms_for {tg iter : Expr} {ss : List Stmt} (hp : PassesOwn (model X.prog X.w) X.A X.env X.xe) (hc : X.calm = true) (hi : PI X tg iter (tI (gw X) W' src)) (hg : PG X tg (g.raw X.K)) (h1 : PSs X ss (tS (gw X) W' m)) (hs : ∀ x, foldedSetIterable iter X.env x = pure x) :
    PS X (.For tg iter ss [] pos) (tS (gw X) W' (sFor src g m)) := by
  refine (ps_for hp hc hi hg h1 hs).impW fun D st H ⟨r, sl, S, A, sr, p⟩ => ⟨r, sl, S, A, sr, two_s sr p fun r1 w S1 J H1 x1 A1 s1 wk p1 => ?_⟩
  obtain ⟨xs, gd⟩ := w
  refine ⟨fun i n st2 H2 => n = xs.length - i ∧ i ≤ xs.length ∧ ∃ r2 sl2 S2, Ext (gw X) r1 H1 r2 H2 ∧ Abs (gw X) r2 S2 H2 ∧ SR (gw X) r2 H2 sl2 st2 ∧ PostS (gw X) r2 H2 (forGo gd g m (xs.drop i) sl2 S2) D W', ⟨xs.length, rfl, Nat.zero_le _, r1, sl, S1, .refl, A1, s1, p1⟩, ?_⟩
  rintro i n st2 H2 ⟨rfl, hi, r2, sl2, S2, x2, A2, s2, p2⟩
  by_cases hlt : i < xs.length
  · rw [List.drop_eq_getElem_cons hlt] at p2
    simp only [forGo] at p2
    split at p2
    · rename_i hgd
      obtain ⟨go, _⟩ := wk r2 H2 S2 x2 A2 hgd
      obtain ⟨go1, go2⟩ := go i _ (List.getElem?_eq_getElem hlt)
      refine .inr ⟨go1, fun st' H' => ∃ r4 sl4 S4, Ext (gw X) r2 H2 r4 H' ∧ Abs (gw X) r4 S4 H' ∧ SR (gw X) r4 H' sl4 st' ∧ PostS (gw X) r4 H' (forGo gd g m (xs.drop (i + 1)) sl4 S4) D W',
        fun st' H' ⟨r4, sl4, S4, x4, A4, s4, p4⟩ => ⟨xs.length - (i + 1), by omega, rfl, hlt, r4, sl4, S4, x2.trans x4, A4, s4, p4⟩, fun x H3 hy => ?_⟩
      obtain ⟨x3, A3, q3⟩ := go2 x H3 hy
      split at p2
      · rename_i m1 hm
        obtain ⟨vs, s4, run⟩ := tgt_run A3 (s2.ext x3) q3 hm
        refine run _ ⟨r2, m1, S2, A3, s4, ?_⟩
        cases e1 : m m1 S2 with
        | nx m2 S3 => rw [e1] at p2; exact fun r5 H5 st5 z A5 s5 => ⟨r5, m2, S3, x3.trans z, A5, s5, PostS.ext (x3.trans z) p2⟩
        | ct m2 S3 => rw [e1] at p2; exact fun r5 H5 st5 z A5 s5 => ⟨r5, m2, S3, x3.trans z, A5, s5, PostS.ext (x3.trans z) p2⟩
        | bk m2 S3 => rw [e1] at p2; exact fun r5 H5 st5 z A5 s5 => p2 r5 H5 st5 (x3.trans z) A5 s5
        | rt w S3 => rw [e1] at p2; exact fun r5 H5 st5 z A5 s5 => p2 r5 H5 st5 (x3.trans z) A5 s5
        | exc y m2 S3 => rw [e1] at p2; exact fun r5 H5 st5 c d z A5 s5 => p2 r5 H5 st5 c d (x3.trans z) A5 s5
        | bad => rw [e1] at p2; exact p2
      · exact p2.elim
    · exact p2.elim
  · have e : i = xs.length := by omega
    subst e
    rw [List.drop_length] at p2
    simp only [forGo] at p2
    split at p2
    · rename_i hgd
      obtain ⟨_, stop⟩ := wk r2 H2 S2 x2 A2 hgd
      exact .inl ⟨stop, p2 r2 H2 st2 .refl A2 s2⟩
    · exact p2.elim
theorem ms_raise {x : Str} {t0 : Str} {C : Addr} {j : Nat} {p p2 pos2 : Pos} (hc : X.calm = true) (tk : Takes X W') (hm : X.mg x = some (.ref C)) (k : ExcHas X.K C) (hg : Gl X x) (hdb : (x == ("__debug__" : Str)) = false) :
    PS X (.Raise (some (.Call (.Name x p) [.Constant (.str t0) j p2] [] pos2)) none pos) (tS (gw X) W' (sRaise x)) := by
  refine (ps_raise hc tk (pmk_own PySem.F.excBase_ValueError k.own hm k.kp (raises_own k.sub k.ty) hg hdb)).impW fun D st H ⟨r, sl, S, A, sr, q⟩ => ?_
  exact q r H st _ none .refl A sr ⟨hm, rfl⟩
end
end PD

namespace PD
open PySem PySem.Spec PyProof.Rows L2
/-! ## dicts -/
def putD (kvs : List (W × W)) (k v : W) : List (W × W) := if (kvs.any fun p => eqK p.1 k) = true then kvs.map (fun p => if eqK p.1 k = true then (p.1, v) else p) else kvs ++ [(k, v)]
def mergeD (kvs more : List (W × W)) : List (W × W) := more.foldl (fun acc p => putD acc p.1 p.2) kvs
def keyW (w : W) : Bool := (keyOf w).isSome
def dGo : List (EM × EM) → Slots → Store → Out (List (W × W))
  | [], _, S => .ok [] S
  | (k, v) :: r, m, S => (k m S).bind fun x S1 => (v m S1).bind fun y S2 => (dGo r m S2).bind fun ps S3 => .ok ((x, y) :: ps) S3
def eDisp (prs : List (EM × EM)) : EM := fun m S => (dGo prs m (S ++ [.dic []])).bind fun ps S1 => match S1[S.length]? with
  | some (.dic []) => if (ps.all fun p => keyW p.1) = true ∧ ps.length ≤ 15 then .ok (.ref S.length) (S1.set S.length (.dic (mergeD [] ps))) else .bad
  | _ => .bad
def eDic0 : EM := fun _ S => .ok (.ref S.length) (S ++ [.dic []])
/-- d[k] of a dict, else of what has places -/
def ixD : W → W → Store → Out W
  | .ref p, k, S => match S[p]? with
    | some (.dic kvs) => if keyW k then (match getK kvs k with
      | some w => .ok w S
      | none => .bad) else .bad
    | _ => .bad
  | _, _, _ => .bad
section
variable {G : Gw} {r : List Addr} {S : Store} {H : Hp}
theorem KR.vr {w : W} {k : Key} : KR w k ↔ (keyW w = true ∧ ∀ r H, VR G r H w (kV k)) := by
  constructor
  · intro h
    cases w with
    | int i => unfold KR at h; subst h; exact ⟨rfl, fun r H => by unfold VR; rfl⟩
    | str i => unfold KR at h; subst h; exact ⟨rfl, fun r H => by unfold VR; rfl⟩
    | _ => unfold KR at h; exact h.elim
  · intro ⟨h, q⟩
    have q := q [] fun _ => none
    cases w with
    | int i => unfold VR at q; unfold KR; cases k with
      | inl j => simp only [kV, V.int.injEq] at q; rw [q]
      | inr j => cases q
    | str i => unfold VR at q; unfold KR; cases k with
      | inl j => cases q
      | inr j => simp only [kV, V.str.injEq] at q; rw [q]
    | _ => cases h
theorem key_at {w : W} {v : V} (h : keyW w = true) (q : VR G r H w v) : ∃ k, v = kV k ∧ KR w k := by
  cases w with
  | int i => unfold VR at q; exact ⟨.inl i, q, by unfold KR; rfl⟩
  | str i => unfold VR at q; exact ⟨.inr ⟨i.toArray⟩, q, by unfold KR; rfl⟩
  | _ => cases h
theorem KR.eq {a b : W} {j k : Key} (ha : KR a j) (hb : KR b k) : eqK a b = decide (j = k) := by
  cases a with
  | int x =>
    unfold KR at ha; subst ha
    cases b with
    | int y => unfold KR at hb; subst hb; simp only [eqK]; by_cases h : x = y <;> simp [h]
    | str y => unfold KR at hb; subst hb; simp [eqK]
    | _ => unfold KR at hb; exact hb.elim
  | str x =>
    unfold KR at ha; subst ha
    cases b with
    | int y => unfold KR at hb; subst hb; simp [eqK]
    | str y => unfold KR at hb; subst hb; simp only [eqK]; by_cases h : x = y <;> simp [h]
    | _ => unfold KR at hb; exact hb.elim
  | _ => unfold KR at ha; exact ha.elim
theorem KVR.nil : KVR G r H [] [] := by unfold KVR; rfl
theorem KVR.cons {a w : W} {k : Key} {v : V} {xs : List (W × W)} {l : List (Key × V)} (h1 : KR a k) (h2 : VR G r H w v) (h3 : KVR G r H xs l) : KVR G r H ((a, w) :: xs) ((k, v) :: l) := by
  unfold KVR; exact ⟨k, v, l, rfl, h1, h2, h3⟩
theorem KVR.un {a w : W} {xs : List (W × W)} {l : List (Key × V)} (h : KVR G r H ((a, w) :: xs) l) : ∃ k v l', l = (k, v) :: l' ∧ KR a k ∧ VR G r H w v ∧ KVR G r H xs l' := by
  unfold KVR at h; exact h
theorem KVR.get {b : W} {j : Key} (hb : KR b j) : ∀ {xs : List (W × W)} {l : List (Key × V)}, KVR G r H xs l → VRO G r H (getK xs b) (valV l j) ∧ (getK xs b).isSome = (valV l j).isSome
  | [], l, h => by unfold KVR at h; subst h; exact ⟨True.intro, rfl⟩
  | (a, w) :: xs, l, h => by
    obtain ⟨k, v, l', rfl, h1, h2, h3⟩ := h.un
    have e := h1.eq hb
    by_cases hk : k = j
    · rw [valV_pos hk]
      simp only [getK, List.find?_cons, e, hk, decide_true, Option.map_some]
      exact ⟨⟨v, rfl, h2⟩, rfl⟩
    · rw [valV_neg hk]
      simp only [getK, List.find?_cons, e, hk, decide_false]
      exact h3.get hb
theorem KVR.any {b : W} {j : Key} (hb : KR b j) : ∀ {xs : List (W × W)} {l : List (Key × V)}, KVR G r H xs l → (xs.any fun p => eqK p.1 b) = l.any fun p => decide (p.1 = j)
  | [], l, h => by unfold KVR at h; subst h; rfl
  | (a, w) :: xs, l, h => by
    obtain ⟨k, v, l', rfl, h1, h2, h3⟩ := h.un
    rw [List.any_cons, List.any_cons, h3.any hb, h1.eq hb]
theorem KVR.append : ∀ {xs ys : List (W × W)} {l m : List (Key × V)}, KVR G r H xs l → KVR G r H ys m → KVR G r H (xs ++ ys) (l ++ m)
  | [], ys, l, m, h, h' => by unfold KVR at h; subst h; exact h'
  | (a, w) :: xs, ys, l, m, h, h' => by
    obtain ⟨k, v, l', rfl, h1, h2, h3⟩ := h.un
    exact .cons h1 h2 (h3.append h')
theorem KVR.repl {b u : W} {j : Key} {z : V} (hb : KR b j) (hu : VR G r H u z) : ∀ {xs : List (W × W)} {l : List (Key × V)}, KVR G r H xs l → KVR G r H (xs.map fun p => if eqK p.1 b = true then (p.1, u) else p) (l.map fun p => if p.1 = j then (p.1, z) else p)
  | [], l, h => by unfold KVR at h; subst h; exact .nil
  | (a, w) :: xs, l, h => by
    obtain ⟨k, v, l', rfl, h1, h2, h3⟩ := h.un
    have e := h1.eq hb
    rw [List.map_cons, List.map_cons]
    by_cases hk : k = j
    · simp only [e, hk, decide_true, if_true]
      exact .cons (hk ▸ h1) hu (h3.repl hb hu)
    · simp only [e, hk, decide_false, if_false, Bool.false_eq_true]
      exact .cons h1 h2 (h3.repl hb hu)
theorem KVR.put {b u : W} {j : Key} {z : V} (hb : KR b j) (hu : VR G r H u z) {xs : List (W × W)} {l : List (Key × V)} (h : KVR G r H xs l) : KVR G r H (putD xs b u) (putK l j z) := by
  unfold putD putK
  rw [h.any hb]
  split
  · exact h.repl hb hu
  · exact h.append (.cons hb hu .nil)
theorem KVR.merge : ∀ {ms xs : List (W × W)} {n l : List (Key × V)}, KVR G r H ms n → KVR G r H xs l → KVR G r H (mergeD xs ms) (mergeK l n)
  | [], xs, n, l, h, h' => by unfold KVR at h; subst h; exact h'
  | (a, w) :: ms, xs, n, l, h, h' => by
    obtain ⟨k, v, l', rfl, h1, h2, h3⟩ := h.un
    show KVR G r H (mergeD (putD xs a w) ms) (mergeK (putK l k v) l')
    exact KVR.merge h3 (h'.put h1 h2)
/-- pairs of values -/
def PRs (G : Gw) (r : List Addr) (H : Hp) : List (W × W) → List (V × V) → Prop
  | [], l => l = []
  | (a, b) :: t, l => ∃ x y l', l = (x, y) :: l' ∧ VR G r H a x ∧ VR G r H b y ∧ PRs G r H t l'
theorem PRs.kv : ∀ {xs : List (W × W)} {l : List (V × V)}, PRs G r H xs l → (xs.all fun p => keyW p.1) = true → ∃ kvs : List (Key × V), l = kvs.map (fun kv => (kV kv.1, kv.2)) ∧ KVR G r H xs kvs
  | [], l, h, _ => by unfold PRs at h; subst h; exact ⟨[], rfl, .nil⟩
  | (a, b) :: t, l, h, hk => by
    unfold PRs at h
    obtain ⟨x, y, l', rfl, h1, h2, h3⟩ := h
    rw [List.all_cons, Bool.and_eq_true] at hk
    obtain ⟨k, rfl, hkr⟩ := key_at hk.1 h1
    obtain ⟨kvs, rfl, q⟩ := h3.kv hk.2
    exact ⟨(k, y) :: kvs, rfl, .cons hkr h2 q⟩
end
section
variable {X : Cx} {W' : WX} {a b : EM}
theorem dgo_ok {G : Gw} {st : L2.St} : ∀ {prs : List (EM × EM)} {r : List Addr} {sl : Slots} {S : Store} {H : Hp} {Q : List (V × V) → Hp → Prop}, Abs G r S H → SR G r H sl st → Post G (PRs G) r H (dGo prs sl S) Q (wE W' st) → tPairs (prs.map fun p => (tE G W' p.1, tE G W' p.2)) st H Q
  | [], r, sl, S, H, Q, A, sr, p => Post.ok p A (by unfold PRs; rfl)
  | (k, v) :: prs, r, sl, S, H, Q, A, sr, p => by
    refine ⟨r, sl, S, A, sr, two_of sr p fun r1 x S1 u H1 x1 A1 s1 q1 p1 => ⟨r1, sl, S1, A1, s1, two_of s1 p1 fun r2 y S2 z H2 x2 A2 s2 q2 p2 => ?_⟩⟩
    refine dgo_ok A2 s2 (p2.bind.mono (fun ps H3 ⟨r3, qs, S3, x3, A3, q3, p3⟩ => ?_) idE)
    exact Post.ok p3 A3 (by unfold PRs; exact ⟨u, z, ps, rfl, q1.ext (x2.trans x3), q2.ext x3, q3⟩)
theorem me_disp {pos : Pos} {keys : List (Option Expr)} {values : List Expr} {prs : List (EM × EM)} (h : PPs X pos keys values (prs.map fun p => (tE (gw X) W' p.1, tE (gw X) W' p.2))) (hall : keys.all (·.isSome) = true) (hl : keys.length = values.length) (h0 : keys ≠ [])
    (h15 : keys.length ≤ 15) : PE X (.Dict keys values pos) (tE (gw X) W' (eDisp prs)) := by
  refine (pe_disp h hall hl h0 h15).impW fun st H Q ⟨r, sl, S, A, sr, p⟩ D hD => ?_
  have x0 : Ext (gw X) r H (r ++ [D]) (upd H D (.dK [])) := Ext.alloc hD
  have A0 : Abs (gw X) (r ++ [D]) (S ++ [.dic []]) (upd H D (.dK [])) := A.alloc hD ⟨[], upd_same, .nil⟩ rfl
  have hd : (r ++ [D])[S.length]? = some D := by rw [← A.len]; simp
  refine dgo_ok A0 (sr.ext x0) ((Post.ext x0 p).bind.mono (fun ps H1 ⟨r1, qs, S1, x1, A1, q1, p1⟩ => ?_) idE)
  have hd1 := x1.get hd
  dsimp only at p1
  split at p1
  · rename_i hs
    obtain ⟨l, e1, q2⟩ := A1.dic hs hd1
    have : l = [] := by unfold KVR at q2; exact q2
    subst this
    split at p1
    · rename_i hh
      obtain ⟨kvs, e2, q3⟩ := q1.kv hh.1
      obtain ⟨y1, A2⟩ := A1.putD (ys := mergeD [] qs) (us := mergeK [] kvs) hs hd1 (q3.merge .nil)
      refine ⟨e1, kvs, e2, by rw [← q3.length]; exact hh.2, p1 _ _ _ y1 A2 (.ref (y1.get hd1))⟩
    · exact p1.elim
  · exact p1.elim
theorem me_dic0 {pos : Pos} : PE X (.Dict [] [] pos) (tE (gw X) W' eDic0) := by
  refine pe_dnewK.impW fun st H Q ⟨r, sl, S, A, sr, p⟩ D hD => ?_
  exact p (r ++ [D]) _ _ (Ext.alloc hD) (A.alloc hD ⟨[], upd_same, .nil⟩ rfl) (.ref (by rw [← A.len]; simp))
end
end PD

namespace PD
open PySem PySem.Spec PyProof.Rows L2
/-! ## from the syntax to what it denotes -/
structure Dc where
  N : List Str
  sc : Scope
  g : Gam
  calm : Bool
  blk : Bool
def ixOf : List Str → Str → Option Nat
  | [], _ => none
  | y :: r, x => if x = y then some 0 else (ixOf r x).map (· + 1)
def noStar : Expr → Bool
  | .Starred _ _ => false
  | _ => true
def noSet : Expr → Bool
  | .Set _ _ _ => false
  | _ => true
def noSl : Expr → Bool
  | .Slice _ _ _ _ => false
  | _ => true
def noSup : Expr → Bool
  | .Call (.Name _ _) [] [] _ => false
  | _ => true
def plainT : Expr → Bool
  | .UnaryOp _ _ _ => false
  | .BoolOp _ _ _ => false
  | .IfExp _ _ _ _ => false
  | .Compare _ _ _ _ => false
  | _ => true
def isLc : Expr → Bool
  | .ListComp _ _ _ _ => true
  | .SetComp _ _ _ _ => true
  | .DictComp _ _ _ _ _ => true
  | _ => false
def Dc.gl (c : Dc) (x : Str) : Bool := decide (c.sc.names.lookup x = some .globalImplicit) && !(x == ("__debug__" : Str))
def denName (c : Dc) (x : Str) : EM := if (x == ("__debug__" : Str)) || (x == ("__classdict__" : Str)) then eBad else match c.sc.names.lookup x with
  | some .local => (match ixOf c.N x with
    | some i => eVar i
    | none => eBad)
  | some .cell => (match ixOf c.N x with
    | some i => eVar i
    | none => eBad)
  | some .free => (match ixOf c.N x with
    | some i => eVar i
    | none => eBad)
  | some .globalImplicit => (match c.g.tab.lookup x with
    | some (.con w) => eCon w
    | _ => eBad)
  | _ => eBad
def aBad : AM := fun _ _ => .bad
def denA (f : Expr → EM) : List Expr → AM
  | [] => aNil
  | e :: es => if noStar e then aCons (f e) (denA f es) else aBad
def denBE (f : Expr → EM) (op : BoolOp) : List Expr → EM
  | [] => eBad
  | [e] => f e
  | e :: es => match op with
    | .And => eAnd (f e) (denBE f op es)
    | .Or => eOr (f e) (denBE f op es)
def denBT (f : Expr → TM) (op : BoolOp) : List Expr → TM
  | [] => ttBad
  | [e] => f e
  | e :: es => match op with
    | .And => ttAnd (f e) (denBT f op es)
    | .Or => ttOr (f e) (denBT f op es)
def oBad : OM := fun _ _ => .bad
def denD (f : Expr → EM) : List (Option Expr) → List Expr → Option (List (EM × EM))
  | [], [] => some []
  | some k :: ks, v :: vs => (denD f ks vs).map fun t => (f k, f v) :: t
  | _, _ => none
def denO (f : Expr → EM) : Option Expr → OM
  | none => oNone
  | some e => oSome (f e)
def binOf : Operator → Option (W → W → Store → Out W)
  | .Add => some opAdd
  | .Sub => some opSub
  | .Mult => some opMul
  | .FloorDiv => some opFdiv
  | .Mod => some opMod
  | .Pow => some opPow
  | _ => none
def cmpOf : CmpOp → W → W → Store → Out W
  | .Eq => opEq
  | .NotEq => opNe
  | .Lt => opLt
  | .LtE => opLe
  | .Gt => opGt
  | .GtE => opGe
  | .In => opIn
  | .NotIn => opNotIn
  | .Is => opIs
  | .IsNot => opIsNot
inductive BN where
  | len | abs | int | ord | max | min | all | any | sum | tuple | list | str
def bnRun : BN → BF
  | .len => biLen | .abs => biAbs | .int => biInt | .ord => biOrd | .max => biMax | .min => biMin | .all => biAll | .any => biAny | .sum => biSum | .tuple => biTuple | .list => biList | .str => biStr
/-- a built-in function, or a type -/
def bnFn : BN → Option String
  | .len => some "len" | .abs => some "abs" | .ord => some "ord" | .max => some "max" | .min => some "min" | .all => some "all" | .any => some "any" | .sum => some "sum" | _ => none
def bnTy : BN → String
  | .int => "int" | .tuple => "tuple" | .list => "list" | .str => "str" | _ => ""
def bnCalm : BN → Bool
  | .max => true | .min => true | .all => true | .any => true | .sum => true | _ => false
def bnList : List (Str × BN) := [("len", .len), ("abs", .abs), ("int", .int), ("ord", .ord), ("max", .max), ("min", .min), ("all", .all), ("any", .any), ("sum", .sum), ("tuple", .tuple), ("list", .list), ("str", .str)]
def tyList : List (Str × String) := [("str", "str"), ("int", "int"), ("list", "list"), ("tuple", "tuple"), ("bool", "bool"), ("dict", "dict")]
def bmList : List (Str × BM) := [("append", .append), ("extend", .extend), ("pop", .pop), ("reverse", .reverse), ("clear", .clear), ("insert", .insert), ("join", .join)]
def bmT : BM → String
  | .join => "str"
  | _ => "list"
def Dc.stor (c : Dc) (x : Str) : Bool := match c.sc.names.lookup x with
  | some .local => true
  | some .cell => !c.blk
  | _ => false
def nmIx (c : Dc) : Expr → Option Nat
  | .Name x _ => if c.stor x then ixOf c.N x else none
  | _ => none
def nmIxs (c : Dc) : List Expr → Option (List Nat)
  | [] => some []
  | e :: es => (nmIx c e).bind fun i => (nmIxs c es).map fun is => i :: is
def denTg (c : Dc) : Expr → Option Tgt
  | .Tuple ts _ _ => if c.calm then (nmIxs c ts).map .tup else none
  | e => (nmIx c e).map .nm
def isTup : Expr → Bool
  | .Tuple _ _ _ => true
  | _ => false
def Dc.bl (c : Dc) (x : Str) : Bool := c.gl x && c.g.blt.contains x
def denI (f : Expr → EM) (c : Dc) (tg : Expr) : Expr → IM
  | .Call (.Name x p) [a] [] pos => if c.bl x && noStar a && (x == ("range" : Str)) then iRng1W (f a)
    else if c.bl x && noStar a && (x == ("enumerate" : Str)) && isTup tg then iEnumW (f a)
    else if c.bl x && noStar a && (x == ("reversed" : Str)) then iRevW (f a)
    else iAny (f (.Call (.Name x p) [a] [] pos))
  | .Call (.Name x p) [a, b] [] pos => if c.bl x && noStar a && noStar b && (x == ("range" : Str)) then iRng2W (f a) (f b)
    else if c.bl x && noStar a && noStar b && (x == ("zip" : Str)) && isTup tg then iZipW (f a) (f b)
    else iAny (f (.Call (.Name x p) [a, b] [] pos))
  | e => if noSet e then iAny (f e) else iBad
/-- the block of a comprehension -/
def Dc.inner (c : Dc) (scope : Scope) : Dc := { c with sc := relS scope c.sc, blk := true }
def ownOf (c : Dc) (scope : Scope) : List (Str × Nat) := scope.names.filterMap fun p => match p.2 with
  | .local => (ixOf c.N p.1).map fun i => (p.1, i)
  | .cell => (ixOf c.N p.1).map fun i => (p.1, i)
  | _ => none
noncomputable def stepE (f : Dc → Expr → EM) (h : Dc → Expr → TM) (c : Dc) : Expr → EM
  | .Name x _ => denName c x
  | .Constant .none _ _ => eCon .non
  | .Constant (.bool b) _ _ => eCon (.bl b)
  | .Constant (.int i) _ _ => eCon (.int i)
  | .Constant (.str s) _ _ => eCon (.str s.cps.toList)
  | .BinOp a op b _ => (match binOf op with
    | some op => eBin op (f c a) (f c b)
    | none => eBad)
  | .UnaryOp .USub a _ => eUn unNeg (f c a)
  | .UnaryOp .Not a _ => eNot (f c a)
  | .BoolOp op es _ => denBE (f c) op es
  | .Compare a [op] [b] _ => if noSet b then eBin (cmpOf op) (f c a) (f c b) else eBad
  | .Compare a [o1, o2] [b, d] _ => if noSet d then eChain (cmpOf o1) (cmpOf o2) (f c a) (f c b) (f c d) else eBad
  | .Tuple es _ _ => eTup (denA (f c) es)
  | .List es _ => eLst (denA (f c) es)
  | .Dict [] [] _ => eDic0
  | .Dict (k :: ks) vs _ => if ks.length < 15 then (match denD (f c) (k :: ks) vs with
    | some prs => eDisp prs
    | none => eBad) else eBad
  | .Subscript a (.Slice lo hi none _) _ => eSl (f c a) (denO (f c) lo) (denO (f c) hi)
  | .Subscript a i _ => if noSl i then eBin ixW (f c a) (f c i) else eBad
  | .Attribute o fn _ => if noSup o then eFldC (clsWith c.g fn) (f c o) fn else eBad
  | .Call (.Name x _) args [] _ => if c.gl x && args.all noStar then (match c.g.tab.lookup x with
      | some (.fn m) => if c.calm then (match m.fill args.length with
          | some ds => eCall m.run ds (denA (f c) args)
          | none => eBad) else eBad
      | some (.cls cm) => if c.calm then (match cm.init with
          | some m => (match m.fill (1 + args.length) with
            | some ds => eNew x m.run ds (denA (f c) args)
            | none => eBad)
          | none => eBad) else eBad
      | some _ => eBad
      | none => if c.g.blt.contains x then (if x == ("isinstance" : Str) then (match args with
            | [a, .Name tn _] => (match tyList.lookup tn with
              | some T => if c.bl tn then eIsi T (f c a) else eBad
              | none => eBad)
            | _ => eBad) else (match bnList.lookup x with
            | some b => (match args with
              | [] => eBad
              | e :: es => if c.calm || !bnCalm b then eCall (bnRun b) [] (denA (f c) (e :: es)) else eBad)
            | none => eBad)) else eBad) else eBad
  | .Call (.Attribute o m apos) args [] pos => if noSup o && args.all noStar && decide (args.length < 30) && (apos.endLine == pos.line) then (match bmList.lookup m with
      | some b => eMethB b (f c o) (denA (f c) args)
      | none => if c.calm then eMethU (methTab c.g m (1 + args.length)) m (f c o) (denA (f c) args) else eBad) else eBad
  | .ListComp elt [⟨tg, iter, ifs, 0⟩] scope _ => if c.calm && blkC c.N c.sc scope (ownOf c scope) && noSet iter then (match denTg (c.inner scope) tg with
      | some g => if g.own.all (fun i => ((ownOf c scope).map (·.2)).contains i) then (match ifs with
          | [] => eLc ((ownOf c scope).map (·.2)) (denI (f c) c tg iter) g ttYes (f (c.inner scope) elt)
          | [t] => eLc ((ownOf c scope).map (·.2)) (denI (f c) c tg iter) g (h (c.inner scope) t) (f (c.inner scope) elt)
          | _ => eBad) else eBad
      | none => eBad) else eBad
  | _ => eBad
noncomputable def stepT (f : Dc → Expr → EM) (h : Dc → Expr → TM) (c : Dc) : Expr → TM
  | .UnaryOp .Not a _ => ttNot (h c a)
  | .BoolOp op es _ => denBT (h c) op es
  | .Compare a [op] [b] _ => if noSet b then tB (eBin (cmpOf op) (f c a) (f c b)) else ttBad
  | .Compare a [o1, o2] [b, d] _ => if noSet d then tB (eChain (cmpOf o1) (cmpOf o2) (f c a) (f c b) (f c d)) else ttBad
  | e => if plainT e then tVal (f c e) else ttBad

noncomputable def denP : Nat → (Dc → Expr → EM) × (Dc → Expr → TM)
  | 0 => (fun _ _ => eBad, fun _ _ => ttBad)
  | n + 1 => (stepE (denP n).1 (denP n).2, stepT (denP n).1 (denP n).2)
noncomputable def denE (n : Nat) : Dc → Expr → EM := (denP n).1
noncomputable def denT (n : Nat) : Dc → Expr → TM := (denP n).2

/-! ## it is so -/
structure Fits (X : Cx) (c : Dc) (k : Nat) : Prop where
  N : X.N = c.N
  sc : X.env.scope = c.sc
  nd : X.N.Nodup
  calm : c.calm = true → X.calm = true ∧ Room k X.A
  un : X.A.units + 64 < cLine
  fn : c.blk = false → ∀ x, X.fn x = true
  gk : GOk X.prog X.w X.K X.mg X.base k c.g
theorem ixOf_get : ∀ {N : List Str} {x : Str} {i : Nat}, ixOf N x = some i → N[i]? = some x
  | [], _, _, h => by cases h
  | y :: r, x, i, h => by
    simp only [ixOf] at h
    split at h
    · rename_i e
      cases h
      subst e
      rfl
    · obtain ⟨j, h1, rfl⟩ := Option.map_eq_some_iff.mp h
      simpa using ixOf_get h1
section
variable {X : Cx} {c : Dc} {k : Nat} {W' : WX}
theorem star_ok {e : Expr} {es : List Expr} {env : Env} (h : noStar e = true) : starEach (e :: es) env = (false, eval e env) :: starEach es env := by
  cases e <;> first | rfl | cases h
theorem stars_ok {env : Env} {pos : Pos} : ∀ {es : List Expr}, es.all noStar = true → (backTo pos (starEach es env)).any (·.1) = false ∧ (backTo pos (starEach es env)).all (fun x => !x.1) = true
  | [], _ => ⟨rfl, rfl⟩
  | e :: es, h => by
    rw [List.all_cons, Bool.and_eq_true] at h
    obtain ⟨h1, h2⟩ := stars_ok (pos := pos) (env := env) h.2
    rw [star_ok h.1]
    refine ⟨?_, ?_⟩
    · show (false || (backTo pos (starEach es env)).any (·.1)) = false
      rw [h1]; rfl
    · show (!false && (backTo pos (starEach es env)).all (fun x => !x.1)) = true
      rw [h2]; rfl
theorem few_ok {env : Env} {pos : Pos} {es : List Expr} (h : es.all noStar = true) (hl : es.length < 30) : methodCallForm (es.length + ([] : List Keyword).length) (backTo pos (starEach es env)) (backToKw pos (keywordEach [] env)) = true := by
  unfold methodCallForm
  rw [(stars_ok h).2]
  show (true && true && decide (es.length + 0 + 0 < 30)) = true
  simp [hl]
theorem sup_ok {o : Expr} {m : Str} {env : Env} (h : noSup o = true) : attributeBase o m env (eval o env) = eval o env := by
  cases o with
  | Call f args kws pos =>
    cases f with
    | Name id p =>
      cases args with
      | nil =>
        cases kws with
        | nil => cases h
        | cons _ _ => rfl
      | cons _ _ => rfl
    | _ => rfl
  | _ => rfl
theorem sl_ok {i : Expr} (h : noSl i = true) : PlainIx i := fun o v => by
  cases i <;> first | rfl | cases h
theorem set_ok {op : CmpOp} {e : Expr} (h : noSet e = true) : behindInMarks op e = false := by
  cases e <;> first | rfl | cases h
theorem set_ok2 {o1 o2 : CmpOp} {b e : Expr} (h : noSet e = true) : lastMarks [o1, o2] [b, e] = false := by
  show behindInMarks o2 e = false
  exact set_ok h
theorem fold_ok {e : Expr} {env : Env} (h : noSet e = true) : ∀ x, foldedSetIterable e env x = pure x := fun x => by
  cases e <;> first | rfl | cases h
theorem plain_ok {e : Expr} {env : Env} (h : plainT e = true) : ∀ whole, isTrue e env whole = (do let v ← whole; standAt e.pos; holding [v] (truthy v)) := fun whole => by
  cases e <;> first | rfl | cases h
theorem gl_of (F : Fits X c k) {x : Str} (h : c.gl x = true) : Gl X x ∧ (x == ("__debug__" : Str)) = false := by
  unfold Dc.gl at h
  rw [Bool.and_eq_true] at h
  refine ⟨?_, by simpa using h.2⟩
  show X.env.scope.names.lookup x = some .globalImplicit
  rw [F.sc]
  exact of_decide_eq_true h.1
theorem bl_of (F : Fits X c k) {x : Str} (h : c.bl x = true) : Gl X x ∧ (x == ("__debug__" : Str)) = false ∧ X.mg x = none := by
  unfold Dc.bl at h
  rw [Bool.and_eq_true] at h
  obtain ⟨h1, h2⟩ := gl_of F h.1
  exact ⟨h1, h2, F.gk.blt x (by simpa using h.2)⟩
theorem name_ok (F : Fits X c k) {x : Str} {pos : Pos} : PE X (.Name x pos) (tE (gw X) W' (denName c x)) := by
  unfold denName
  split
  · exact PE.noW fun _ _ _ => tE_bad
  · rename_i hd
    rw [Bool.or_eq_true, not_or] at hd
    have h1 : (x == ("__debug__" : Str)) = false := by simpa using hd.1
    have h2 : (x == ("__classdict__" : Str)) = false := by simpa using hd.2
    split
    · rename_i hk
      split
      · rename_i i hi
        exact me_var (by rw [F.N]; exact ixOf_get hi) (.inl (by rw [F.sc]; exact hk)) h1 h2
      · exact PE.noW fun _ _ _ => tE_bad
    · rename_i hk
      split
      · rename_i i hi
        exact me_var (by rw [F.N]; exact ixOf_get hi) (.inr (.inl (by rw [F.sc]; exact hk))) h1 h2
      · exact PE.noW fun _ _ _ => tE_bad
    · rename_i hk
      split
      · rename_i i hi
        exact me_var (by rw [F.N]; exact ixOf_get hi) (.inr (.inr (by rw [F.sc]; exact hk))) h1 h2
      · exact PE.noW fun _ _ _ => tE_bad
    · rename_i hk
      split
      · rename_i w hw
        obtain ⟨u, v, e1, e2, e3⟩ := F.gk.con x w (mem_of_lk hw)
        exact me_glob (by show X.env.scope.names.lookup x = _; rw [F.sc]; exact hk) e1 e2 e3 h1
      · exact PE.noW fun _ _ _ => tE_bad
    · exact PE.noW fun _ _ _ => tE_bad
theorem aBad_no {G : Gw} {st : L2.St} {H : Hp} {Q} : ¬ tA G W' aBad st H Q := fun ⟨_, _, _, _, _, p⟩ => p
theorem ttBad_no {G : Gw} {st : L2.St} {H : Hp} {Q} : ¬ tT G W' ttBad st H Q := fun ⟨_, _, _, _, _, p⟩ => p
theorem denA_ok {f : Expr → EM} (hf : ∀ e, PE X e (tE (gw X) W' (f e))) : ∀ es : List Expr, PA X es (tA (gw X) W' (denA f es))
  | [] => ma_nil
  | e :: es => by
    unfold denA
    split
    · rename_i h
      exact ma_cons (hf e) (denA_ok hf es) (star_ok h)
    · exact PA.noW fun _ _ _ => aBad_no
theorem denA_len {f : Expr → EM} : ∀ {es : List Expr} {sl S xs S'}, denA f es sl S = .ok xs S' → xs.length = es.length
  | [], sl, S, xs, S', h => by
    unfold denA aNil at h
    cases h
    rfl
  | e :: es, sl, S, xs, S', h => by
    unfold denA at h
    split at h
    · unfold aCons at h
      cases e1 : f e sl S with
      | ok x S1 =>
        rw [e1] at h
        simp only [bind_ok] at h
        cases e2 : denA f es sl S1 with
        | ok ys S2 =>
          rw [e2] at h
          simp only [bind_ok] at h
          cases h
          simp [denA_len e2]
        | exc _ _ => rw [e2] at h; cases h
        | bad => rw [e2] at h; cases h
      | exc _ _ => rw [e1] at h; cases h
      | bad => rw [e1] at h; cases h
    · cases h
theorem denBE_ok {f : Expr → EM} (hf : ∀ e, PE X e (tE (gw X) W' (f e))) (op : BoolOp) (pos : Pos) : ∀ es : List Expr, PE X (.BoolOp op es pos) (tE (gw X) W' (denBE f op es))
  | [] => PE.noW fun _ _ _ => tE_bad
  | [e] => pe_one (hf e)
  | e :: e2 :: es => by
    have ih := denBE_ok hf op pos (e2 :: es)
    cases op with
    | And => exact me_and (hf e) ih
    | Or => exact me_or (hf e) ih
theorem denBT_ok {f : Expr → TM} (hf : ∀ e, PT X e (tT (gw X) W' (f e))) (op : BoolOp) (pos : Pos) : ∀ es : List Expr, PW X (.BoolOp op es pos) (tT (gw X) W' (denBT f op es))
  | [] => PW.noW fun _ _ _ => ttBad_no
  | [e] => by
    cases op with
    | And => exact pw_and1 (hf e)
    | Or => exact pw_or1 (hf e)
  | e :: e2 :: es => by
    have ih := denBT_ok hf op pos (e2 :: es)
    cases op with
    | And => exact mw_and (hf e) ih
    | Or => exact mw_or (hf e) ih
theorem denO_ok {f : Expr → EM} (hf : ∀ e, PE X e (tE (gw X) W' (f e))) : ∀ o : Option Expr, PO X o (tO (gw X) W' (denO f o))
  | none => mo_none
  | some e => mo_some (hf e)
theorem bin_ok {op : Operator} {f : W → W → Store → Out W} (h : binOf op = some f) : OpS X (binaryOp op) f := by
  cases op <;> simp only [binOf] at h <;> first
    | (cases h; exact ops_add)
    | (cases h; exact ops_sub)
    | (cases h; exact ops_mul)
    | (cases h; exact ops_fdiv)
    | (cases h; exact ops_mod)
    | (cases h; exact ops_pow)
    | cases h
theorem cmp_ok (hu : X.A.units + 64 < cLine) (op : CmpOp) : OpS X (compareOp op) (cmpOf op) := by
  cases op with
  | Eq => exact ops_eq hu
  | NotEq => exact ops_ne hu
  | Lt => exact ops_lt
  | LtE => exact ops_le
  | Gt => exact ops_gt
  | GtE => exact ops_ge
  | Is => exact ops_is
  | IsNot => exact ops_isnot
  | In => exact ops_in
  | NotIn => exact ops_notin
theorem bn_fn {b : BN} {id : String} (hc : bnCalm b = true → X.calm = true) (h : bnFn b = some id) : CallS X (.builtin id) (bnRun b) := by
  cases b <;> simp only [bnFn] at h <;> first
    | (cases h; exact cs_len)
    | (cases h; exact cs_abs)
    | (cases h; exact cs_ord)
    | (cases h; exact cs_max (hc rfl))
    | (cases h; exact cs_min (hc rfl))
    | (cases h; exact cs_all (hc rfl))
    | (cases h; exact cs_any (hc rfl))
    | (cases h; exact cs_sum (hc rfl))
    | cases h
theorem bn_ty {b : BN} (h : bnFn b = none) : CallS X (.type (bnTy b)) (bnRun b) := by
  cases b <;> simp only [bnFn] at h <;> first
    | exact cs_int
    | exact cs_tuple
    | exact cs_list
    | exact cs_str
    | cases h
theorem bn_boot : ∀ p ∈ bnList, p.1 ≠ ("__name__" : Str) ∧ (∀ id, bnFn p.2 = some id → bootBuiltins p.1 = some (.builtin id)) ∧ (bnFn p.2 = none → bootBuiltins p.1 = some (.type (bnTy p.2))) := by
  intro p hp
  simp only [bnList, List.mem_cons, List.not_mem_nil, or_false] at hp
  rcases hp with rfl | rfl | rfl | rfl | rfl | rfl | rfl | rfl | rfl | rfl | rfl | rfl
  all_goals refine ⟨by decide +kernel, ?_, ?_⟩
  all_goals intro h
  all_goals try intro h'
  all_goals first
    | (have z := Option.some.inj h'; subst z; decide +kernel)
    | cases h'
    | decide +kernel
    | cases h
theorem ty_boot : ∀ p ∈ tyList, p.1 ≠ ("__name__" : Str) ∧ bootBuiltins p.1 = some (.type p.2) := by
  intro p hp
  simp only [tyList, List.mem_cons, List.not_mem_nil, or_false] at hp
  rcases hp with rfl | rfl | rfl | rfl | rfl | rfl <;> exact ⟨by decide +kernel, by decide +kernel⟩
theorem bm_ok : ∀ p ∈ bmList, BmOk p.2 p.1 (bmT p.2) := by
  intro p hp
  simp only [bmList, List.mem_cons, List.not_mem_nil, or_false] at hp
  have only : ∀ (b : BM) w S T', bmTy b w S = some T' → T' = bmT b := fun b w S T' h => by
    unfold bmTy at h
    split at h
    · cases h; rfl
    · cases h
    · split at h
      · cases h
        cases b <;> first | rfl | (exfalso; rename_i hh _ ; exact hh _ _ rfl) | simp_all
      · cases h
    · cases h
  rcases hp with rfl | rfl | rfl | rfl | rfl | rfl | rfl
  · exact ⟨PySem.F.plainAttrs_list, PySem.F.slot_list_append, PySem.F.type_list_append, only _⟩
  · exact ⟨PySem.F.plainAttrs_list, PySem.F.slot_list_extend, PySem.F.type_list_extend, only _⟩
  · exact ⟨PySem.F.plainAttrs_list, PySem.F.slot_list_pop, PySem.F.type_list_pop, only _⟩
  · exact ⟨PySem.F.plainAttrs_list, PySem.F.slot_list_reverse, PySem.F.type_list_reverse, only _⟩
  · exact ⟨PySem.F.plainAttrs_list, PySem.F.slot_list_clear, PySem.F.type_list_clear, only _⟩
  · exact ⟨PySem.F.plainAttrs_list, PySem.F.slot_list_insert, PySem.F.type_list_insert, only _⟩
  · exact ⟨PySem.F.plainAttrs_str, PySem.F.slot_str_join, PySem.F.type_str_join, only _⟩
theorem nmIx_ok (F : Fits X c k) {e : Expr} {i : Nat} (h : nmIx c e = some i) : PG X e (gName i) := by
  cases e with
  | Name x pos =>
    simp only [nmIx] at h
    split at h
    · rename_i hs
      unfold Dc.stor at hs
      split at hs
      · rename_i hk
        refine pg_name F.nd (by rw [F.N]; exact ixOf_get h) (.inl (by rw [F.sc]; exact hk)) (.inr (by rw [F.sc]; exact hk))
      · rename_i hk
        exact pg_name F.nd (by rw [F.N]; exact ixOf_get h) (.inr (by rw [F.sc]; exact hk)) (.inl (F.fn (by simpa using hs) x))
      · cases hs
    · cases h
  | _ => cases h
theorem nmIxs_ok (F : Fits X c k) : ∀ {es : List Expr} {is : List Nat}, nmIxs c es = some is → PGs X es (tgsOf is) ∧ (assignEach es X.env).length = is.length ∧ (assignEach es X.env).findIdx? (·.1) = none
  | [], is, h => by
    cases h
    exact ⟨pgs_nil, rfl, rfl⟩
  | e :: es, is, h => by
    simp only [nmIxs] at h
    obtain ⟨i, h1, h2⟩ := Option.bind_eq_some_iff.mp h
    obtain ⟨js, h3, rfl⟩ := Option.map_eq_some_iff.mp h2
    obtain ⟨g1, g2, g3⟩ := nmIxs_ok F h3
    have ge := nmIx_ok F h1
    cases e with
    | Name x pos =>
      refine ⟨pgs_cons ge g1 rfl, ?_, ?_⟩
      · show (assignEach es X.env).length + 1 = _
        rw [g2]; rfl
      · show List.findIdx? (·.1) ((false, assign (.Name x pos) X.env) :: assignEach es X.env) = none
        rw [List.findIdx?_cons]
        simp [g3]
    | _ => cases h1
theorem denTg_ok (F : Fits X c k) {e : Expr} {g : Tgt} (h : denTg c e = some g) : PG X e (g.raw X.K) := by
  unfold denTg at h
  split at h
  · split at h
    · rename_i hc
      obtain ⟨is, h1, rfl⟩ := Option.map_eq_some_iff.mp h
      obtain ⟨g1, g2, g3⟩ := nmIxs_ok F h1
      exact pg_tup (F.calm hc).1 g1 g2 g3
    · cases h
  · obtain ⟨i, h1, rfl⟩ := Option.map_eq_some_iff.mp h
    exact nmIx_ok F h1
theorem iBad_no {G : Gw} {st : L2.St} {H : Hp} {R} : ¬ tI G W' iBad st H R := fun ⟨_, _, _, _, _, p⟩ => p
theorem denI_ok (F : Fits X c k) {f : Expr → EM} (hf : ∀ e, PE X e (tE (gw X) W' (f e))) (tg e : Expr) : PI X tg e (tI (gw X) W' (denI f c tg e)) := by
  unfold denI
  split
  · rename_i x p a pos
    split
    · rename_i h
      simp only [Bool.and_eq_true] at h
      obtain ⟨g1, g2, g3⟩ := bl_of F h.1.1
      have ex := eq_of_beq h.2
      subst ex
      exact mi_rng1 g1 g3 (hf a) (star_ok h.1.2)
    · split
      · rename_i h
        simp only [Bool.and_eq_true] at h
        obtain ⟨g1, g2, g3⟩ := bl_of F h.1.1.1
        have ex := eq_of_beq h.1.2
        subst ex
        cases tg with
        | Tuple es kk tpos => exact mi_enum g1 g3 (hf a) (star_ok h.1.1.2)
        | _ => exact absurd h.2 Bool.false_ne_true
      · split
        · rename_i h
          simp only [Bool.and_eq_true] at h
          obtain ⟨g1, g2, g3⟩ := bl_of F h.1.1
          have ex := eq_of_beq h.2
          subst ex
          exact mi_rev g1 g3 (hf a) (star_ok h.1.2)
        · exact mi_any (hf _)
  · rename_i x p a b pos
    split
    · rename_i h
      simp only [Bool.and_eq_true] at h
      obtain ⟨g1, g2, g3⟩ := bl_of F h.1.1.1
      have ex := eq_of_beq h.2
      subst ex
      exact mi_rng2 g1 g3 (hf a) (hf b) (star_ok h.1.1.2) (star_ok h.1.2)
    · split
      · rename_i h
        simp only [Bool.and_eq_true] at h
        obtain ⟨g1, g2, g3⟩ := bl_of F h.1.1.1.1
        have ex := eq_of_beq h.1.2
        subst ex
        cases tg with
        | Tuple es kk tpos => exact mi_zip g1 g3 (hf a) (hf b) (star_ok h.1.1.1.2) (star_ok h.1.1.2)
        | _ => exact absurd h.2 Bool.false_ne_true
      · exact mi_any (hf _)
  · split
    · exact mi_any (hf _)
    · exact ⟨fun pins s st H R I h => (iBad_no h).elim⟩
end
end PD

namespace PD
open PySem PySem.Spec PyProof.Rows L2
theorem bad_ok {X : Cx} {W' : WX} {e : Expr} : PE X e (tE (gw X) W' eBad) := PE.noW fun _ _ _ => tE_bad
theorem tbad_ok {X : Cx} {W' : WX} {e : Expr} : PT X e (tT (gw X) W' ttBad) := PT.noW fun _ _ _ => ttBad_no
theorem Fits.inner {X : Cx} {c : Dc} {k : Nat} (F : Fits X c k) (scope : Scope) (s : Shared) (H : Hp) (C : Addr) (cl : List (Str × Addr)) (fp : List Addr) : Fits (X.blk s H scope (compEnvC scope cl C X.env) fp) (c.inner scope) k := by
  refine ⟨F.N, ?_, F.nd, F.calm, F.un, fun h => ?_, F.gk⟩
  · show relS scope X.env.scope = relS scope c.sc
    rw [F.sc]
  · cases h
theorem takes_blk {X : Cx} {scope : Scope} {s : Shared} {H : Hp} {C : Addr} {cl : List (Str × Addr)} {fp : List Addr} : Takes (X.blk s H scope (compEnvC scope cl C X.env) fp) WF := fun u s' ⟨_, _, _, _, _, _, _, _, _, _, _, _, _, _, _, _, z⟩ => z.elim
theorem tyes_ok {X : Cx} {W' : WX} : PTs X [] (tT (gw X) W' ttYes) := ⟨fun pins s st H Q I ⟨r, sl, S, A, sr, p⟩ => pts_nil.run pins s st H Q I (Post.ok p A rfl)⟩
theorem own_of {c : Dc} {scope : Scope} {g : Tgt} (h : g.own.all (fun i => ((ownOf c scope).map (·.2)).contains i) = true) : ∀ i ∈ g.own, i ∈ (ownOf c scope).map (·.2) := fun i hi => by
  have z := List.all_eq_true.mp h i hi
  simpa using z
theorem lc_ok {X : Cx} {c : Dc} {k : Nat} {W' : WX} {elt tg iter : Expr} {ifs : List Expr} {scope : Scope} {pos : Pos} {src : IM} {g : Tgt} {t : TM} {e : EM} (F : Fits X c k) (hc : X.calm = true) (hi : PI X tg iter (tI (gw X) W' src)) (hb : blkC c.N c.sc scope (ownOf c scope) = true)
    (hg : denTg (c.inner scope) tg = some g) (ho : ∀ i ∈ g.own, i ∈ (ownOf c scope).map (·.2)) (ht : ∀ (s : Shared) (H : Hp) (C : Addr) (cl : List (Str × Addr)) (fp : List Addr), PTs (X.blk s H scope (compEnvC scope cl C X.env) fp) ifs (tT (gw X) WF t))
    (he : ∀ (s : Shared) (H : Hp) (C : Addr) (cl : List (Str × Addr)) (fp : List Addr), PE (X.blk s H scope (compEnvC scope cl C X.env) fp) elt (tE (gw X) WF e)) (hs : noSet iter = true) :
    PE X (.ListComp elt [⟨tg, iter, ifs, 0⟩] scope pos) (tE (gw X) W' (eLc ((ownOf c scope).map (·.2)) src g t e)) :=
  (pe_lc hc F.nd hi (blkOk_by (by rw [F.N, F.sc]; exact hb)) (fun s H C cl fp => denTg_ok (F.inner scope s H C cl fp) hg) ht he (fold_ok hs)).impW fun st H Q h => lc_sound ho h
theorem call_ok {X : Cx} {c : Dc} {k : Nat} {W' : WX} {f : Dc → Expr → EM} {h : Dc → Expr → TM} (F : Fits X c k) (tk : Takes X W') (ih : ∀ e, PE X e (tE (gw X) W' (f c e))) (x : Str) (p pos : Pos) (args : List Expr) : PE X (.Call (.Name x p) args [] pos) (tE (gw X) W' (stepE f h c (.Call (.Name x p) args [] pos))) := by
  simp only [stepE]
  split
  · rename_i h
    rw [Bool.and_eq_true] at h
    obtain ⟨g1, g2⟩ := gl_of F h.1
    have hst := h.2
    split
    · rename_i m hm
      split
      · rename_i hc
        split
        · rename_i ds hd
          obtain ⟨f, e1, e2⟩ := F.gk.fn x m (mem_of_lk hm)
          cases args with
          | nil => exact me_call0 e2 (F.calm hc).2 tk g1 e1 hd g2
          | cons a as =>
            have h1 := hst
            rw [List.all_cons, Bool.and_eq_true] at h1
            exact me_call e2 (F.calm hc).2 tk g1 e1 hd (denA_ok ih _) (fun _ _ _ _ => denA_len) g2 (star_ok h1.1) (stars_ok h1.2).1
        · exact bad_ok
      · exact bad_ok
    · rename_i cm hm
      split
      · rename_i hc
        split
        · rename_i m hi
          split
          · rename_i ds hd
            obtain ⟨C, e1, _, _, _, e2⟩ := F.gk.cls x cm (mem_of_lk hm)
            obtain ⟨f, j, e3, e4, e5⟩ := e2 m hi
            have hr := (F.calm hc).2.mono e5
            cases args with
            | nil => exact me_new0 e3 e4 hr tk g1 e1 hd g2
            | cons a as =>
              have h1 := hst
              rw [List.all_cons, Bool.and_eq_true] at h1
              exact me_new e3 e4 hr tk g1 e1 hd (denA_ok ih _) (fun _ _ _ _ => denA_len) g2 (star_ok h1.1) (stars_ok h1.2).1
          · exact bad_ok
        · exact bad_ok
      · exact bad_ok
    · exact bad_ok
    · split
      · rename_i hb
        have hm := F.gk.blt x (by simpa using hb)
        split
        · rename_i hx
          have ex := eq_of_beq hx
          subst ex
          split
          · rename_i a tn p1
            split
            · rename_i T hT
              split
              · rename_i hbl
                obtain ⟨g3, g4, g5⟩ := bl_of F hbl
                obtain ⟨b1, b2⟩ := ty_boot _ (mem_of_lk hT)
                rw [List.all_cons, Bool.and_eq_true] at hst
                exact me_isi (ih a) g1 hm g3 g5 b2 b1 g4 (star_ok hst.1)
              · exact bad_ok
            · exact bad_ok
          · exact bad_ok
        · split
          · rename_i b hbn
            obtain ⟨b1, b2, b3⟩ := bn_boot _ (mem_of_lk hbn)
            split
            · exact bad_ok
            · rename_i e es
              have h1 := hst
              rw [List.all_cons, Bool.and_eq_true] at h1
              split
              · rename_i hcc
                have hcalm : bnCalm b = true → X.calm = true := fun z => by
                  rw [z] at hcc
                  simp at hcc
                  exact (F.calm hcc).1
                cases hfn : bnFn b with
                | some id => exact me_callB (bn_fn hcalm hfn) g1 hm (b2 id hfn) (denA_ok ih _) b1 g2 (star_ok h1.1) (stars_ok h1.2).1
                | none => exact me_callTy (bn_ty hfn) g1 hm (b3 hfn) (denA_ok ih _) b1 g2 (star_ok h1.1) (stars_ok h1.2).1
              · exact bad_ok
          · exact bad_ok
      · exact bad_ok
  · exact bad_ok
theorem meth_ok {X : Cx} {c : Dc} {k : Nat} {W' : WX} {f : Dc → Expr → EM} {h : Dc → Expr → TM} (F : Fits X c k) (tk : Takes X W') (ih : ∀ e, PE X e (tE (gw X) W' (f c e))) (o : Expr) (m : Str) (apos pos : Pos) (args : List Expr) :
    PE X (.Call (.Attribute o m apos) args [] pos) (tE (gw X) W' (stepE f h c (.Call (.Attribute o m apos) args [] pos))) := by
  simp only [stepE]
  split
  · rename_i h
    simp only [Bool.and_eq_true, decide_eq_true_eq] at h
    obtain ⟨⟨⟨h1, h2⟩, h3⟩, h4⟩ := h
    split
    · rename_i b hb
      have bk := bm_ok _ (mem_of_lk hb)
      cases args with
      | nil => exact me_methB0 bk (ih o) (sup_ok h1) h4
      | cons a as =>
        have h5 := h2
        rw [List.all_cons, Bool.and_eq_true] at h5
        exact me_methB bk (ih o) (denA_ok ih _) (sup_ok h1) (few_ok h2 h3) h4 (star_ok h5.1) (stars_ok h5.2).1
    · split
      · rename_i hc
        cases args with
        | nil => exact me_methU0 F.gk (F.calm hc).2 tk (ih o) (sup_ok h1) h4
        | cons a as =>
          have h5 := h2
          rw [List.all_cons, Bool.and_eq_true] at h5
          exact me_methU F.gk (F.calm hc).2 tk (ih o) (denA_ok ih _) (fun _ _ _ _ => denA_len) (sup_ok h1) (few_ok h2 h3) h4 (star_ok h5.1) (stars_ok h5.2).1
      · exact bad_ok
  · exact bad_ok
theorem denD_ok {X : Cx} {W' : WX} {f : Expr → EM} {pos : Pos} (ih : ∀ e, PE X e (tE (gw X) W' (f e))) : ∀ {ks : List (Option Expr)} {vs : List Expr} {prs : List (EM × EM)}, denD f ks vs = some prs →
    PPs X pos ks vs (prs.map fun p => (tE (gw X) W' p.1, tE (gw X) W' p.2)) ∧ ks.all (·.isSome) = true ∧ ks.length = vs.length
  | [], [], _, h => by cases h; exact ⟨pps_nil, rfl, rfl⟩
  | [], _ :: _, _, h => by cases h
  | none :: _, [], _, h => by cases h
  | none :: _, _ :: _, _, h => by cases h
  | some _ :: _, [], _, h => by cases h
  | some k :: ks, v :: vs, _, h => by
    obtain ⟨t, h1, rfl⟩ := Option.map_eq_some_iff.mp h
    obtain ⟨g1, g2, g3⟩ := denD_ok ih h1
    exact ⟨pps_cons (ih k) (ih v) g1, by rw [List.all_cons, g2]; rfl, by rw [List.length_cons, List.length_cons, g3]⟩
theorem den_ok : ∀ n, (∀ (X : Cx) (c : Dc) (k : Nat) (W' : WX) (e : Expr), Fits X c k → Takes X W' → PE X e (tE (gw X) W' (denE n c e))) ∧
    (∀ (X : Cx) (c : Dc) (k : Nat) (W' : WX) (e : Expr), Fits X c k → Takes X W' → PT X e (tT (gw X) W' (denT n c e)))
  | 0 => ⟨fun X c k W' e _ _ => bad_ok, fun X c k W' e _ _ => tbad_ok⟩
  | n + 1 => by
    obtain ⟨ihE, ihT⟩ := den_ok n
    refine ⟨fun X c k W' e F tk => ?_, fun X c k W' e F tk => ?_⟩
    · have ih := fun e => ihE X c k W' e F tk
      show PE X e (tE (gw X) W' (stepE (denE n) (denT n) c e))
      unfold stepE
      split
      · exact name_ok F
      · exact me_non
      · exact me_bl
      · exact me_int
      · exact me_str
      · split
        · rename_i f hf
          exact me_bin (bin_ok hf) (ih _) (ih _)
        · exact bad_ok
      · exact me_neg (ih _)
      · exact me_not (ih _)
      · exact denBE_ok ih _ _ _
      · split
        · rename_i hs
          exact me_cmp (cmp_ok F.un _) (ih _) (ih _) (set_ok hs)
        · exact bad_ok
      · split
        · rename_i hs
          exact me_chain (cmp_ok F.un _) (cmp_ok F.un _) (ih _) (ih _) (ih _) (set_ok2 hs)
        · exact bad_ok
      · exact me_tup (denA_ok ih _)
      · exact me_lst (denA_ok ih _)
      · exact me_dic0
      · split
        · rename_i hl
          split
          · rename_i prs hp
            obtain ⟨g1, g2, g3⟩ := denD_ok ih hp
            exact me_disp g1 g2 g3 (by simp) (by rw [List.length_cons]; omega)
          · exact bad_ok
        · exact bad_ok
      · exact me_sl (ih _) (denO_ok ih _) (denO_ok ih _)
      · split
        · rename_i hs
          exact me_ix (ih _) (ih _) (sl_ok hs)
        · exact bad_ok
      · split
        · rename_i hs
          exact me_fld F.gk (ih _) (sup_ok hs)
        · exact bad_ok
      · exact call_ok (h := denT n) F tk ih _ _ _ _
      · exact meth_ok (h := denT n) F tk ih _ _ _ _ _
      · split
        · rename_i h
          simp only [Bool.and_eq_true] at h
          obtain ⟨⟨h1, h2⟩, h3⟩ := h
          split
          · rename_i g hg
            split
            · rename_i ho
              split
              · exact lc_ok F (F.calm h1).1 (denI_ok F ih _ _) h2 hg (own_of ho) (fun s H C cl fp => tyes_ok) (fun s H C cl fp => ihE _ _ _ _ _ (F.inner _ s H C cl fp) takes_blk) h3
              · exact lc_ok F (F.calm h1).1 (denI_ok F ih _ _) h2 hg (own_of ho) (fun s H C cl fp => pts_one (ihT _ _ _ _ _ (F.inner _ s H C cl fp) takes_blk)) (fun s H C cl fp => ihE _ _ _ _ _ (F.inner _ s H C cl fp) takes_blk) h3
              · exact bad_ok
            · exact bad_ok
          · exact bad_ok
        · exact bad_ok
      · exact bad_ok
    · have ih := fun e => ihE X c k W' e F tk
      have iht := fun e => ihT X c k W' e F tk
      show PT X e (tT (gw X) W' (stepT (denE n) (denT n) c e))
      unfold stepT
      split
      · exact mt_not (iht _)
      · exact (denBT_ok iht _ _ _).pt
      · split
        · rename_i hs
          exact mt_cmp (cmp_ok F.un _) (ih _) (ih _) (set_ok hs)
        · exact tbad_ok
      · split
        · rename_i hs
          exact mt_chain (cmp_ok F.un _) (cmp_ok F.un _) (ih _) (ih _) (ih _) (set_ok2 hs)
        · exact tbad_ok
      · split
        · rename_i hs
          exact mt_val (ih _) (plain_ok hs)
        · exact tbad_ok
end PD

namespace PD
open PySem PySem.Spec PyProof.Rows L2
/-! ## statements: from the syntax -/
def isTupE : Expr → Bool
  | .Tuple _ _ _ => true
  | _ => false
/-- a pair stored at once -/
def parOk (c : Dc) (x y : Str) (px py : Pos) (ea eb : Expr) : Bool :=
  decide (c.sc.names.lookup x = some .local) && decide (c.sc.names.lookup y = some .local) && (px.line == py.line) && !(x == y) && noStar ea && noStar eb && decide (c.sc.kind = .function) && !(foldedForSure 8 ea && foldedForSure 8 eb) && !(constantsAlone 8 ea && constantsAlone 8 eb)
def setLcOk (c : Dc) (x : Str) (p : Pos) : Expr → Bool
  | .ListComp _ _ scope pos => decide (c.sc.kind = .function) && decide (c.sc.names.lookup x = some .local) && (p.line == pos.line) && !(scope.names.any fun q => q.1 == x && (q.2 == .local || q.2 == .cell))
  | _ => false
noncomputable def stepS (f : Expr → EM) (h : Expr → TM) (ss : List Stmt → SM) (c : Dc) : Stmt → SM
  | .Return none _ => sRetN
  | .Return (some e) _ => sRet (f e)
  | .Expr e _ => if isLc e then sBad else sDrop (f e)
  | .Assign [.Name x p] e _ => (match nmIx c (.Name x p) with
    | some i => if isLc e then (if setLcOk c x p e then sAsg (.nm i) (f e) else sBad) else sAsg (.nm i) (f e)
    | none => sBad)
  | .Assign [.Tuple [.Name x px, .Name y py] _ _] (.Tuple [ea, eb] _ _) _ => if c.calm && parOk c x y px py ea eb then (match ixOf c.N x, ixOf c.N y with
      | some i, some j => if i = j then sBad else sPar [i, j] (denA f [ea, eb])
      | _, _ => sBad) else sBad
  | .Assign [.Tuple ts k p] e _ => if isTupE e || isLc e then sBad else (match denTg c (.Tuple ts k p) with
    | some g => sAsg g (f e)
    | none => sBad)
  | .Assign [.Subscript o i _] e _ => if noSl i && !isLc e then sSub (f o) (f i) (f e) else sBad
  | .Assign [.Attribute o fn _] e _ => if isLc e then sBad else sFldC (clsWith c.g fn) (f o) fn (f e)
  | .If t a b _ => sIf (h t) (ss a) (ss b)
  | .While t b [] _ => sWhile (h t) (ss b)
  | .For tg it b [] _ => if c.calm && noSet it then (match denTg c tg with
    | some g => sFor (denI f c tg it) g (ss b)
    | none => sBad) else sBad
  | .Pass _ => sNx
  | .Break _ => sBrk
  | .Continue _ => sCt
  | .Raise (some (.Call (.Name x _) [.Constant (.str _) _ _] [] _)) none _ => if c.calm && c.gl x then (match c.g.tab.lookup x with
    | some .exc => sRaise x
    | _ => sBad) else sBad
  | _ => sBad
noncomputable def denSs (n : Nat) (c : Dc) : Nat → List Stmt → SM
  | 0, _ => sBad
  | _ + 1, [] => sNx
  | k + 1, [s] => stepS (denE n c) (denT n c) (denSs n c k) c s
  | k + 1, s :: ss => sSeq (stepS (denE n c) (denT n c) (denSs n c k) c s) (denSs n c k ss)

section
variable {X : Cx} {c : Dc} {k : Nat} {W' : WX}
theorem sbad_ok {s : Stmt} : PS X s (tS (gw X) W' sBad) := PS.noW fun _ _ _ => tS_bad
theorem lc_free {e : Expr} {t : Option Expr} {l : Nat} {env : Env} (h : isLc e = false) : swapsWith e t l env = pure false := by
  cases e <;> first | rfl | cases h
theorem lc_free1 {e t : Expr} {l : Nat} {env : Env} (h : isLc e = false) : swapsWithSole [t] e l env = pure false := by
  show swapsWith e (some t) l env = pure false
  exact lc_free h
theorem sw_none {ts : List Expr} {k2 : Nat} {p : Pos} {e : Expr} {env : Env} (h : isTupE e = false) : swappedStores [.Tuple ts k2 p] e env = pure none := by
  cases e <;> first | rfl | cases h
theorem sw_sub {o i e : Expr} {p : Pos} {env : Env} : swappedStores [.Subscript o i p] e env = pure none := by
  cases e <;> rfl
theorem sw_par {x y : Str} {px py pt p2 : Pos} {k1 k2 : Nat} {ea eb : Expr} (F : Fits X c k) (h : parOk c x y px py ea eb = true) :
    swappedStores [.Tuple [.Name x px, .Name y py] k1 pt] (.Tuple [ea, eb] k2 p2) X.env = pure (some [x, y]) := by
  unfold parOk at h
  simp only [Bool.and_eq_true, decide_eq_true_eq, Bool.not_eq_true'] at h
  obtain ⟨⟨⟨⟨⟨⟨⟨⟨h1, h2⟩, h3⟩, h4⟩, h5⟩, h6⟩, h7⟩, h8⟩, h9⟩ := h
  have b1 : X.env.blockKind = .function := by unfold Env.blockKind; rw [F.sc, h7]; rfl
  have kx : (X.env.kindOf x == some .local) = true := by
    have : X.env.kindOf x = some .local := by show X.env.scope.names.lookup x = _; rw [F.sc]; exact h1
    rw [this]; rfl
  have ky : (X.env.kindOf y == some .local) = true := by
    have : X.env.kindOf y = some .local := by show X.env.scope.names.lookup y = _; rw [F.sc]; exact h2
    rw [this]; rfl
  have ns : ∀ e : Expr, noStar e = true → (match e with | .Starred .. => true | _ => false) = false := fun e he => by
    cases e <;> first | rfl | cases he
  have lx : (py.line == px.line) = true := by rw [eq_of_beq h3]; simp
  have yx : (y == x) = false := by
    rw [beq_eq_false_iff_ne] at h4 ⊢
    exact Ne.symm h4
  have e1 : ([x, y] : List Str).eraseDups = [x, y] := by
    simp [List.eraseDups_cons, yx]
  unfold swappedStores
  simp only [List.length_cons, List.length_nil, b1, List.any_cons, List.any_nil, List.head?_cons, Option.map_some, Option.getD_some, List.filterMap_cons, List.filterMap_nil, kx, ky, Expr.pos, beq_self_eq_true, lx, Bool.and_self, if_true, e1, List.all_cons, List.all_nil, Bool.and_true, h8, h9]
  refine (if_neg (by decide)).trans ((if_neg fun hh => ?_).trans rfl)
  rw [Bool.or_eq_true, Bool.or_eq_true] at hh
  rcases hh with hh | hh | hh
  · cases ea <;> first | (exact absurd (show false = true from h5) (by decide)) | (exact absurd (show false = true from hh) (by decide))
  · cases eb <;> first | (exact absurd (show false = true from h6) (by decide)) | (exact absurd (show false = true from hh) (by decide))
  · exact absurd (show false = true from hh) (by decide)
theorem setLc {i : Nat} {x : Str} {p pos : Pos} {e : Expr} {f : Dc → Expr → EM} {h : Dc → Expr → TM} (F : Fits X c k) (tk : Takes X W') (ihE : ∀ (X : Cx) (c : Dc) (k : Nat) (W' : WX) (e : Expr), Fits X c k → Takes X W' → PE X e (tE (gw X) W' (f c e)))
    (ihT : ∀ (X : Cx) (c : Dc) (k : Nat) (W' : WX) (e : Expr), Fits X c k → Takes X W' → PT X e (tT (gw X) W' (h c e))) (hx : ixOf c.N x = some i) (ok : setLcOk c x p e = true) : PS X (.Assign [.Name x p] e pos) (tS (gw X) W' (sAsg (.nm i) (stepE f h c e))) := by
  have no : ∀ {s : Stmt}, PS X s (tS (gw X) W' (sAsg (.nm i) eBad)) := fun {s} => PS.noW fun D st H ⟨_, _, _, _, _, p⟩ => p
  cases e with
  | ListComp elt gs scope pos' =>
    unfold setLcOk at ok
    simp only [Bool.and_eq_true, decide_eq_true_eq, Bool.not_eq_true'] at ok
    obtain ⟨⟨⟨o0, o1⟩, o2⟩, o3⟩ := ok
    have hl : X.env.scope.names.lookup x = some .local := by rw [F.sc]; exact o1
    have hN : X.N[i]? = some x := by rw [F.N]; exact ixOf_get hx
    have ih := fun e => ihE X c k W' e F tk
    have fin : ∀ {tg iter : Expr} {ifs : List Expr} {g : Tgt} {t : TM} {e' : EM} {src : IM}, c.calm = true → blkC c.N c.sc scope (ownOf c scope) = true → noSet iter = true → denTg (c.inner scope) tg = some g → (∀ i ∈ g.own, i ∈ (ownOf c scope).map (·.2)) →
        (∀ (s : Shared) (H : Hp) (C : Addr) (cl : List (Str × Addr)) (fp : List Addr), PTs (X.blk s H scope (compEnvC scope cl C X.env) fp) ifs (tT (gw X) WF t)) →
        (∀ (s : Shared) (H : Hp) (C : Addr) (cl : List (Str × Addr)) (fp : List Addr), PE (X.blk s H scope (compEnvC scope cl C X.env) fp) elt (tE (gw X) WF e')) → PI X tg iter (tI (gw X) W' src) →
        PS X (.Assign [.Name x p] (.ListComp elt [⟨tg, iter, ifs, 0⟩] scope pos') pos) (tS (gw X) W' (sAsg (.nm i) (eLc ((ownOf c scope).map (·.2)) src g t e'))) := fun {tg iter ifs g t e' src} h1 h2 h3 hg ho ht he hi => by
      refine (ps_setLc (g := g.raw X.K) (F.calm h1).1 F.nd hN hl (sw_true (by rw [F.sc]; exact o0) hl (by simpa [Expr.pos] using o2) o3) hi (blkOk_by (by rw [F.N, F.sc]; exact h2)) (fun s H C cl fp => denTg_ok (F.inner scope s H C cl fp) hg) ht he (fold_ok h3)).impW fun D st H hh => ?_
      obtain ⟨r, sl, S, A, sr, q⟩ := hh
      exact lc_sound (G := gw X) ho ⟨r, sl, S, A, sr, two_s sr q fun r1 y S1 v H1 x1 A1 s1 q1 p1 => p1 r1 H1 _ .refl A1 (s1.set q1)⟩
    match gs with
    | [⟨tg, iter, ifs, 0⟩] =>
      simp only [stepE]
      split
      · rename_i hh
        simp only [Bool.and_eq_true] at hh
        obtain ⟨⟨h1, h2⟩, h3⟩ := hh
        split
        · rename_i g hg
          split
          · rename_i ho
            match ifs with
            | [] => exact fin h1 h2 h3 hg (own_of ho) (fun s H C cl fp => tyes_ok) (fun s H C cl fp => ihE _ _ _ _ _ (F.inner _ s H C cl fp) takes_blk) (denI_ok F ih _ _)
            | [t] => exact fin h1 h2 h3 hg (own_of ho) (fun s H C cl fp => pts_one (ihT _ _ _ _ _ (F.inner _ s H C cl fp) takes_blk)) (fun s H C cl fp => ihE _ _ _ _ _ (F.inner _ s H C cl fp) takes_blk) (denI_ok F ih _ _)
            | _ :: _ :: _ => exact no
          · exact no
        · exact no
      · exact no
    | [] => exact no
    | _ :: _ :: _ =>
      simp only [stepE]
      exact no
    | [⟨tg, iter, ifs, .ofNat (n + 1)⟩] => exact no
    | [⟨tg, iter, ifs, .negSucc n⟩] => exact no
  | _ => cases ok
structure FitS (X : Cx) (c : Dc) (k : Nat) : Prop where
  f : Fits X c k
  hp : PassesOwn (model X.prog X.w) X.A X.env X.xe
theorem stepS_ok {n : Nat} {ss : List Stmt → SM} (F : FitS X c k) (tk : Takes X W') (hss : ∀ l, PSs X l (tS (gw X) W' (ss l))) (s : Stmt) : PS X s (tS (gw X) W' (stepS (denE n c) (denT n c) ss c s)) := by
  have ih := fun e => (den_ok n).1 X c k W' e F.f tk
  have iht := fun e => (den_ok n).2 X c k W' e F.f tk
  unfold stepS
  split
  · exact ms_retN
  · exact ms_ret (ih _)
  · split
    · exact sbad_ok
    · rename_i h
      exact ms_expr (ih _) (lc_free (by simpa using h))
  · rename_i x p e pos
    split
    · rename_i i hi
      have hn := hi
      simp only [nmIx] at hn
      split at hn
      · rename_i hs
        split
        · split
          · rename_i ho
            cases n with
            | zero => exact PS.noW fun D st H ⟨_, _, _, _, _, p⟩ => p
            | succ n => exact setLc F.f tk (fun X c k W' e F tk => (den_ok n).1 X c k W' e F tk) (fun X c k W' e F tk => (den_ok n).2 X c k W' e F tk) hn ho
          · exact sbad_ok
        · rename_i hl
          unfold Dc.stor at hs
          split at hs
          · rename_i hk
            exact ms_set F.f.nd (by rw [F.f.N]; exact ixOf_get hn) (.inl (by rw [F.f.sc]; exact hk)) (ih _) (lc_free (by simpa using hl)) (.inr (by rw [F.f.sc]; exact hk))
          · rename_i hk
            exact ms_set F.f.nd (by rw [F.f.N]; exact ixOf_get hn) (.inr (by rw [F.f.sc]; exact hk)) (ih _) (lc_free (by simpa using hl)) (.inl (F.f.fn (by simpa using hs) x))
          · cases hs
      · cases hn
    · exact sbad_ok
  · rename_i x px y py k1 pt ea eb k2 p2 pos
    split
    · rename_i h
      rw [Bool.and_eq_true] at h
      split
      · rename_i i j hi hj
        split
        · exact sbad_ok
        · rename_i hij
          have hp := h.2
          unfold parOk at hp
          simp only [Bool.and_eq_true, decide_eq_true_eq, Bool.not_eq_true'] at hp
          obtain ⟨⟨⟨⟨⟨⟨⟨⟨h1, h2⟩, h3⟩, h4⟩, h5⟩, h6⟩, h7⟩, h8⟩, h9⟩ := hp
          exact ms_par (F.f.calm h.1).1 F.f.nd (by rw [F.f.N]; exact ixOf_get hi) (by rw [F.f.N]; exact ixOf_get hj) hij (by rw [F.f.sc]; exact h1) (by rw [F.f.sc]; exact h2) (denA_ok ih _) (sw_par F.f h.2) rfl
      · exact sbad_ok
    · exact sbad_ok
  · rename_i ts k1 p e pos _
    split
    · exact sbad_ok
    · rename_i h
      rw [Bool.or_eq_true, not_or] at h
      split
      · rename_i g hg
        exact ms_asg (ih _) (denTg_ok F.f hg) (lc_free1 (by simpa using h.2)) (sw_none (by simpa using h.1)) rfl
      · exact sbad_ok
  · rename_i o i pt e pos
    split
    · rename_i h
      rw [Bool.and_eq_true] at h
      exact ms_sub (ih _) (ih _) (ih _) (lc_free1 (by simpa using h.2)) sw_sub rfl (fun v => by
        have h1 := h.1
        cases i <;> first | rfl | cases h1)
    · exact sbad_ok
  · split
    · exact sbad_ok
    · rename_i h
      exact ms_fld F.f.gk (ih _) (ih _) (lc_free (by simpa using h))
  · exact ms_if (iht _) (hss _) (hss _)
  · exact ms_while F.hp (iht _) (hss _)
  · split
    · rename_i h
      rw [Bool.and_eq_true] at h
      split
      · rename_i g hg
        exact ms_for F.hp (F.f.calm h.1).1 (denI_ok F.f ih _ _) (denTg_ok F.f hg) (hss _) (fold_ok h.2)
      · exact sbad_ok
    · exact sbad_ok
  · exact ms_pass
  · exact ms_brk
  · exact ms_ct
  · split
    · rename_i h
      rw [Bool.and_eq_true] at h
      obtain ⟨g1, g2⟩ := gl_of F.f h.2
      split
      · rename_i hx
        obtain ⟨C, e1, e2⟩ := F.f.gk.exc _ (mem_of_lk hx)
        exact ms_raise (F.f.calm h.1).1 tk e1 e2 g1 g2
      · exact sbad_ok
    · exact sbad_ok
  · exact sbad_ok
theorem denSs_ok {n : Nat} (F : FitS X c k) (tk : Takes X W') : ∀ (d : Nat) (l : List Stmt), PSs X l (tS (gw X) W' (denSs n c d l))
  | 0, l => PSs.noW fun _ _ _ => tS_bad
  | d + 1, [] => mss_nil
  | d + 1, [s] => pss_one (stepS_ok F tk (denSs_ok F tk d) s)
  | d + 1, s :: s2 :: l => mss_cons (stepS_ok F tk (denSs_ok F tk d) s) (denSs_ok F tk d (s2 :: l))
end
/-! ## a def -/
noncomputable def fnRun (n : Nat) (b : SM) : List W → Store → Out W := fun ws S => gc S (match b (ws.map some ++ List.replicate (n - ws.length) none) S with
  | .nx _ S' => .ok .non S'
  | .rt w S' => .ok w S'
  | .exc x _ S' => .exc x S'
  | _ => .bad)
noncomputable def denF (n d : Nat) (g : Gam) (N : List Str) (st : Stmt) : List W → Store → Out W := fnRun N.length (denSs n ⟨N, defScope st, g, true, false⟩ d (defBody st))
theorem sr_start {G : Gw} {r : List Addr} {H : Hp} {N : List Str} : ∀ {ws : List W} {vs : List V}, VRs G r H ws vs → SR G r H (ws.map some ++ List.replicate (N.length - ws.length) none) (L2.start N vs) := fun {ws vs} q => by
  have hl := q.length
  unfold L2.start
  refine ⟨by simp [hl], fun i w e => ?_⟩
  by_cases hi : i < ws.length
  · rw [List.getElem?_append_left (by simpa using hi), List.getElem?_map] at e
    obtain ⟨w', h1, h2⟩ := Option.map_eq_some_iff.mp e
    cases h2
    obtain ⟨v, h3, h4⟩ := q.get h1
    refine ⟨v, ?_, h4⟩
    rw [List.getElem?_append_left (by simpa [hl] using hi), List.getElem?_map, h3]
    rfl
  · rw [List.getElem?_append_right (by simpa using hi), List.getElem?_replicate] at e
    split at e <;> cases e
theorem fn_sound {P : Program} {w : World} {K : PySem.W.Frag} {mg : Str → Option Value} {base : Heap} {x qual : Str} {st : Stmt} {f : Addr} {fd : FuncData} {N ps : List Str} {k n d : Nat} {g : Gam} {dfl : List W} (F : Fun K x qual st f fd) (S : FnScope N ps (defScope st)) (gk : GOk P w K mg base k g) :
    FnOk P w K mg base (L2.CX P w) (k + 1) f fd ps (spM ⟨K, mg⟩ ⟨ps.length, dfl, denF n d g N st⟩) := by
  refine F.okX S (fun vs H Q E ⟨r, S, ws, A, q, hl, _⟩ => by rw [← q.length]; exact hl) (fun cdv A outer s H vs Q E hr ⟨r, S0, ws, A0, q, hl, p⟩ => ⟨tS ⟨K, mg⟩ (fun cls d _ H => E cls d H) (denSs n ⟨N, defScope st, g, true, false⟩ d (defBody st)), ?_, ?_⟩)
  · refine denSs_ok (c := ⟨N, defScope st, g, true, false⟩) (X := cxOf (L2.CX P w) P w K mg base N qual (defScope st) f cdv A outer s H E) (k := k) ⟨⟨rfl, rfl, S.nd, fun _ => ⟨rfl, hr⟩, hr.units, fun _ _ => rfl, gk⟩, passes_of rfl⟩ (takes_of rfl rfl rfl rfl) d _
  · refine ⟨r, _, S0, A0, sr_start q, ?_⟩
    have p1 := gc_post A0 p
    cases e1 : denSs n ⟨N, defScope st, g, true, false⟩ d (defBody st) (ws.map some ++ List.replicate (N.length - ws.length) none) S0 with
    | nx m S' => rw [e1] at p1; exact fun r1 H1 st1 y A1 _ => p1 r1 H1 .non y A1 .non
    | rt v S' => rw [e1] at p1; exact p1
    | bk m S' => rw [e1] at p1; exact p1.elim
    | ct m S' => rw [e1] at p1; exact p1.elim
    | exc x m S' => rw [e1] at p1; exact fun r1 H1 st1 c d y A1 _ q1 => p1 r1 H1 c d y A1 q1
    | bad => rw [e1] at p1; exact p1
end PD

namespace PD
open PySem PySem.Spec PyProof.Rows L2
/-! ## from the text's defs to the law -/
def dfD (pl : Str × Option Str) (x q : Str) (t : Stmt) (ds : List He.Dv) : He.DefD := { at_ := pl, name := x, qual := q, params := defArgs t, body := defBody t, scope := defScope t, dfl := ds, kwd := [] }
section
variable {P : Program} {w : World} {K : PySem.W.Frag} {mg : Str → Option Value} {base : Heap}
theorem fn_soundD {x qual : Str} {ar : Arguments} {st : Stmt} {f : Addr} {fd : FuncData} {N ps : List Str} {k n d : Nat} {g : Gam} {dfl : List W} {dvs : List V} {kws : List (Str × V)} (F : FunD K x qual ar (defBody st) (defScope st) dvs kws f fd) {run : List W → Store → Out W} (e0 : run = denF n d g N st) (S : FnScope N ps (defScope st)) (gk : GOk P w K mg base k g) :
    FnOk P w K mg base (L2.CX P w) (k + 1) f fd ps (spM ⟨K, mg⟩ ⟨ps.length, dfl, run⟩) := by
  subst e0
  refine F.ok S (fun vs H Q E ⟨_, _, ws, _, q, hl, _⟩ => by rw [← q.length]; exact hl) (fun cdv A outer s H vs Q E hr ⟨r, S0, ws, A0, q, hl, p⟩ => ⟨tS ⟨K, mg⟩ (fun cls d _ H => E cls d H) (denSs n ⟨N, defScope st, g, true, false⟩ d (defBody st)), ?_, ?_⟩)
  · refine denSs_ok (c := ⟨N, defScope st, g, true, false⟩) (X := cxOf (L2.CX P w) P w K mg base N qual (defScope st) f cdv A outer s H E) (k := k) ⟨⟨rfl, rfl, S.nd, fun _ => ⟨rfl, hr⟩, hr.units, fun _ _ => rfl, gk⟩, passes_of rfl⟩ (takes_of rfl rfl rfl rfl) d _
  · refine ⟨r, _, S0, A0, sr_start q, ?_⟩
    have p1 := gc_post A0 p
    cases e1 : denSs n ⟨N, defScope st, g, true, false⟩ d (defBody st) (ws.map some ++ List.replicate (N.length - ws.length) none) S0 with
    | nx m S' => rw [e1] at p1; exact fun r1 H1 st1 y A1 _ => p1 r1 H1 .non y A1 .non
    | rt v S' => rw [e1] at p1; exact p1
    | bk m S' => rw [e1] at p1; exact p1.elim
    | ct m S' => rw [e1] at p1; exact p1.elim
    | exc x m S' => rw [e1] at p1; exact fun r1 H1 st1 c d y A1 _ q1 => p1 r1 H1 c d y A1 q1
    | bad => rw [e1] at p1; exact p1
theorem FnHas.mono {j k : Nat} {f : Addr} {m : FnM} (F : FnHas P w K mg base j f m) (h : j ≤ k) : FnHas P w K mg base k f m := by
  obtain ⟨fd, ps, h1, h2, h3⟩ := F.ex
  exact ⟨F.kp, fd, ps, h1, h2.mono h, h3⟩
/-- a def without defaults -/
theorem has_n {x qual : Str} {ar : Arguments} {st : Stmt} {f : Addr} {N ps : List Str} {k n d : Nat} {g : Gam} {run : List W → Store → Out W} (e0 : run = denF n d g N st) (F : ∃ fd, FunD K x qual ar (defBody st) (defScope st) [] [] f fd) (S : FnScope N ps (defScope st))
    (hb : ∀ (kV doc pm : Value) (an : Option Addr) (cdv ct : Value) (us : List Value), us.length = ps.length → bindArgs (PySem.W.fnOf x qual ar (defBody st) (defScope st) .none kV doc pm an cdv ct) ⟨us, []⟩ = pure (ps.zip us))
    (gk : GOk P w K mg base k g) : FnHas P w K mg base (k + 1) f ⟨ps.length, [], run⟩ := by
  obtain ⟨fd, F⟩ := F
  refine ⟨F.kp, fd, ps, rfl, fn_soundD F e0 S gk, fun j ds h => ?_⟩
  unfold FnM.fill at h
  split at h
  · cases h
    exact ⟨[], [], .nil, fun r H => by simpa using VRs.nil, F.bindsN hb⟩
  · cases h
/-- a def that may not be called yet: its fuel is out -/
theorem has_bad {x qual : Str} {ar : Arguments} {st : Stmt} {f : Addr} {ps : List Str} {k : Nat} (F : ∃ fd, FunD K x qual ar (defBody st) (defScope st) [] [] f fd)
    (hb : ∀ (kV doc pm : Value) (an : Option Addr) (cdv ct : Value) (us : List Value), us.length = ps.length → bindArgs (PySem.W.fnOf x qual ar (defBody st) (defScope st) .none kV doc pm an cdv ct) ⟨us, []⟩ = pure (ps.zip us)) :
    FnHas P w K mg base k f ⟨ps.length, [], fun _ _ => .bad⟩ := by
  obtain ⟨fd, F⟩ := F
  refine ⟨F.kp, fd, ps, rfl, ⟨fun vs H Q E ⟨_, _, ws, _, q, hl, _⟩ => by rw [← q.length]; exact hl, fun A outer s H args us vs Q E hr he hb hv ⟨_, _, _, _, _, _, p⟩ => p.elim⟩, fun j ds h => ?_⟩
  unfold FnM.fill at h
  split at h
  · cases h
    exact ⟨[], [], .nil, fun r H => by simpa using VRs.nil, F.bindsN hb⟩
  · cases h
/-! ### the table of names, one by one -/
def GvOk (P : Program) (w : World) (K : PySem.W.Frag) (mg : Str → Option Value) (base : Heap) (k : Nat) (x : Str) : GV → Prop
  | .fn m => ∃ f, mg x = some (.ref f) ∧ FnHas P w K mg base k f m
  | .con c => ∃ u v, mg x = some u ∧ RelV v u ∧ ∀ r H, VR ⟨K, mg⟩ r H c v
  | .cls c => ∃ C, mg x = some (.ref C) ∧ Cls K C ∧ (∀ n m, (n, m) ∈ c.ms → ∃ f, Meth K C n f ∧ FnHas P w K mg base k f m) ∧ (∀ a ∈ c.ats, NoAttr K C a) ∧
    ∀ m, c.init = some m → ∃ f j, Mk K C f ∧ FnHas P w K mg base j f m ∧ j + 1 ≤ k
  | .exc => ∃ C, mg x = some (.ref C) ∧ ExcHas K C
def TabOk (P : Program) (w : World) (K : PySem.W.Frag) (mg : Str → Option Value) (base : Heap) (k : Nat) (t : List (Str × GV)) : Prop := ∀ p ∈ t, GvOk P w K mg base k p.1 p.2
theorem TabOk.nil {k : Nat} : TabOk P w K mg base k [] := fun _ h => by cases h
theorem TabOk.cons {k : Nat} {x : Str} {v : GV} {t : List (Str × GV)} (a : GvOk P w K mg base k x v) (b : TabOk P w K mg base k t) : TabOk P w K mg base k ((x, v) :: t) := fun p h => by
  rcases List.mem_cons.mp h with rfl | h
  · exact a
  · exact b p h
theorem gok_of {k : Nat} {g : Gam} (t : TabOk P w K mg base k g.tab) (b : ∀ x ∈ g.blt, mg x = none) : GOk P w K mg base k g :=
  ⟨fun x m h => t _ h, fun x m h => t _ h, b, fun x m h => t _ h, fun x h => t _ h⟩
theorem gv_fn {k j : Nat} {x : Str} {f : Addr} {m : FnM} (h : mg x = some (.ref f)) (F : FnHas P w K mg base j f m) (l : j ≤ k) : GvOk P w K mg base k x (.fn m) := ⟨f, h, F.mono l⟩
theorem gv_str {k : Nat} {x : Str} {z : Str} {c : List Nat} (h : ∃ t, mg x = some (.str z t)) (e : z = ⟨c.toArray⟩) : GvOk P w K mg base k x (.con (.str c)) := by
  obtain ⟨t, h⟩ := h
  subst e
  exact ⟨_, .str ⟨c.toArray⟩, h, ⟨t, rfl⟩, fun r H => by unfold VR; rfl⟩
theorem gv_int {k : Nat} {x : Str} {i : Int} (h : ∃ t, mg x = some (.int i t)) : GvOk P w K mg base k x (.con (.int i)) := by
  obtain ⟨t, h⟩ := h
  exact ⟨_, .int i, h, ⟨t, rfl⟩, fun r H => by unfold VR; rfl⟩
theorem blt_nil : ∀ x ∈ ([] : List Str), mg x = none := fun _ h => by cases h
theorem blt_cons {x : Str} {l : List Str} (h : mg x = none) (t : ∀ y ∈ l, mg y = none) : ∀ y ∈ x :: l, mg y = none := fun y hy => by
  rcases List.mem_cons.mp hy with rfl | hy
  · exact h
  · exact t y hy
/-! ### the end -/
/-- what the law's def is asked: the script is the only cell -/
def spLaw (K : PySem.W.Frag) : Sp := fun vs H Q _ => ∃ (a : Addr) (ns : List Int), vs = [.ref a] ∧ ns.length ≤ 63 ∧ (∀ z ∈ ns, Builtin.Int.intBits z ≤ 1048576) ∧ Only H ∧ SqL K H a (ns.map V.int) ∧ ∀ H', Q (.bl true) H'
theorem scr_of {H : Hp} {a : Addr} {vs : List V} (o : Only H) (q : SqL K H a vs) : Scr ⟨K, mg⟩ H a vs := by
  rcases q with (h | ⟨ob, h⟩) | h
  · rcases o a with e | ⟨u, xs, e⟩
    · rw [e] at h; cases h
    · rw [e] at h; cases h
  · exact .inl ⟨ob, h⟩
  · exact .inr h
theorem vrs_ints {r : List Addr} {H : Hp} : ∀ ns : List Int, VRs ⟨K, mg⟩ r H (ns.map W.int) (ns.map V.int)
  | [] => VRs.nil
  | _ :: t => VRs.cons (by unfold VR; rfl) (vrs_ints t)
def LawHolds (run : List W → Store → Out W) : Prop := ∀ ns : List Int, ns.length ≤ 63 → (∀ z ∈ ns, Builtin.Int.intBits z ≤ 1048576) → ∃ S', run [.ref 0] [.scr (ns.map W.int)] = .ok (.bl true) S'
theorem sp_of {run : List W → Store → Out W} (h : LawHolds run) : ∀ vs H Q E, spLaw K vs H Q E → spM ⟨K, mg⟩ ⟨1, [], run⟩ vs H Q E := by
  rintro vs H Q E ⟨a, ns, rfl, hl, hb, ho, hs, hq⟩
  obtain ⟨S', e⟩ := h ns hl hb
  refine ⟨[a], [.scr (ns.map W.int)], [.ref 0], ⟨rfl, fun i c b h1 h2 => ?_, fun i j c d b h1 h2 h3 h4 m1 m2 => ?_⟩, VRs.cons (by unfold VR; exact ⟨a, rfl, rfl⟩) VRs.nil, rfl, ?_⟩
  · cases i with
    | zero => cases h1; cases h2; exact ⟨_, scr_of ho hs, vrs_ints ns⟩
    | succ i => cases h1
  · cases i with
    | zero => cases h1; cases m1
    | succ i => cases h1
  · show Post _ _ _ _ (run [.ref 0] [.scr (ns.map W.int)]) Q E
    rw [e]
    intro r' H' v x A q
    have : v = .bl true := by unfold VR at q; exact q
    subst this
    exact hq H'
end
theorem law_walk {l : PySem.W.OpenLaw} {k : Nat} {q : Program} {loose : List Str} {XP : (Str → Option Value) → Heap → Prop} {YP : World → Heap → Prop} {d : DefRec} {x : Str} {run : List W → Store → Out W}
    (h63 : l.most = some 63) (hd0 : d.params.defaults = []) (hr : Room k callerA) (hlaw : LawHolds run)
    (F : ∀ (w : World) (mg : Str → Option Value) (fa : Addr) (h : Heap), YP w h → h.Ns mainGlobals mg → mg d.name = some (.ref fa) →
      ∃ (K : PySem.W.Frag) (fd : FuncData), K.In h ∧ (∀ (s : Shared) (u : Value), BindsTo s fd ⟨[u], []⟩ [(x, u)]) ∧ ∀ base : Heap, FnOk l.prog w K mg base (L2.CX l.prog w) k fa fd [x] (spM ⟨K, mg⟩ ⟨1, [], run⟩)) :
    PySem.W.WalkO q loose XP YP l.row.toRowW d [] (fun f vs => PySem.call f vs) := by
  refine Att.attach_callB h63 hd0 fun w t₀ t₁ mg mb fa o pm cd doc a vs ns G Y ho hd hcd hmg hobj hints hlen hbits hg => ?_
  obtain ⟨K, fd, KX, hb, hF⟩ := F w mg fa _ Y G.T.g hmg
  exact law_call (CX := L2.CX l.prog w) (sp := spLaw K) KX G.T.g G.T.b G.T.builtins G.T.nolimit hg hobj hints (Nat.le_trans hlen (by decide)) hr (fun base _ _ => (hF base).imp (sp_of hlaw)) hb
    (fun H hO hS => ⟨a, ns, rfl, hlen, hbits, hO, hS, fun _ => rfl⟩) (fun H e s' ⟨_, _, _, _, _, _, _, _, _, _, _, _, z⟩ => z)
end PD

namespace PD
open PySem L2
/-! ## what a run answers, from behind -/
def Out.SatD {α : Type} (o : Out α) (Q : α → Store → Prop) (X : Ex → Store → Prop) : Prop := match o with
  | .ok a S => Q a S
  | .exc x S => X x S
  | .bad => False
structure Out.Sat {α : Type} (o : Out α) (Q : α → Store → Prop) (X : Ex → Store → Prop) : Prop where
  is : o.SatD Q X
def SOut.SatD (o : SOut) (N : Slots → Store → Prop) (R : W → Store → Prop) (B C : Slots → Store → Prop) (X : Ex → Slots → Store → Prop) : Prop := match o with
  | .nx m S => N m S
  | .rt w S => R w S
  | .bk m S => B m S
  | .ct m S => C m S
  | .exc x m S => X x m S
  | .bad => False
structure SOut.Sat (o : SOut) (N : Slots → Store → Prop) (R : W → Store → Prop) (B C : Slots → Store → Prop) (X : Ex → Slots → Store → Prop) : Prop where
  is : o.SatD N R B C X
abbrev NoX : Ex → Store → Prop := fun _ _ => False
section
variable {α β : Type} {o : Out α} {Q Q' : α → Store → Prop} {X X' : Ex → Store → Prop} {S : Store} {m : Slots}
@[simp] theorem sat_ok {a : α} : (Out.ok a S).Sat Q X ↔ Q a S := ⟨fun h => h.is, fun h => ⟨h⟩⟩
@[simp] theorem sat_exc {x : Ex} : (Out.exc x S : Out α).Sat Q X ↔ X x S := ⟨fun h => h.is, fun h => ⟨h⟩⟩
@[simp] theorem sat_bad : (Out.bad : Out α).Sat Q X ↔ False := ⟨fun h => h.is, fun h => h.elim⟩
@[simp] theorem sat_bind {k : α → Store → Out β} {Q : β → Store → Prop} : (o.bind k).Sat Q X ↔ o.Sat (fun a S => (k a S).Sat Q X) X := by cases o <;> simp
@[simp] theorem sat_bindN {k : α → Store → Out β} {Q : β → Store → Prop} : (o.bindN k).Sat Q X ↔ o.Sat (fun a S => (k a S).Sat Q X) NoX := by cases o <;> simp [Out.bindN, NoX]
theorem Out.Sat.mono (h : o.Sat Q X) (a : ∀ w S, Q w S → Q' w S) (b : ∀ x S, X x S → X' x S) : o.Sat Q' X' := by
  cases o with
  | ok w S => exact ⟨a w S h.is⟩
  | exc x S => exact ⟨b x S h.is⟩
  | bad => exact h.is.elim
/-- no exception: whatever is wanted of them -/
theorem Out.Sat.use (h : o.Sat Q NoX) (a : ∀ w S, Q w S → Q' w S) : o.Sat Q' X' := h.mono a fun _ _ z => z.elim
theorem Out.Sat.eq (h : o.Sat Q NoX) : ∃ w S, o = .ok w S ∧ Q w S := by
  cases o with
  | ok w S => exact ⟨w, S, rfl, h.is⟩
  | exc x S => exact h.is.elim
  | bad => exact h.is.elim
theorem sat_of {w : α} (e : o = .ok w S) (q : Q w S) : o.Sat Q X := by rw [e]; exact ⟨q⟩
end
section
variable {Q : W → Store → Prop} {QB : Bool → Store → Prop} {QL : List W → Store → Prop} {QO : Option Int → Store → Prop} {X : Ex → Store → Prop} {S : Store} {m : Slots} {a b c : EM} {as : AM} {ta tb : TM}
@[simp] theorem sat_var {i : Nat} : (eVar i m S).Sat Q X ↔ ∃ w, m[i]? = some (some w) ∧ Q w S := by
  unfold eVar
  split
  · rename_i w hw
    rw [hw]
    exact ⟨fun h => ⟨w, rfl, h.is⟩, fun ⟨v, e, h⟩ => by cases e; exact ⟨h⟩⟩
  · rename_i hn
    exact ⟨fun h => h.is.elim, fun ⟨v, e, h⟩ => (hn v e).elim⟩
@[simp] theorem sat_con {w : W} : (eCon w m S).Sat Q X ↔ Q w S := sat_ok
@[simp] theorem sat_bin {op : W → W → Store → Out W} : (eBin op a b m S).Sat Q X ↔ (a m S).Sat (fun x S1 => (b m S1).Sat (fun y S2 => (op x y S2).Sat Q X) X) X := by simp [eBin]
@[simp] theorem sat_un {op : W → Store → Out W} : (eUn op a m S).Sat Q X ↔ (a m S).Sat (fun x S1 => (op x S1).Sat Q X) X := by simp [eUn]
@[simp] theorem sat_chain {o1 o2 : W → W → Store → Out W} : (eChain o1 o2 a b c m S).Sat Q X ↔ (a m S).Sat (fun x S1 => (b m S1).Sat (fun y S2 => (o1 x y S2).Sat (fun z S3 => match z with
    | .bl true => (c m S3).Sat (fun v S4 => (o2 y v S4).Sat Q X) X
    | .bl false => Q (.bl false) S3
    | _ => False) X) X) X := by
  simp only [eChain, sat_bind]
  constructor <;> intro h <;> refine h.mono (fun x S1 h => h.mono (fun y S2 h => h.mono (fun z S3 h => ?_) fun _ _ h => h) fun _ _ h => h) fun _ _ h => h
  · split at h <;> simp_all
  · split at h <;> simp_all
@[simp] theorem sat_and : (eAnd a b m S).Sat Q X ↔ (a m S).Sat (fun x S1 => match x with
    | .bl true => (b m S1).Sat Q X
    | .bl false => Q (.bl false) S1
    | _ => False) X := by
  simp only [eAnd, sat_bind]
  constructor <;> intro h <;> refine h.mono (fun x S1 h => ?_) fun _ _ h => h
  · split at h <;> simp_all
  · split at h <;> simp_all
@[simp] theorem sat_or : (eOr a b m S).Sat Q X ↔ (a m S).Sat (fun x S1 => match x with
    | .bl false => (b m S1).Sat Q X
    | .bl true => Q (.bl true) S1
    | _ => False) X := by
  simp only [eOr, sat_bind]
  constructor <;> intro h <;> refine h.mono (fun x S1 h => ?_) fun _ _ h => h
  · split at h <;> simp_all
  · split at h <;> simp_all
@[simp] theorem sat_not : (eNot a m S).Sat Q X ↔ (a m S).Sat (fun x S1 => match x with
    | .bl c => Q (.bl (!c)) S1
    | _ => False) X := by
  simp only [eNot, sat_bind]
  constructor <;> intro h <;> refine h.mono (fun x S1 h => ?_) fun _ _ h => h
  · split at h <;> simp_all
  · split at h <;> simp_all
@[simp] theorem sat_nil : (aNil m S).Sat QL X ↔ QL [] S := sat_ok
@[simp] theorem sat_cons : (aCons a as m S).Sat QL X ↔ (a m S).Sat (fun x S1 => (as m S1).Sat (fun xs S2 => QL (x :: xs) S2) X) X := by simp [aCons]
@[simp] theorem sat_tup : (eTup as m S).Sat Q X ↔ (as m S).Sat (fun xs S1 => xs.length ≤ SL ∧ Q (.tup xs) S1) X := by
  simp only [eTup, sat_bind]
  constructor <;> intro h <;> refine h.mono (fun x S1 h => ?_) fun _ _ h => h
  · split at h
    · exact ⟨‹_›, h.is⟩
    · exact h.is.elim
  · rw [if_pos h.1]; exact ⟨h.2⟩
@[simp] theorem sat_lst : (eLst as m S).Sat Q X ↔ (as m S).Sat (fun xs S1 => xs.length ≤ SL ∧ Q (.ref S1.length) (S1 ++ [.lst xs])) X := by
  simp only [eLst, sat_bind]
  constructor <;> intro h <;> refine h.mono (fun x S1 h => ?_) fun _ _ h => h
  · split at h
    · exact ⟨‹_›, h.is⟩
    · exact h.is.elim
  · rw [if_pos h.1]; exact ⟨h.2⟩
@[simp] theorem sat_onone : (oNone m S).Sat QO X ↔ QO none S := sat_ok
@[simp] theorem sat_osome : (oSome a m S).Sat QO X ↔ (a m S).Sat (fun x S1 => match x with
    | .int i => QO (some i) S1
    | _ => False) X := by
  simp only [oSome, sat_bind]
  constructor <;> intro h <;> refine h.mono (fun x S1 h => ?_) fun _ _ h => h
  · split at h <;> simp_all
  · split at h <;> simp_all
@[simp] theorem sat_sl {lo hi : OM} : (eSl a lo hi m S).Sat Q X ↔ (a m S).Sat (fun x S1 => (lo m S1).Sat (fun l S2 => (hi m S2).Sat (fun h S3 => (slW x l h S3).Sat Q X) X) X) X := by simp [eSl]
@[simp] theorem sat_call {run : List W → Store → Out W} {ds : List W} : (eCall run ds as m S).Sat Q X ↔ (as m S).Sat (fun xs S1 => (run (xs ++ ds) S1).Sat Q X) X := by simp [eCall]
@[simp] theorem sat_isi {T : String} : (eIsi T a m S).Sat Q X ↔ (a m S).Sat (fun x S1 => match (tyW x S1).bind fun t => kitB t T with
    | some b => Q (.bl b) S1
    | none => False) X := by
  simp only [eIsi, sat_bind]
  constructor <;> intro h <;> refine h.mono (fun x S1 h => ?_) fun _ _ h => h
  · split at h <;> simp_all
  · split at h <;> simp_all
@[simp] theorem sat_tB : (tB a m S).Sat QB X ↔ (a m S).Sat (fun x S1 => match x with
    | .bl b => QB b S1
    | _ => False) X := by
  simp only [tB, sat_bind]
  constructor <;> intro h <;> refine h.mono (fun x S1 h => ?_) fun _ _ h => h
  · split at h <;> simp_all
  · split at h <;> simp_all
@[simp] theorem sat_tVal : (tVal a m S).Sat QB X ↔ (a m S).Sat (fun x S1 => match truW x S1 with
    | some b => QB b S1
    | none => False) X := by
  simp only [tVal, sat_bind]
  constructor <;> intro h <;> refine h.mono (fun x S1 h => ?_) fun _ _ h => h
  · split at h <;> simp_all
  · split at h <;> simp_all
@[simp] theorem sat_tand : (ttAnd ta tb m S).Sat QB X ↔ (ta m S).Sat (fun x S1 => if x = true then (tb m S1).Sat QB X else QB false S1) X := by
  simp only [ttAnd, sat_bind]
  constructor <;> intro h <;> refine h.mono (fun x S1 h => ?_) fun _ _ h => h
  · split at h <;> simp_all
  · split at h <;> simp_all
@[simp] theorem sat_tor : (ttOr ta tb m S).Sat QB X ↔ (ta m S).Sat (fun x S1 => if x = true then QB true S1 else (tb m S1).Sat QB X) X := by
  simp only [ttOr, sat_bind]
  constructor <;> intro h <;> refine h.mono (fun x S1 h => ?_) fun _ _ h => h
  · split at h <;> simp_all
  · split at h <;> simp_all
@[simp] theorem sat_tnot : (ttNot ta m S).Sat QB X ↔ (ta m S).Sat (fun x S1 => QB (!x) S1) X := by simp [ttNot]
@[simp] theorem sat_tyes : (ttYes m S).Sat QB X ↔ QB true S := sat_ok
@[simp] theorem sat_methB {k : BM} : (eMethB k a as m S).Sat Q X ↔ (a m S).Sat (fun x S1 => (bmTy k x S1).isSome = true ∧ (as m S1).Sat (fun xs S2 => (bmRun k x xs S2).Sat Q X) X) X := by
  simp only [eMethB, sat_bind]
  constructor <;> intro h <;> refine h.mono (fun x S1 h => ?_) fun _ _ h => h
  · split at h <;> simp_all
  · obtain ⟨h1, h2⟩ := h
    obtain ⟨t, ht⟩ := Option.isSome_iff_exists.mp h1
    rw [ht]; simpa using h2
end
section
variable {N B C : Slots → Store → Prop} {R : W → Store → Prop} {X : Ex → Slots → Store → Prop} {m : Slots} {S : Store} {a b : SM} {e : EM} {t : TM} {as : AM}
theorem SOut.Sat.mono {o : SOut} {N' B' C' : Slots → Store → Prop} {R' : W → Store → Prop} {X' : Ex → Slots → Store → Prop} (h : o.Sat N R B C X) (h1 : ∀ m S, N m S → N' m S) (h2 : ∀ w S, R w S → R' w S) (h3 : ∀ m S, B m S → B' m S) (h4 : ∀ m S, C m S → C' m S) (h5 : ∀ x m S, X x m S → X' x m S) : o.Sat N' R' B' C' X' := by
  cases o with
  | nx m S => exact ⟨h1 _ _ h.is⟩
  | rt w S => exact ⟨h2 _ _ h.is⟩
  | bk m S => exact ⟨h3 _ _ h.is⟩
  | ct m S => exact ⟨h4 _ _ h.is⟩
  | exc x m S => exact ⟨h5 _ _ _ h.is⟩
  | bad => exact h.is.elim
@[simp] theorem ssat_nx : (SOut.nx m S).Sat N R B C X ↔ N m S := ⟨fun h => h.is, fun h => ⟨h⟩⟩
@[simp] theorem ssat_bad : SOut.bad.Sat N R B C X ↔ False := ⟨fun h => h.is, fun h => h.elim⟩
@[simp] theorem ssat_bk : (SOut.bk m S).Sat N R B C X ↔ B m S := ⟨fun h => h.is, fun h => ⟨h⟩⟩
@[simp] theorem ssat_cto : (SOut.ct m S).Sat N R B C X ↔ C m S := ⟨fun h => h.is, fun h => ⟨h⟩⟩
@[simp] theorem ssat_ex {x : Ex} : (SOut.exc x m S).Sat N R B C X ↔ X x m S := ⟨fun h => h.is, fun h => ⟨h⟩⟩
@[simp] theorem ssat_rt {w : W} : (SOut.rt w S).Sat N R B C X ↔ R w S := ⟨fun h => h.is, fun h => ⟨h⟩⟩
@[simp] theorem ssat_lift {α : Type} {o : Out α} {k : α → Store → SOut} : (liftE o m k).Sat N R B C X ↔ o.Sat (fun w S => (k w S).Sat N R B C X) fun x S => X x m S := by cases o <;> simp [liftE]
@[simp] theorem ssat_next : (sNx m S).Sat N R B C X ↔ N m S := ssat_nx
@[simp] theorem ssat_seq : (sSeq a b m S).Sat N R B C X ↔ (a m S).Sat (fun m' S' => (b m' S').Sat N R B C X) R B C X := by unfold sSeq; cases a m S <;> simp
@[simp] theorem ssat_asg {i : Nat} : (sAsg (.nm i) e m S).Sat N R B C X ↔ (e m S).Sat (fun w S1 => N (m.set i (some w)) S1) fun x S => X x m S := by simp [sAsg, Tgt.sem]
@[simp] theorem ssat_asgT {is : List Nat} : (sAsg (.tup is) e m S).Sat N R B C X ↔ (e m S).Sat (fun w S1 => ∃ xs, w = .tup xs ∧ xs.length = is.length ∧ N (setAll m is xs) S1) fun x S => X x m S := by
  simp only [sAsg, ssat_lift]
  constructor <;> intro h <;> refine h.mono (fun w S1 h => ?_) fun _ _ h => h
  · cases w with
    | tup xs =>
      simp only [Tgt.sem] at h
      split at h
      · rename_i hx
        split at hx
        · cases hx; exact ⟨xs, rfl, ‹_›, h.is⟩
        · cases hx
      · exact h.is.elim
    | _ => exact h.is.elim
  · obtain ⟨xs, rfl, hl, h⟩ := h
    simp only [Tgt.sem, if_pos hl]
    exact ⟨h⟩
@[simp] theorem ssat_drop : (sDrop e m S).Sat N R B C X ↔ (e m S).Sat (fun _ S1 => N m S1) fun x S => X x m S := by simp [sDrop]
@[simp] theorem ssat_ret : (sRet e m S).Sat N R B C X ↔ (e m S).Sat R fun x S => X x m S := by simp [sRet]
@[simp] theorem ssat_retN : (sRetN m S).Sat N R B C X ↔ R .non S := ssat_rt
@[simp] theorem ssat_brk : (sBrk m S).Sat N R B C X ↔ B m S := ssat_bk
@[simp] theorem ssat_ct : (sCt m S).Sat N R B C X ↔ C m S := ssat_cto
@[simp] theorem ssat_sub {o i : EM} : (sSub o i e m S).Sat N R B C X ↔ (e m S).Sat (fun v S1 => (o m S1).Sat (fun x S2 => (i m S2).Sat (fun k S3 => ∃ S4, setW x k v S3 = some S4 ∧ N m S4) fun x S => X x m S) fun x S => X x m S) fun x S => X x m S := by
  simp only [sSub, ssat_lift]
  constructor <;> intro h <;> refine h.mono (fun v S1 h => h.mono (fun x S2 h => h.mono (fun k S3 h => ?_) fun _ _ h => h) fun _ _ h => h) fun _ _ h => h
  · split at h
    · exact ⟨_, ‹_›, h.is⟩
    · exact h.is.elim
  · obtain ⟨S4, e4, h⟩ := h
    rw [e4]; exact ⟨h⟩
@[simp] theorem ssat_if : (sIf t a b m S).Sat N R B C X ↔ (t m S).Sat (fun c S1 => if c = true then (a m S1).Sat N R B C X else (b m S1).Sat N R B C X) fun x S => X x m S := by
  simp only [sIf, ssat_lift]
  constructor <;> intro h <;> refine h.mono (fun x S1 h => ?_) fun _ _ h => h
  · split at h <;> simp_all
  · split at h <;> simp_all
@[simp] theorem ssat_par {is : List Nat} : (sPar is as m S).Sat N R B C X ↔ (as m S).Sat (fun ws S1 => ws.length = is.length ∧ N (setAll m is ws) S1) fun x S => X x m S := by
  simp only [sPar, ssat_lift]
  constructor <;> intro h <;> refine h.mono (fun x S1 h => ?_) fun _ _ h => h
  · split at h
    · exact ⟨‹_›, h.is⟩
    · exact h.is.elim
  · rw [if_pos h.1]; exact ⟨h.2⟩
@[simp] theorem ssat_raise {c : Str} : (sRaise c m S).Sat N R B C X ↔ X ⟨c, none⟩ m S := ssat_ex
@[simp] theorem ssat_for {src : IM} {g : Tgt} : (sFor src g b m S).Sat N R B C X ↔ (src m S).Sat (fun p S1 => (forGo p.2 g b p.1 m S1).Sat N R B C X) fun x S => X x m S := by simp [sFor]
/-- the rule of a walk -/
theorem for_sat {gd : List (W × List W)} {g : Tgt} (I : List W → Slots → Store → Prop) (hstep : ∀ x xs m S, I (x :: xs) m S → Guards gd S ∧ ∃ m1, g.sem x m = some m1 ∧ (b m1 S).Sat (fun m2 S2 => I xs m2 S2) R N (fun m2 S2 => I xs m2 S2) X)
    (hend : ∀ m S, I [] m S → Guards gd S ∧ N m S) : ∀ {xs : List W} {m : Slots} {S : Store}, I xs m S → (forGo gd g b xs m S).Sat N R B C X
  | [], m, S, h => by
    obtain ⟨h1, h2⟩ := hend m S h
    unfold forGo
    rw [if_pos h1]
    exact ⟨h2⟩
  | x :: xs, m, S, h => by
    obtain ⟨h1, m1, h2, h3⟩ := hstep x xs m S h
    unfold forGo
    rw [if_pos h1, h2]
    show SOut.Sat (match b m1 S with
        | .nx m2 S2 => forGo gd g b xs m2 S2
        | .ct m2 S2 => forGo gd g b xs m2 S2
        | .bk m2 S2 => .nx m2 S2
        | o => o) N R B C X
    cases e : b m1 S with
    | nx m2 S2 => rw [e] at h3; exact for_sat I hstep hend h3.is
    | rt w S2 => rw [e] at h3; exact ⟨h3.is⟩
    | bk m2 S2 => rw [e] at h3; exact ⟨h3.is⟩
    | ct m2 S2 => rw [e] at h3; exact for_sat I hstep hend h3.is
    | exc x m2 S2 => rw [e] at h3; exact ⟨h3.is⟩
    | bad => rw [e] at h3; exact h3.is.elim
end
section
variable {Q : W → Store → Prop} {X : Ex → Store → Prop} {S : Store} {m : Slots}
/-- the rule of a comprehension: I says of what is left, of what is there and of the store -/
theorem lc_sat {d : Nat} {gd : List (W × List W)} {g : Tgt} {t : TM} {e : EM} (I : List W → List W → Store → Prop)
    (hstep : ∀ x xs acc S, I (x :: xs) acc S → Guards gd S ∧ ∃ m1, g.sem x m = some m1 ∧ (t m1 S).Sat (fun c S2 => if c = true then (e m1 S2).Sat (fun y S3 => S3[d]? = some (.lst acc) ∧ acc.length < SL ∧ I xs (acc ++ [y]) (S3.set d (.lst (acc ++ [y])))) NoX else I xs acc S2) NoX)
    (hend : ∀ acc S, I [] acc S → Guards gd S ∧ Q (.ref d) S) : ∀ {xs acc : List W} {S : Store}, I xs acc S → (lcGo d gd g t e xs m S).Sat Q X
  | [], acc, S, h => by
    obtain ⟨h1, h2⟩ := hend acc S h
    unfold lcGo
    rw [if_pos h1]
    exact ⟨h2⟩
  | x :: xs, acc, S, h => by
    obtain ⟨h1, m1, h2, h3⟩ := hstep x xs acc S h
    unfold lcGo
    rw [if_pos h1, h2]
    simp only [sat_bindN]
    refine h3.use fun c S2 h4 => ?_
    cases c with
    | false => exact lc_sat I hstep hend (acc := acc) h4
    | true =>
      simp only [if_true, sat_bindN] at h4 ⊢
      refine h4.use fun y S3 ⟨h5, h6, h7⟩ => ?_
      rw [h5]
      simp only [if_pos h6]
      exact lc_sat I hstep hend h7
@[simp] theorem sat_lc {own : List Nat} {src : IM} {g : Tgt} {t : TM} {e : EM} : (eLc own src g t e m S).Sat Q X ↔ (src m S).Sat (fun p S1 => (lcGo S1.length p.2 g t e p.1 (wipeW m own) (S1 ++ [.lst []])).Sat Q X) X := by simp [eLc]
theorem fn_sat {n : Nat} {b : SM} {ws : List W} (h : (b (ws.map some ++ List.replicate (n - ws.length) none) S).Sat (fun _ S' => (gc S (.ok .non S')).Sat Q X) (fun w S' => (gc S (.ok w S')).Sat Q X) (fun _ _ => False) (fun _ _ => False) fun x _ S' => (gc S (.exc x S')).Sat Q X) : (fnRun n b ws S).Sat Q X := by
  unfold fnRun
  cases e : b (ws.map some ++ List.replicate (n - ws.length) none) S with
  | nx m2 S2 => rw [e] at h; exact h.is
  | rt w S2 => rw [e] at h; exact h.is
  | bk m2 S2 => rw [e] at h; exact h.is.elim
  | ct m2 S2 => rw [e] at h; exact h.is.elim
  | exc x m2 S2 => rw [e] at h; exact h.is
  | bad => rw [e] at h; exact h.is.elim
/-! what a call leaves: the old part, and at most one new list -/
def Part (S B : Store) : Prop := B.length = S.length ∧ ∀ i, i < S.length → B[i]? = S[i]? ∨ ∃ c, B[i]? = some c ∧ oldC S.length c = true
theorem Part.refl : Part S S := ⟨rfl, fun _ _ => .inl rfl⟩
theorem Part.set {i : Nat} {c : Cell} (h : oldC S.length c = true) : Part S (S.set i c) := ⟨by simp, fun j hj => by
  by_cases e : i = j
  · subst e; exact .inr ⟨c, by simp [hj], h⟩
  · left; simp [e]⟩
theorem Part.kept {B E : Store} (p : Part S B) : Kept S (B ++ E) := fun i hi => by
  rw [List.getElem?_append_left (by rw [p.1]; exact hi)]
  exact p.2 i hi
theorem gc_old {w : W} {B E : Store} (p : Part S B) (h : oldW S.length w = true) : gc S (.ok w (B ++ E)) = .ok w B := by
  unfold gc
  dsimp only
  rw [if_pos p.kept, if_pos h, ← p.1, List.take_left]
theorem gc_old0 {w : W} {B : Store} (p : Part S B) (h : oldW S.length w = true) : gc S (.ok w B) = .ok w B := by
  have := gc_old (E := []) p h
  simpa using this
theorem gc_new {j : Nat} {xs : List W} {B E : Store} (p : Part S B) (hj : S.length ≤ j) (e : (B ++ E)[j]? = some (.lst xs)) (h : oldL S.length xs = true) : gc S (.ok (.ref j) (B ++ E)) = .ok (.ref S.length) (B ++ [.lst xs]) := by
  unfold gc
  dsimp only
  have ho : oldW S.length (.ref j) = false := by unfold oldW; simp; omega
  rw [if_pos p.kept, ho]
  simp only [Bool.false_eq_true, if_false]
  rw [e]
  simp only [h, hj, and_self, if_true]
  rw [← p.1, List.take_left]
theorem gc_x {x : Ex} {B E : Store} (p : Part S B) (h : ∀ f w, x.fld = some (f, w) → oldW S.length w = true) : gc S (.exc x (B ++ E)) = .exc x B := by
  unfold gc
  dsimp only
  rw [if_pos ⟨p.kept, h⟩, ← p.1, List.take_left]
end
end PD

namespace PD
open PySem L2
/-! ## drawing from a well: one cell of the store changes, the rest stays, what is new stands behind -/
def st (S : Store) (i : Nat) (c : Cell) (E : Store) : Store := S.set i c ++ E
section
variable {S : Store} {i : Nat} {c c' : Cell} {E F : Store}
theorem st_self (h : S[i]? = some c) : S = st S i c [] := by
  unfold st
  rw [List.append_nil]
  apply List.ext_getElem?
  intro j
  by_cases e : i = j
  · subst e
    rw [List.getElem?_set_self (List.getElem?_eq_some_iff.mp h).1, h]
  · rw [List.getElem?_set_ne e]
@[simp] theorem st_length : (st S i c E).length = S.length + E.length := by simp [st]
@[simp] theorem st_app : st S i c E ++ F = st S i c (E ++ F) := by simp [st]
theorem st_at (h : i < S.length) : (st S i c E)[i]? = some c := by
  unfold st
  rw [List.getElem?_append_left (by simpa using h), List.getElem?_set_self h]
theorem st_lt {j : Nat} (h : j < S.length) (e : i ≠ j) : (st S i c E)[j]? = S[j]? := by
  unfold st
  rw [List.getElem?_append_left (by simpa using h), List.getElem?_set_ne e]
@[simp] theorem st_new {k : Nat} : (st S i c E)[S.length + k]? = E[k]? := by
  unfold st
  rw [List.getElem?_append_right (by simp)]
  simp
theorem st_ge {j : Nat} (h : S.length ≤ j) : (st S i c E)[j]? = E[j - S.length]? := by
  obtain ⟨k, rfl⟩ := Nat.exists_eq_add_of_le h
  rw [st_new, Nat.add_sub_cancel_left]
theorem st_set (h : i < S.length) : (st S i c E).set i c' = st S i c' E := by
  unfold st
  rw [List.set_append_left _ _ (by simpa using h), List.set_set]
@[simp] theorem st_put {k : Nat} : (st S i c E).set (S.length + k) c' = st S i c (E.set k c') := by
  unfold st
  rw [List.set_append_right _ _ (by simp)]
  simp
theorem st_st (h : i < S.length) : st (st S i c E) i c' F = st S i c' (E ++ F) := by
  show (st S i c E).set i c' ++ F = _
  rw [st_set h, st_app]
theorem st_nil_new {k : Nat} : (st S i c E)[(st S i c []).length + k]? = E[k]? := by
  rw [st_length, List.length_nil, Nat.add_zero, st_new]
end
/-- how a kind of well is told: its cell, and how often it may still be drawn from -/
structure Fam where
  P : Cell → Nat → Prop
  old : ∀ {c f} n, P c f → oldC n c = true
  mono : ∀ {c f g}, P c f → g ≤ f → P c g
section
variable {S : Store} {i κ : Nat} {c : Cell} {E : Store} {Q : W → Store → Prop} {X : Ex → Store → Prop} {G : List W → Store → Out W} {args : List W} {φ ψ : W → Prop}
/-- a function that draws at most κ times from its first argument, changes nothing else, and tells a value such that φ -/
structure Gn (F : Fam) (G : List W → Store → Out W) (args : List W) (κ : Nat) (φ : W → Prop) : Prop where
  go : ∀ (S : Store) (i : Nat) (c : Cell) (E : Store) (f : Nat), i < S.length → F.P c f → κ ≤ f → (G (.ref i :: args) (st S i c E)).Sat (fun w S' => ∃ c', S' = st S i c' E ∧ F.P c' (f - κ) ∧ φ w) NoX
/-- the same, and what is told is a new list of values such that φ -/
structure GnL (F : Fam) (G : List W → Store → Out W) (args : List W) (κ : Nat) (φ : List W → Prop) : Prop where
  go : ∀ (S : Store) (i : Nat) (c : Cell) (E : Store) (f : Nat), i < S.length → F.P c f → κ ≤ f → (G (.ref i :: args) (st S i c E)).Sat (fun w S' => ∃ c' xs, w = .ref (S.length + E.length) ∧ S' = st S i c' (E ++ [.lst xs]) ∧ F.P c' (f - κ) ∧ φ xs) NoX
variable {F : Fam}
theorem Gn.of (h : ∀ (S : Store) (i : Nat) (c : Cell) (f : Nat), i < S.length → F.P c f → κ ≤ f → (G (.ref i :: args) (st S i c [])).Sat (fun w S' => ∃ c', S' = st S i c' [] ∧ F.P c' (f - κ) ∧ φ w) NoX) : Gn F G args κ φ := ⟨fun S i c E f h1 h2 h3 => by
  have e : st S i c E = st (st S i c E) i c [] := by rw [st_st h1, List.append_nil]
  rw [e]
  refine (h (st S i c E) i c f (by rw [st_length]; omega) h2 h3).mono (fun w S' ⟨c', e1, e2, e3⟩ => ⟨c', ?_, e2, e3⟩) fun _ _ z => z
  rw [e1, st_st h1, List.append_nil]⟩
theorem GnL.of {φ : List W → Prop} (h : ∀ (S : Store) (i : Nat) (c : Cell) (f : Nat), i < S.length → F.P c f → κ ≤ f → (G (.ref i :: args) (st S i c [])).Sat (fun w S' => ∃ c' xs, w = .ref S.length ∧ S' = st S i c' [.lst xs] ∧ F.P c' (f - κ) ∧ φ xs) NoX) : GnL F G args κ φ := ⟨fun S i c E f h1 h2 h3 => by
  have e : st S i c E = st (st S i c E) i c [] := by rw [st_st h1, List.append_nil]
  rw [e]
  refine (h (st S i c E) i c f (by rw [st_length]; omega) h2 h3).mono (fun w S' ⟨c', xs, e0, e1, e2, e3⟩ => ⟨c', xs, by rw [e0, st_length], ?_, e2, e3⟩) fun _ _ z => z
  rw [e1, st_st h1]⟩
theorem Gn.run {f : Nat} (g : Gn F G args κ φ) (h1 : i < S.length) (h2 : F.P c f) (h3 : κ ≤ f) (k : ∀ c' w, F.P c' (f - κ) → φ w → Q w (st S i c' E)) : (G (.ref i :: args) (st S i c E)).Sat Q X :=
  (g.go S i c E f h1 h2 h3).use fun w S' ⟨c', e1, e2, e3⟩ => by rw [e1]; exact k c' w e2 e3
theorem GnL.run {f : Nat} {φ : List W → Prop} (g : GnL F G args κ φ) (h1 : i < S.length) (h2 : F.P c f) (h3 : κ ≤ f) (k : ∀ c' xs, F.P c' (f - κ) → φ xs → Q (.ref (S.length + E.length)) (st S i c' (E ++ [.lst xs]))) : (G (.ref i :: args) (st S i c E)).Sat Q X :=
  (g.go S i c E f h1 h2 h3).use fun w S' ⟨c', xs, e0, e1, e2, e3⟩ => by rw [e0, e1]; exact k c' xs e2 e3
theorem Gn.imp (g : Gn F G args κ φ) (h : ∀ w, φ w → ψ w) : Gn F G args κ ψ := ⟨fun S i c E f h1 h2 h3 => (g.go S i c E f h1 h2 h3).mono (fun w S' ⟨c', e1, e2, e3⟩ => ⟨c', e1, e2, h w e3⟩) fun _ _ z => z⟩
theorem Gn.more {μ : Nat} (g : Gn F G args κ φ) (h : κ ≤ μ) : Gn F G args μ φ := ⟨fun S i c E f h1 h2 h3 => (g.go S i c E f h1 h2 (Nat.le_trans h h3)).mono (fun w S' ⟨c', e1, e2, e3⟩ => ⟨c', e1, F.mono e2 (by omega), e3⟩) fun _ _ z => z⟩
/-- the end of such a function -/
theorem part_st (h2 : ∀ n, oldC n c = true) : Part (st S i c' []) (st S i c []) := ⟨by simp, fun j hj => by
  rw [st_length, List.length_nil, Nat.add_zero] at hj ⊢
  by_cases e : i = j
  · subst e; exact .inr ⟨c, st_at hj, h2 _⟩
  · left; rw [st_lt hj e, st_lt hj e]⟩
theorem gc_gn {w : W} (h2 : ∀ n, oldC n c = true) (h : oldW S.length w = true) : gc (st S i c' []) (.ok w (st S i c E)) = .ok w (st S i c []) := by
  have := gc_old (S := st S i c' []) (B := st S i c []) (E := E) (w := w) (part_st h2) (by simpa using h)
  rw [← this, st_app, List.nil_append]
theorem gc_gnl {k : Nat} {xs : List W} (h2 : ∀ n, oldC n c = true) (e : E[k]? = some (.lst xs)) (h : oldL S.length xs = true) : gc (st S i c' []) (.ok (.ref (S.length + k)) (st S i c E)) = .ok (.ref S.length) (st S i c [.lst xs]) := by
  have := gc_new (S := st S i c' []) (B := st S i c []) (E := E) (j := S.length + k) (xs := xs) (part_st h2) (by simp) (by simpa using e) (by simpa using h)
  rw [st_app, List.nil_append] at this
  rw [this]
  simp
theorem gc_keep {S S' : Store} {j : Nat} (h : S.length ≤ j) (e : ∀ xs, S'[j]? ≠ some (.lst xs)) : gc S (.ok (.ref j) S') = .ok (.ref j) S' := by
  have ho : oldW S.length (.ref j) = false := by unfold oldW; simp; omega
  unfold gc
  dsimp only
  rw [ho]
  simp only [Bool.false_eq_true, if_false]
  split <;> rfl
theorem gc_dic {S S' : Store} {j : Nat} {kvs : List (W × W)} (h : S.length ≤ j) (e : S'[j]? = some (.dic kvs)) : gc S (.ok (.ref j) S') = .ok (.ref j) S' := gc_keep h fun xs hx => by rw [e] at hx; cases hx
/-- a function's end, by what is told -/
theorem end_gn {w : W} {f κ : Nat} (h : F.P c f) (hf : κ ≤ f) (hw : oldW S.length w = true) (q : φ w) : (gc (st S i c' []) (.ok w (st S i c E))).Sat (fun w S' => ∃ c', S' = st S i c' [] ∧ F.P c' κ ∧ φ w) X := by
  rw [gc_gn (fun n => F.old n h) hw]
  exact ⟨⟨c, rfl, F.mono h hf, q⟩⟩
theorem end_gnl {k : Nat} {xs : List W} {φ : List W → Prop} {f κ : Nat} (h : F.P c f) (hf : κ ≤ f) (e : E[k]? = some (.lst xs)) (hw : oldL S.length xs = true) (q : φ xs) :
    (gc (st S i c' []) (.ok (.ref (S.length + k)) (st S i c E))).Sat (fun w S' => ∃ c' xs, w = .ref S.length ∧ S' = st S i c' [.lst xs] ∧ F.P c' κ ∧ φ xs) X := by
  rw [gc_gnl (fun n => F.old n h) e hw]
  exact ⟨⟨c, xs, rfl, rfl, F.mono h hf, q⟩⟩
end
theorem hSLv : SL = 16777216 := rfl
/-! a walk over a range, a comprehension over it -/
theorem guards_nil {S : Store} : Guards [] S := fun _ h => by cases h
theorem rng_mem {lo : Int} {n : Nat} {x : W} (h : x ∈ rngW lo n) : ∃ k : Nat, k < n ∧ x = .int (lo + k) := by
  unfold rngW at h
  obtain ⟨k, h1, h2⟩ := List.mem_map.mp h
  exact ⟨k, List.mem_range.mp h1, h2.symm⟩
@[simp] theorem rng_length {lo : Int} {n : Nat} : (rngW lo n).length = n := by simp [rngW]
/-- a loop whose body draws: J tells of the slots and of what is new -/
theorem for_gn {F : Fam} {S : Store} {i κ f : Nat} {c : Cell} {E : Store} {v : Nat} {m : Slots} {b : SM} {xs : List W} {N B C : Slots → Store → Prop} {R : W → Store → Prop} {X : Ex → Slots → Store → Prop} {S1 : Store} (J : Nat → Slots → Store → Prop) (hE : S1 = st S i c E) (h0 : i < S.length) (hP : F.P c f) (hf : κ * xs.length ≤ f) (hJ : J 0 m E)
    (body : ∀ (k : Nat) (x : W) (m : Slots) (E' : Store) (c : Cell) (g : Nat), xs[k]? = some x → F.P c g → κ ≤ g → J k m E' →
      (b (m.set v (some x)) (st S i c E')).Sat (fun m2 S2 => ∃ c' E2, S2 = st S i c' E2 ∧ F.P c' (g - κ) ∧ J (k + 1) m2 E2) R N (fun m2 S2 => ∃ c' E2, S2 = st S i c' E2 ∧ F.P c' (g - κ) ∧ J (k + 1) m2 E2) X)
    (fin : ∀ m c' E', J xs.length m E' → F.P c' (f - κ * xs.length) → N m (st S i c' E')) :
    (forGo [] (.nm v) b xs m S1).Sat N R B C X := by
  subst hE
  refine for_sat (fun rest m S' => ∃ k, k + rest.length = xs.length ∧ rest = xs.drop k ∧ ∃ c' E', S' = st S i c' E' ∧ F.P c' (f - κ * k) ∧ J k m E') (fun x rest m S' h => ?_) (fun m S' h => ?_) ?_
  · obtain ⟨k, h1, h2, c', E', rfl, h4, h5⟩ := h
    have hk : xs[k]? = some x := by
      have := congrArg (fun l : List W => l[0]?) h2
      simpa using this.symm
    have hlt : k < xs.length := (List.getElem?_eq_some_iff.mp hk).1
    have hr : rest = xs.drop (k + 1) := by
      have := congrArg List.tail h2
      simpa using this
    have hm : κ * (k + 1) ≤ κ * xs.length := Nat.mul_le_mul_left _ hlt
    rw [Nat.mul_add, Nat.mul_one] at hm
    have nx : ∀ {m2 : Slots} {S2 : Store}, (∃ c2 E2, S2 = st S i c2 E2 ∧ F.P c2 (f - κ * k - κ) ∧ J (k + 1) m2 E2) → ∃ k, k + rest.length = xs.length ∧ rest = xs.drop k ∧ ∃ c' E', S2 = st S i c' E' ∧ F.P c' (f - κ * k) ∧ J k m2 E' := fun ⟨c2, E2, e2, q2, q3⟩ =>
      ⟨k + 1, by rw [List.length_cons] at h1; omega, hr, c2, E2, e2, F.mono q2 (by rw [Nat.mul_add, Nat.mul_one]; omega), q3⟩
    exact ⟨guards_nil, _, rfl, (body k x m E' c' _ hk h4 (by omega) h5).mono (fun _ _ => nx) (fun _ _ h => h) (fun _ _ h => h) (fun _ _ => nx) fun _ _ _ h => h⟩
  · obtain ⟨k, h1, h2, c', E', rfl, h4, h5⟩ := h
    have : k = xs.length := by simpa using h1
    subst this
    exact ⟨guards_nil, fin m c' E' h5 h4⟩
  · exact ⟨0, by simp, by simp, c, E, rfl, by simpa using hP, hJ⟩
/-- a comprehension whose body draws: its k-th item such that φ k -/
theorem lc_gn {F : Fam} {S : Store} {i κ f : Nat} {c : Cell} {E : Store} {Q : W → Store → Prop} {X : Ex → Store → Prop} {v : Nat} {m : Slots} {e : EM} {φ : Nat → W → Prop} {xs : List W} {d : Nat} {S1 : Store} (hd : d = S.length + E.length) (hE : S1 = st S i c (E ++ [.lst []])) (h0 : i < S.length) (hP : F.P c f) (hf : κ * xs.length ≤ f) (hl : xs.length ≤ SL)
    (body : ∀ (k : Nat) (x : W) (acc : List W) (E' : Store) (c : Cell) (g : Nat), xs[k]? = some x → F.P c g → κ ≤ g →
      (e (m.set v (some x)) (st S i c (E ++ .lst acc :: E'))).Sat (fun y S2 => ∃ c' E2, S2 = st S i c' (E ++ .lst acc :: E2) ∧ F.P c' (g - κ) ∧ φ k y) NoX)
    (fin : ∀ ys c' E', ys.length = xs.length → (∀ k y, ys[k]? = some y → φ k y) → F.P c' (f - κ * xs.length) → Q (.ref (S.length + E.length)) (st S i c' (E ++ .lst ys :: E'))) :
    (lcGo d [] (.nm v) ttYes e xs m S1).Sat Q X := by
  subst hd hE
  refine lc_sat (fun rest acc S' => acc.length ≤ xs.length ∧ rest = xs.drop acc.length ∧ (∀ k y, acc[k]? = some y → φ k y) ∧ ∃ c' E', S' = st S i c' (E ++ .lst acc :: E') ∧ F.P c' (f - κ * acc.length)) (fun x rest acc S' h => ?_) (fun acc S' h => ?_) (acc := []) ?_
  · obtain ⟨h1, h2, h3, c', E', rfl, h4⟩ := h
    have hk : xs[acc.length]? = some x := by
      have := congrArg (fun l : List W => l[0]?) h2
      simpa using this.symm
    have hlt : acc.length < xs.length := (List.getElem?_eq_some_iff.mp hk).1
    have hr : rest = xs.drop (acc.length + 1) := by
      have := congrArg List.tail h2
      simpa using this
    have hm : κ * (acc.length + 1) ≤ κ * xs.length := Nat.mul_le_mul_left _ hlt
    rw [Nat.mul_add, Nat.mul_one] at hm
    refine ⟨guards_nil, _, rfl, ?_⟩
    simp only [sat_tyes, if_true]
    refine (body acc.length x acc E' c' _ hk h4 (by omega)).use fun y S2 ⟨c2, E2, e2, q2, q3⟩ => ?_
    subst e2
    refine ⟨by rw [st_new]; simp, by omega, by simp; omega, by simpa using hr, fun k z hz => ?_, c2, E2, ?_, ?_⟩
    · by_cases hk2 : k < acc.length
      · rw [List.getElem?_append_left hk2] at hz
        exact h3 k z hz
      · have hkk : k = acc.length := by
          have := (List.getElem?_eq_some_iff.mp hz).1
          simp at this; omega
        subst hkk
        simp at hz
        subst hz
        exact q3
    · rw [st_put]; simp
    · rw [List.length_append, List.length_singleton, Nat.mul_add, Nat.mul_one]
      exact F.mono q2 (by omega)
  · obtain ⟨h1, h2, h3, c', E', rfl, h4⟩ := h
    have : acc.length = xs.length := by
      have := congrArg List.length h2
      simp at this
      omega
    exact ⟨guards_nil, fin acc c' E' this h3 (by rw [← this]; exact h4)⟩
  · exact ⟨Nat.zero_le _, rfl, fun k y h => by simp at h, c, [], rfl, by simpa using hP⟩
end PD

namespace PD
open PySem L2
/-! ## equality of trees; the operators' answers -/
def okS (s : List Nat) : Bool := s.all fun c => decide (c < 1114112)
mutual
/-- a value in which nothing mutable stands -/
def plainW : W → Bool
  | .str s => okS s
  | .tup xs => plainL xs
  | .ref _ => false
  | _ => true
def plainL : List W → Bool
  | [] => true
  | x :: xs => plainW x && plainL xs
end
mutual
def depW : W → Nat
  | .tup xs => depL xs + 1
  | _ => 0
def depL : List W → Nat
  | [] => 0
  | x :: xs => max (depW x) (depL xs)
end
mutual
def eqW : W → W → Bool
  | .non, .non => true
  | .bl a, .bl b => a == b
  | .bl a, .int b => (if a then 1 else 0) == b
  | .int a, .bl b => a == (if b then 1 else 0)
  | .int a, .int b => a == b
  | .str a, .str b => a == b
  | .tup a, .tup b => eqL a b
  | _, _ => false
def eqL : List W → List W → Bool
  | [], [] => true
  | x :: xs, y :: ys => eqW x y && eqL xs ys
  | _, _ => false
end
theorem strOk_of {s : List Nat} (h : okS s = true) : PyData.strOk ⟨s.toArray⟩ = true := by
  unfold PyData.strOk
  simpa [okS] using h
mutual
theorem dat_of (S : Store) (n : Nat) : ∀ {w : W}, plainW w = true → ∃ d, dat S n w = some d ∧ d.canLay0 = true ∧ d.depth = depW w
  | .non, _ => ⟨.none, by simp only [dat], by simp only [PyData.canLay0], by simp only [PyData.depth, depW]⟩
  | .bl b, _ => ⟨.bool b, by simp only [dat], by simp only [PyData.canLay0], by simp only [PyData.depth, depW]⟩
  | .int i, _ => ⟨.int i, by simp only [dat], by simp only [PyData.canLay0], by simp only [PyData.depth, depW]⟩
  | .str s, h => ⟨.str ⟨s.toArray⟩, by simp only [dat], by simp only [PyData.canLay0]; exact strOk_of (by simpa [plainW] using h), by simp only [PyData.depth, depW]⟩
  | .tup xs, h => by
    obtain ⟨ds, e, h1, h2⟩ := datL_of S n (xs := xs) (by simpa [plainW] using h)
    exact ⟨.tuple ds, by simp only [dat, e, Option.map_some], by simpa only [PyData.canLay0] using h1, by simp only [PyData.depth, depW, h2]⟩
  | .ref _, h => by simp [plainW] at h
theorem datL_of (S : Store) (n : Nat) : ∀ {xs : List W}, plainL xs = true → ∃ ds, datL S n xs = some ds ∧ PyData.canLayAll0 ds = true ∧ PyData.depthAll ds = depL xs
  | [], _ => ⟨[], by simp only [datL], by simp only [PyData.canLayAll0], by simp only [PyData.depthAll, depL]⟩
  | x :: xs, h => by
    have h' : plainW x = true ∧ plainL xs = true := by simpa [plainL] using h
    obtain ⟨d, e, h1, h2⟩ := dat_of S n h'.1
    obtain ⟨ds, e', h3, h4⟩ := datL_of S n h'.2
    exact ⟨d :: ds, by simp only [datL, e, e', Option.bind_some, Option.map_some], by simp only [PyData.canLayAll0, h1, h3, Bool.and_self], by simp only [PyData.depthAll, depL, h2, h4]⟩
end
theorem datL_some {S : Store} {n : Nat} {xs : List W} {d : PyData} (h : dat S n (.tup xs) = some d) : ∃ ds, datL S n xs = some ds ∧ d = .tuple ds := by
  simp only [dat] at h
  obtain ⟨ds, h1, h2⟩ := Option.map_eq_some_iff.mp h
  exact ⟨ds, h1, h2.symm⟩
mutual
theorem eqv_of {S S' : Store} {n n' : Nat} : ∀ {a b : W} {d e : PyData}, plainW a = true → plainW b = true → dat S n a = some d → dat S' n' b = some e → PyData.eqv d e = eqW a b
  | .non, b, d, e, _, hb, h1, h2 => by
    simp only [dat, Option.some.injEq] at h1; subst h1
    cases b with
    | tup ys => obtain ⟨es, _, rfl⟩ := datL_some h2; simp only [PyData.eqv, eqW]
    | ref _ => simp [plainW] at hb
    | _ => simp only [dat, Option.some.injEq] at h2; subst h2; simp only [PyData.eqv, eqW]
  | .bl x, b, d, e, _, hb, h1, h2 => by
    simp only [dat, Option.some.injEq] at h1; subst h1
    cases b with
    | tup ys => obtain ⟨es, _, rfl⟩ := datL_some h2; simp only [PyData.eqv, eqW]
    | ref _ => simp [plainW] at hb
    | _ => simp only [dat, Option.some.injEq] at h2; subst h2; simp only [PyData.eqv, eqW]
  | .int x, b, d, e, _, hb, h1, h2 => by
    simp only [dat, Option.some.injEq] at h1; subst h1
    cases b with
    | tup ys => obtain ⟨es, _, rfl⟩ := datL_some h2; simp only [PyData.eqv, eqW]
    | ref _ => simp [plainW] at hb
    | _ => simp only [dat, Option.some.injEq] at h2; subst h2; simp only [PyData.eqv, eqW]
  | .str x, b, d, e, _, hb, h1, h2 => by
    simp only [dat, Option.some.injEq] at h1; subst h1
    cases b with
    | tup ys => obtain ⟨es, _, rfl⟩ := datL_some h2; simp only [PyData.eqv, eqW]
    | ref _ => simp [plainW] at hb
    | str y =>
      simp only [dat, Option.some.injEq] at h2; subst h2; simp only [PyData.eqv, eqW]
      by_cases h : x = y
      · subst h; simp
      · have : ¬ ((⟨x.toArray⟩ : Str) = ⟨y.toArray⟩) := fun z => h (by simpa using z)
        rw [beq_eq_false_iff_ne.mpr this, beq_eq_false_iff_ne.mpr h]
    | _ => simp only [dat, Option.some.injEq] at h2; subst h2; simp only [PyData.eqv, eqW]
  | .tup xs, b, d, e, ha, hb, h1, h2 => by
    obtain ⟨ds, q, rfl⟩ := datL_some h1
    cases b with
    | tup ys =>
      obtain ⟨es, q2, rfl⟩ := datL_some h2
      simp only [PyData.eqv, eqW]
      exact eqvL_of (by simpa [plainW] using ha) (by simpa [plainW] using hb) q q2
    | ref _ => simp [plainW] at hb
    | _ => simp only [dat, Option.some.injEq] at h2; subst h2; simp only [PyData.eqv, eqW]
  | .ref _, b, d, e, ha, _, _, _ => by simp [plainW] at ha
theorem eqvL_of {S S' : Store} {n n' : Nat} : ∀ {a b : List W} {d e : List PyData}, plainL a = true → plainL b = true → datL S n a = some d → datL S' n' b = some e → PyData.eqvAll d e = eqL a b
  | [], b, d, e, _, hb, h1, h2 => by
    simp only [datL, Option.some.injEq] at h1; subst h1
    cases b with
    | nil => simp only [datL, Option.some.injEq] at h2; subst h2; simp only [PyData.eqvAll, eqL]
    | cons y ys =>
      simp only [datL] at h2
      obtain ⟨u, h3, h4⟩ := Option.bind_eq_some_iff.mp h2
      obtain ⟨us, h5, rfl⟩ := Option.map_eq_some_iff.mp h4
      simp only [PyData.eqvAll, eqL]
  | x :: xs, b, d, e, ha, hb, h1, h2 => by
    have ha' : plainW x = true ∧ plainL xs = true := by simpa [plainL] using ha
    simp only [datL] at h1
    obtain ⟨v, h6, h7⟩ := Option.bind_eq_some_iff.mp h1
    obtain ⟨vs, h8, rfl⟩ := Option.map_eq_some_iff.mp h7
    cases b with
    | nil => simp only [datL, Option.some.injEq] at h2; subst h2; simp only [PyData.eqvAll, eqL]
    | cons y ys =>
      have hb' : plainW y = true ∧ plainL ys = true := by simpa [plainL] using hb
      simp only [datL] at h2
      obtain ⟨u, h3, h4⟩ := Option.bind_eq_some_iff.mp h2
      obtain ⟨us, h5, rfl⟩ := Option.map_eq_some_iff.mp h4
      simp only [PyData.eqvAll, eqL]
      rw [eqv_of ha'.1 hb'.1 h6 h3, eqvL_of ha'.2 hb'.2 h8 h5]
end
theorem shaped_of {S : Store} {n : Nat} {w : W} {d : PyData} (h : plainW w = true) (hd : depW w ≤ 64) (e : dat S n w = some d) : SeqAt.shaped d = true := by
  obtain ⟨d', e', h1, h2⟩ := dat_of S n h
  rw [e] at e'
  cases e'
  unfold SeqAt.shaped
  rw [h1, h2]
  simpa using hd
theorem opEq_plain {a b : W} {S : Store} (ha : plainW a = true) (hb : plainW b = true) (da : depW a ≤ 64) (db : depW b ≤ 64) : opEq a b S = .ok (.bl (eqW a b)) S := by
  obtain ⟨d, e1, _⟩ := dat_of S 9 ha
  obtain ⟨e, e2, _⟩ := dat_of S 9 hb
  unfold opEq
  rw [e1, e2]
  simp only [shaped_of ha da e1, shaped_of hb db e2, and_self, if_true, eqv_of ha hb e1 e2]
theorem opNe_plain {a b : W} {S : Store} (ha : plainW a = true) (hb : plainW b = true) (da : depW a ≤ 64) (db : depW b ≤ 64) : opNe a b S = .ok (.bl (!eqW a b)) S := by
  obtain ⟨d, e1, _⟩ := dat_of S 9 ha
  obtain ⟨e, e2, _⟩ := dat_of S 9 hb
  unfold opNe
  rw [e1, e2]
  simp only [shaped_of ha da e1, shaped_of hb db e2, and_self, if_true, eqv_of ha hb e1 e2]
section
variable {Q : W → Store → Prop} {X : Ex → Store → Prop} {S : Store} {a b : Int} {s t : List Nat}
theorem sat_ite {α : Type} {p : Prop} [Decidable p] {o : Out α} {Q : α → Store → Prop} : (if p then o else .bad).Sat Q X ↔ (p ∧ o.Sat Q X) := by
  by_cases h : p <;> simp [h]
@[simp] theorem q_add_i : (opAdd (.int a) (.int b) S).Sat Q X ↔ Q (.int (a + b)) S := sat_ok
@[simp] theorem q_add_s : (opAdd (.str s) (.str t) S).Sat Q X ↔ (s.length + t.length ≤ SL ∧ Q (.str (s ++ t)) S) := by
  simp only [opAdd, sat_ite, sat_ok]
@[simp] theorem q_add_t {x y : List W} : (opAdd (.tup x) (.tup y) S).Sat Q X ↔ (x.length + y.length ≤ SL ∧ Q (.tup (x ++ y)) S) := by
  simp only [opAdd, sat_ite, sat_ok]
@[simp] theorem q_sub_i : (opSub (.int a) (.int b) S).Sat Q X ↔ Q (.int (a - b)) S := sat_ok
@[simp] theorem q_mul_i : (opMul (.int a) (.int b) S).Sat Q X ↔ (((-(2 ^ 64) < a ∧ a < 2 ^ 64) ∨ (-(2 ^ 64) < b ∧ b < 2 ^ 64)) ∧ Q (.int (a * b)) S) := by
  simp only [opMul, sat_ite, sat_ok]
@[simp] theorem q_fdiv_i : (opFdiv (.int a) (.int b) S).Sat Q X ↔ ((0 < b ∧ b.natAbs < 2 ^ 256) ∧ Q (.int (a / b)) S) := by
  simp only [opFdiv, sat_ite, sat_ok]
@[simp] theorem q_mod_i : (opMod (.int a) (.int b) S).Sat Q X ↔ (0 < b ∧ Q (.int (a % b)) S) := by
  simp only [opMod, sat_ite, sat_ok]
@[simp] theorem q_pow_i : (opPow (.int a) (.int b) S).Sat Q X ↔ ((0 ≤ b ∧ b ≤ 1000000 ∧ a.natAbs < 2 ^ 64) ∧ Q (.int (a ^ b.toNat)) S) := by
  simp only [opPow, sat_ite, sat_ok]
@[simp] theorem q_neg_i : (unNeg (.int a) S).Sat Q X ↔ Q (.int (-a)) S := sat_ok
@[simp] theorem q_lt_i : (opLt (.int a) (.int b) S).Sat Q X ↔ Q (.bl (decide (a < b))) S := sat_ok
@[simp] theorem q_le_i : (opLe (.int a) (.int b) S).Sat Q X ↔ Q (.bl (decide (a ≤ b))) S := sat_ok
@[simp] theorem q_gt_i : (opGt (.int a) (.int b) S).Sat Q X ↔ Q (.bl (decide (b < a))) S := sat_ok
@[simp] theorem q_ge_i : (opGe (.int a) (.int b) S).Sat Q X ↔ Q (.bl (decide (b ≤ a))) S := sat_ok
@[simp] theorem q_le_s : (opLe (.str s) (.str t) S).Sat Q X ↔ Q (.bl (!decide (t < s))) S := sat_ok
@[simp] theorem q_eq_i : (opEq (.int a) (.int b) S).Sat Q X ↔ Q (.bl (decide (a = b))) S := by
  rw [opEq_plain (by simp [plainW]) (by simp [plainW]) (by simp [depW]) (by simp [depW])]
  have e : eqW (.int a) (.int b) = decide (a = b) := by simp only [eqW]; by_cases h : a = b <;> simp [h]
  rw [e]; exact sat_ok
@[simp] theorem q_ne_i : (opNe (.int a) (.int b) S).Sat Q X ↔ Q (.bl (!decide (a = b))) S := by
  rw [opNe_plain (by simp [plainW]) (by simp [plainW]) (by simp [depW]) (by simp [depW])]
  have e : eqW (.int a) (.int b) = decide (a = b) := by simp only [eqW]; by_cases h : a = b <;> simp [h]
  rw [e]; exact sat_ok
@[simp] theorem q_ne_b {a b : Bool} : (opNe (.bl a) (.bl b) S).Sat Q X ↔ Q (.bl (!(a == b))) S := by
  rw [opNe_plain (by simp [plainW]) (by simp [plainW]) (by simp [depW]) (by simp [depW])]
  simp [eqW]
theorem q_eq_s (hs : okS s = true) (ht : okS t = true) : (opEq (.str s) (.str t) S).Sat Q X ↔ Q (.bl (decide (s = t))) S := by
  rw [opEq_plain (by simpa [plainW] using hs) (by simpa [plainW] using ht) (by simp [depW]) (by simp [depW])]
  have : eqW (.str s) (.str t) = decide (s = t) := by simp only [eqW]; by_cases h : s = t <;> simp [h]
  rw [this]; exact sat_ok
@[simp] theorem q_is_non {w : W} : (opIs w .non S).Sat Q X ↔ Q (.bl (isNon w)) S := by cases w <;> exact sat_ok
@[simp] theorem q_isnot_non {w : W} : (opIsNot w .non S).Sat Q X ↔ Q (.bl (!isNon w)) S := by cases w <;> exact sat_ok
@[simp] theorem q_is_b {x y : Bool} : (opIs (.bl x) (.bl y) S).Sat Q X ↔ Q (.bl (decide (x = y))) S := sat_ok
@[simp] theorem q_in {x c : W} : (opIn x c S).Sat Q X ↔ ∃ k, inW x c S = some k ∧ Q (.bl k) S := by
  unfold opIn
  split
  · rename_i k h; rw [h]; exact ⟨fun q => ⟨k, rfl, q.is⟩, fun ⟨j, e, q⟩ => by cases e; exact ⟨q⟩⟩
  · rename_i h; rw [h]; exact ⟨fun q => q.is.elim, fun ⟨j, e, q⟩ => by cases e⟩
@[simp] theorem q_notin {x c : W} : (opNotIn x c S).Sat Q X ↔ ∃ k, inW x c S = some k ∧ Q (.bl (!k)) S := by
  unfold opNotIn
  split
  · rename_i k h; rw [h]; exact ⟨fun q => ⟨k, rfl, q.is⟩, fun ⟨j, e, q⟩ => by cases e; exact ⟨q⟩⟩
  · rename_i h; rw [h]; exact ⟨fun q => q.is.elim, fun ⟨j, e, q⟩ => by cases e⟩
@[simp] theorem in_sign {c : Nat} {S : Store} : inW (.str [c]) (.str s) S = some (decide (c ∈ s)) := by simp [inW]
/-- places -/
theorem q_ix_s {i : Int} (h : s.length ≤ SL) : (ixW (.str s) (.int i) S).Sat Q X ↔ ∃ c, atI s i = some c ∧ Q (.str [c]) S := by
  simp only [ixW, if_pos h]
  split
  · rename_i c e; rw [e]; exact ⟨fun q => ⟨c, rfl, q.is⟩, fun ⟨j, e, q⟩ => by cases e; exact ⟨q⟩⟩
  · rename_i e; rw [e]; exact ⟨fun q => q.is.elim, fun ⟨j, e, q⟩ => by cases e⟩
@[simp] theorem q_ix_t {xs : List W} {i : Int} : (ixW (.tup xs) (.int i) S).Sat Q X ↔ ∃ c, atI xs i = some c ∧ Q c S := by
  simp only [ixW]
  split
  · rename_i c e; rw [e]; exact ⟨fun q => ⟨c, rfl, q.is⟩, fun ⟨j, e, q⟩ => by cases e; exact ⟨q⟩⟩
  · rename_i e; rw [e]; exact ⟨fun q => q.is.elim, fun ⟨j, e, q⟩ => by cases e⟩
theorem q_ix_l {p : Nat} {xs : List W} {i : Int} (h : S[p]? = some (.lst xs)) : (ixW (.ref p) (.int i) S).Sat Q X ↔ ∃ c, atI xs i = some c ∧ Q c S := by
  simp only [ixW, h]
  split
  · rename_i c e; rw [e]; exact ⟨fun q => ⟨c, rfl, q.is⟩, fun ⟨j, e, q⟩ => by cases e; exact ⟨q⟩⟩
  · rename_i e; rw [e]; exact ⟨fun q => q.is.elim, fun ⟨j, e, q⟩ => by cases e⟩
theorem q_ix_scr {p : Nat} {xs : List W} {i : Int} (h : S[p]? = some (.scr xs)) : (ixW (.ref p) (.int i) S).Sat Q X ↔ ∃ c, atI xs i = some c ∧ Q c S := by
  simp only [ixW, h]
  split
  · rename_i c e; rw [e]; exact ⟨fun q => ⟨c, rfl, q.is⟩, fun ⟨j, e, q⟩ => by cases e; exact ⟨q⟩⟩
  · rename_i e; rw [e]; exact ⟨fun q => q.is.elim, fun ⟨j, e, q⟩ => by cases e⟩
theorem atI_nat {α : Type} {xs : List α} {i : Int} (h0 : 0 ≤ i) (h1 : i < xs.length) : atI xs i = xs[i.toNat]? := by
  unfold atI ixN
  rw [if_pos h0, if_pos h1]
  rfl
theorem atI_ex {α : Type} {xs : List α} {i : Int} (h0 : 0 ≤ i) (h1 : i < xs.length) : ∃ c, atI xs i = some c ∧ c ∈ xs := by
  rw [atI_nat h0 h1]
  have : i.toNat < xs.length := by omega
  exact ⟨xs[i.toNat], List.getElem?_eq_getElem this, List.getElem_mem this⟩
theorem atI_all {α : Type} {xs : List α} {i : Int} (p : α → Bool) (hp : xs.all p = true) (h0 : 0 ≤ i) (h1 : i < xs.length) : ∃ c, atI xs i = some c ∧ p c = true := by
  obtain ⟨c, e, h⟩ := atI_ex h0 h1
  exact ⟨c, e, List.all_eq_true.mp hp c h⟩
@[simp] theorem atI_0 {α : Type} {x : α} {xs : List α} : atI (x :: xs) 0 = some x := by
  rw [atI_nat (by omega) (by simp)]; rfl
@[simp] theorem atI_1 {α : Type} {x y : α} {xs : List α} : atI (x :: y :: xs) 1 = some y := by
  rw [atI_nat (by omega) (by simp; omega)]; rfl
@[simp] theorem atI_2 {α : Type} {x y z : α} {xs : List α} : atI (x :: y :: z :: xs) 2 = some z := by
  rw [atI_nat (by omega) (by simp; omega)]; rfl
@[simp] theorem atI_3 {α : Type} {x y z u : α} {xs : List α} : atI (x :: y :: z :: u :: xs) 3 = some u := by
  rw [atI_nat (by omega) (by simp; omega)]; rfl
theorem set_l {p : Nat} {xs : List W} {i : Int} {v : W} (h : S[p]? = some (.lst xs)) (h0 : 0 ≤ i) (h1 : i < xs.length) : setW (.ref p) (.int i) v S = some (S.set p (.lst (xs.set i.toNat v))) := by
  simp only [setW, h, ixN, if_pos h0, if_pos h1]
@[simp] theorem q_sl_s {lo hi : Option Int} : (slW (.str s) lo hi S).Sat Q X ↔ (s.length ≤ SL ∧ Q (.str (cutW s lo hi)) S) := by
  simp only [slW, sat_ite, sat_ok]
@[simp] theorem q_sl_t {xs : List W} {lo hi : Option Int} : (slW (.tup xs) lo hi S).Sat Q X ↔ Q (.tup (cutW xs lo hi)) S := sat_ok
theorem q_sl_l {p : Nat} {xs : List W} {lo hi : Option Int} (h : S[p]? = some (.lst xs)) : (slW (.ref p) lo hi S).Sat Q X ↔ Q (.ref S.length) (S ++ [.lst (cutW xs lo hi)]) := by
  simp only [slW, h, sat_ok]
theorem cut_len {α : Type} {xs : List α} {lo hi : Option Int} : (cutW xs lo hi).length ≤ xs.length := by
  unfold cutW
  rw [List.length_take, List.length_drop]
  omega
theorem cut_mem {α : Type} {xs : List α} {lo hi : Option Int} {x : α} (h : x ∈ cutW xs lo hi) : x ∈ xs := List.mem_of_mem_drop (List.mem_of_mem_take h)
/-- built-in functions -/
@[simp] theorem q_len_s : (bnRun .len [.str s] S).Sat Q X ↔ (s.length ≤ SL ∧ Q (.int s.length) S) := by
  simp only [bnRun, biLen, sat_ite, sat_ok]
@[simp] theorem q_len_t {xs : List W} : (bnRun .len [.tup xs] S).Sat Q X ↔ Q (.int xs.length) S := sat_ok
theorem q_len_l {p : Nat} {xs : List W} (h : S[p]? = some (.lst xs)) : (bnRun .len [.ref p] S).Sat Q X ↔ Q (.int xs.length) S := by
  simp [bnRun, biLen, h]
theorem q_len_scr {p : Nat} {xs : List W} (h : S[p]? = some (.scr xs)) : (bnRun .len [.ref p] S).Sat Q X ↔ Q (.int xs.length) S := by
  simp [bnRun, biLen, h]
@[simp] theorem q_abs : (bnRun .abs [.int a] S).Sat Q X ↔ Q (.int (if a < 0 then -a else a)) S := sat_ok
@[simp] theorem q_int_i : (bnRun .int [.int a] S).Sat Q X ↔ Q (.int a) S := sat_ok
@[simp] theorem q_int_b {k : Bool} : (bnRun .int [.bl k] S).Sat Q X ↔ Q (.int (if k then 1 else 0)) S := sat_ok
@[simp] theorem q_ord {c : Nat} : (bnRun .ord [.str [c]] S).Sat Q X ↔ Q (.int c) S := sat_ok
@[simp] theorem q_max : (bnRun .max [.int a, .int b] S).Sat Q X ↔ Q (.int (max a b)) S := by
  simp only [bnRun, biMax, sat_ok]
  have : (if b > a then b else a) = max a b := by omega
  rw [this]
@[simp] theorem q_min : (bnRun .min [.int a, .int b] S).Sat Q X ↔ Q (.int (min a b)) S := by
  simp only [bnRun, biMin, sat_ok]
  have : (if b < a then b else a) = min a b := by omega
  rw [this]
theorem items_l {p : Nat} {xs : List W} (h : S[p]? = some (.lst xs)) : itemsOf (.ref p) S = some xs := by simp only [itemsOf, h]
theorem items_scr {p : Nat} {xs : List W} (h : S[p]? = some (.scr xs)) : itemsOf (.ref p) S = some xs := by simp only [itemsOf, h]
theorem q_join {w : W} {ys : List W} {ts : List (List Nat)} (e1 : itemsOf w S = some ys) (e2 : txtsW ys = some ts) (h : (ts.map List.length).sum + ts.length * s.length ≤ SL) (q : Q (.str (TL.joinL s ts)) S) : (bmRun .join (.str s) [w] S).Sat Q X := by
  simp only [bmRun, e1, Option.bind_some, e2, if_pos h]
  exact ⟨q⟩
theorem txts_signs {P : Nat → Prop} : ∀ {ys : List W}, (∀ y ∈ ys, ∃ c : Nat, y = W.str [c] ∧ P c) → ∃ cs : List Nat, txtsW ys = some (cs.map fun c => [c]) ∧ cs.length = ys.length ∧ ∀ c ∈ cs, P c
  | [], _ => ⟨[], rfl, rfl, by simp⟩
  | y :: ys, h => by
    obtain ⟨c, rfl, hc⟩ := h y (by simp)
    obtain ⟨cs, e, hl, hp⟩ := txts_signs (ys := ys) fun z hz => h z (by simp [hz])
    exact ⟨c :: cs, by simp [txtsW, e], by simp [hl], by simpa using ⟨hc, hp⟩⟩
theorem join_signs : ∀ cs : List Nat, TL.joinL [] (cs.map fun c => [c]) = cs
  | [] => rfl
  | [c] => rfl
  | c :: d :: cs => by
    have := join_signs (d :: cs)
    simp [TL.joinL] at this ⊢
    exact this
theorem sum_signs (cs : List Nat) : ((cs.map fun c => [c]).map List.length).sum = cs.length := by induction cs <;> simp_all <;> omega
/-- signs joined -/
theorem q_signs {w : W} {ys : List W} {P : Nat → Prop} (e1 : itemsOf w S = some ys) (hy : ∀ (k : Nat) (y : W), ys[k]? = some y → ∃ c : Nat, y = W.str [c] ∧ P c) (hl : ys.length ≤ SL) (q : ∀ cs : List Nat, cs.length = ys.length → (∀ c ∈ cs, P c) → Q (.str cs) S) : (bmRun .join (.str []) [w] S).Sat Q X := by
  obtain ⟨cs, h1, h2, h3⟩ := txts_signs (P := P) fun y h => by
    obtain ⟨k, hk⟩ := List.getElem?_of_mem h
    exact hy k y hk
  refine q_join e1 h1 (by rw [sum_signs]; simp; omega) ?_
  rw [join_signs]
  exact q cs h2 h3
@[simp] theorem sat_dgo0 {m : Slots} {Q : List (W × W) → Store → Prop} : (dGo [] m S).Sat Q X ↔ Q [] S := sat_ok
@[simp] theorem sat_dgo {k v : EM} {r : List (EM × EM)} {m : Slots} {Q : List (W × W) → Store → Prop} : (dGo ((k, v) :: r) m S).Sat Q X ↔ (k m S).Sat (fun x S1 => (v m S1).Sat (fun y S2 => (dGo r m S2).Sat (fun ps S3 => Q ((x, y) :: ps) S3) X) X) X := by
  simp only [dGo, sat_bind, sat_ok]
theorem sat_disp {prs : List (EM × EM)} {m : Slots} : (eDisp prs m S).Sat Q X ↔ (dGo prs m (S ++ [.dic []])).Sat (fun ps S1 => S1[S.length]? = some (.dic []) ∧ ((ps.all fun p => keyW p.1) = true ∧ ps.length ≤ 15) ∧ Q (.ref S.length) (S1.set S.length (.dic (mergeD [] ps)))) X := by
  simp only [eDisp, sat_bind]
  constructor <;> intro h <;> refine h.mono (fun x S1 h => ?_) fun _ _ h => h
  · split at h
    · rw [sat_ite, sat_ok] at h; exact ⟨‹_›, h⟩
    · exact h.is.elim
  · obtain ⟨h1, h2⟩ := h
    rw [h1]
    dsimp only
    rw [sat_ite, sat_ok]
    exact h2
/-- walks -/
@[simp] theorem q_rng1 {m : Slots} {e : EM} {Q : Walked → Store → Prop} : (iRng1W e m S).Sat Q X ↔ (e m S).Sat (fun x S1 => match x with
    | .int j => (-(2 ^ 62) ≤ j ∧ j < 2 ^ 62) ∧ Q (rngW 0 j.toNat, []) S1
    | _ => False) X := by
  simp only [iRng1W, sat_bind]
  constructor <;> intro h <;> refine h.mono (fun x S1 h => ?_) fun _ _ h => h
  · cases x with
    | int j => dsimp only at h ⊢; split at h; exact ⟨‹_›, h.is⟩; exact h.is.elim
    | _ => exact h.is
  · cases x with
    | int j => dsimp only at h ⊢; rw [if_pos h.1]; exact ⟨h.2⟩
    | _ => exact h.elim
@[simp] theorem q_any_s {m : Slots} {e : EM} {Q : Walked → Store → Prop} : (iAny e m S).Sat Q X ↔ (e m S).Sat (fun x S1 => match x with
  | .tup xs => Q (xs, []) S1
  | .str s => Q (s.map fun c => .str [c], []) S1
  | .ref i => (match S1[i]? with
    | some (.lst xs) => Q (xs, [(.ref i, xs)]) S1
    | some (.scr xs) => Q (xs, [(.ref i, xs)]) S1
    | _ => False)
  | _ => False) X := by
  simp only [iAny, sat_bind]
  constructor <;> intro h <;> refine h.mono (fun x S1 h => ?_) fun _ _ h => h
  · cases x with
    | ref j => dsimp only at h ⊢; split at h <;> simp_all
    | _ => exact h.is
  · cases x with
    | ref j => dsimp only at h ⊢; split at h <;> simp_all
    | _ => exact ⟨h⟩
/-- a comprehension whose parts change nothing -/
theorem lc_pure {gd : List (W × List W)} {xs : List W} {m : Slots} {v : Nat} {tt : TM} {e : EM} {d : Nat} {S1 : Store} (hd : d = S.length) (hE : S1 = S ++ [.lst []]) (tb : W → Bool) (g : W → W) (hg : ∀ E, Guards gd (S ++ E)) (hl : xs.length ≤ SL)
    (ht : ∀ x ∈ xs, ∀ E, (tt (m.set v (some x)) (S ++ E)).Sat (fun b S2 => b = tb x ∧ S2 = S ++ E) NoX)
    (he : ∀ x ∈ xs, tb x = true → ∀ E, (e (m.set v (some x)) (S ++ E)).Sat (fun y S2 => y = g x ∧ S2 = S ++ E) NoX)
    (q : Q (.ref S.length) (S ++ [.lst ((xs.filter tb).map g)])) : (lcGo d gd (.nm v) tt e xs m S1).Sat Q X := by
  subst hd hE
  refine lc_sat (fun rest acc S' => ∃ done, done ++ rest = xs ∧ acc = (done.filter tb).map g ∧ S' = S ++ [.lst acc]) (fun x rest acc S' h => ?_) (fun acc S' h => ?_) (acc := []) ⟨[], rfl, rfl, rfl⟩
  · obtain ⟨done, h1, h2, rfl⟩ := h
    have hx : x ∈ xs := by rw [← h1]; simp
    refine ⟨hg _, _, rfl, (ht x hx _).mono (fun b S2 ⟨e1, e2⟩ => ?_) fun _ _ z => z⟩
    subst e1 e2
    split
    · rename_i hb
      refine (he x hx hb _).mono (fun y S3 ⟨e3, e4⟩ => ?_) fun _ _ z => z
      subst e3 e4
      have hlen : acc.length < xs.length := by
        rw [h2, List.length_map, ← h1, List.length_append, List.length_cons]
        have := List.length_filter_le tb done
        omega
      refine ⟨by simp, by omega, done ++ [x], by rw [← h1]; simp, ?_, ?_⟩
      · rw [h2]; simp [List.filter_cons, hb]
      · simp
    · rename_i hb
      refine ⟨done ++ [x], by rw [← h1]; simp, ?_, rfl⟩
      rw [h2]; simp [List.filter_cons, hb]
  · obtain ⟨done, h1, h2, rfl⟩ := h
    simp at h1
    subst h1
    exact ⟨hg _, by rw [h2]; exact q⟩
theorem bls_map {α : Type} (p : α → Bool) : ∀ xs : List α, blsW (xs.map fun x => .bl (p x)) = some (xs.map p)
  | [] => rfl
  | x :: xs => by simp [blsW, bls_map p xs]
theorem q_all {p : Nat} {ys : List W} {bs : List Bool} (h : S[p]? = some (.lst ys)) (e : blsW ys = some bs) : (bnRun .all [.ref p] S).Sat Q X ↔ Q (.bl (bs.all id)) S := by
  simp only [bnRun, biAll, lstOf, h, Option.bind_some, e, sat_ok]
theorem q_any {p : Nat} {ys : List W} {bs : List Bool} (h : S[p]? = some (.lst ys)) (e : blsW ys = some bs) : (bnRun .any [.ref p] S).Sat Q X ↔ Q (.bl (bs.any id)) S := by
  simp only [bnRun, biAny, lstOf, h, Option.bind_some, e, sat_ok]
theorem gc_pure {w : W} {E : Store} (h : oldW S.length w = true) : gc S (.ok w (S ++ E)) = .ok w S := gc_old Part.refl h
theorem gc_pure0 {w : W} (h : oldW S.length w = true) : gc S (.ok w S) = .ok w S := gc_old0 Part.refl h
@[simp] theorem gcs_b {b : Bool} : (gc S (.ok (.bl b) S)).Sat Q X ↔ Q (.bl b) S := by rw [gc_pure0 (by simp [oldW])]; exact sat_ok
@[simp] theorem gcs_b' {b : Bool} {E : Store} : (gc S (.ok (.bl b) (S ++ E))).Sat Q X ↔ Q (.bl b) S := by rw [gc_pure (by simp [oldW])]; exact sat_ok
@[simp] theorem gcs_i {b : Int} : (gc S (.ok (.int b) S)).Sat Q X ↔ Q (.int b) S := by rw [gc_pure0 (by simp [oldW])]; exact sat_ok
@[simp] theorem gcs_i' {b : Int} {E : Store} : (gc S (.ok (.int b) (S ++ E))).Sat Q X ↔ Q (.int b) S := by rw [gc_pure (by simp [oldW])]; exact sat_ok
@[simp] theorem gcs_s {b : List Nat} : (gc S (.ok (.str b) S)).Sat Q X ↔ Q (.str b) S := by rw [gc_pure0 (by simp [oldW])]; exact sat_ok
@[simp] theorem gcs_s' {b : List Nat} {E : Store} : (gc S (.ok (.str b) (S ++ E))).Sat Q X ↔ Q (.str b) S := by rw [gc_pure (by simp [oldW])]; exact sat_ok
@[simp] theorem gcs_n  : (gc S (.ok (.non) S)).Sat Q X ↔ Q (.non) S := by rw [gc_pure0 (by simp [oldW])]; exact sat_ok
@[simp] theorem gcs_n'  {E : Store} : (gc S (.ok (.non) (S ++ E))).Sat Q X ↔ Q (.non) S := by rw [gc_pure (by simp [oldW])]; exact sat_ok
theorem gc_fresh {xs : List W} (h : oldL S.length xs = true) (q : Q (.ref S.length) (S ++ [.lst xs])) : (gc S (.ok (.ref S.length) (S ++ [.lst xs]))).Sat Q X := by
  rw [gc_new (B := S) (E := [.lst xs]) (xs := xs) Part.refl (Nat.le_refl _) (by simp) h]
  exact ⟨q⟩
/-- a type is asked for -/
def isSt : W → Bool
  | .str _ => true
  | _ => false
theorem kit_str : kitB "NoneType" "str" = some false ∧ kitB "bool" "str" = some false ∧ kitB "int" "str" = some false ∧ kitB "str" "str" = some true ∧ kitB "tuple" "str" = some false ∧ kitB "list" "str" = some false ∧ kitB "dict" "str" = some false := by decide +kernel
theorem kit_bool : kitB "bool" "bool" = some true := by decide +kernel
end
end PD


namespace K01
open PySem PySem.Spec PyProof.Rows L2 PD
/-! ## the text: its defs by their places, their slots -/
abbrev PW : Program := PySem.Challenge.pw_leafweb_k01_words_and_signs
def top (i : Nat) : Stmt := PW.main.body.getD i (.Pass ⟨0, 0, 0, 0⟩)
abbrev c_LETTERS : W := (.str [97, 98, 99, 100, 101, 102, 103, 104, 105, 106, 107, 108, 109, 110, 111, 112, 113, 114, 115, 116, 117, 118, 119, 120, 121, 122])
abbrev c_LONGEST : W := (.int 8)
abbrev c_PER_CENT : W := (.int 37)
abbrev s__law_well : Stmt := top 7
abbrev n__law_well : List Str := ["_law_script", "_law_k", "_law_cell"]
abbrev p__law_well : List Str := ["_law_script", "_law_k"]
theorem sc__law_well : FnScope n__law_well p__law_well (defScope s__law_well) := ⟨rfl, rfl, rfl, by decide +kernel, rfl, by decide +kernel, by decide +kernel⟩
abbrev s__law_take : Stmt := top 8
abbrev n__law_take : List Str := ["_law_well_here", "_law_many", "_law_turn", "_law_number", "_law_digit"]
abbrev p__law_take : List Str := ["_law_well_here", "_law_many"]
theorem sc__law_take : FnScope n__law_take p__law_take (defScope s__law_take) := ⟨rfl, rfl, rfl, by decide +kernel, rfl, by decide +kernel, by decide +kernel⟩
abbrev s__law_letters : Stmt := top 9
abbrev n__law_letters : List Str := ["_law_well_here", "_law_many", "_law_k"]
abbrev p__law_letters : List Str := ["_law_well_here", "_law_many"]
theorem sc__law_letters : FnScope n__law_letters p__law_letters (defScope s__law_letters) := ⟨rfl, rfl, rfl, by decide +kernel, rfl, by decide +kernel, by decide +kernel⟩
abbrev s__law_far : Stmt := top 12
abbrev n__law_far : List Str := ["_law_well_here", "_law_number", "_law_k"]
abbrev p__law_far : List Str := ["_law_well_here"]
theorem sc__law_far : FnScope n__law_far p__law_far (defScope s__law_far) := ⟨rfl, rfl, rfl, by decide +kernel, rfl, by decide +kernel, by decide +kernel⟩
abbrev s__law_odd : Stmt := top 11
abbrev n__law_odd : List Str := ["_law_well_here", "_law_some_here"]
abbrev p__law_odd : List Str := ["_law_well_here"]
theorem sc__law_odd : FnScope n__law_odd p__law_odd (defScope s__law_odd) := ⟨rfl, rfl, rfl, by decide +kernel, rfl, by decide +kernel, by decide +kernel⟩
abbrev s__law_some : Stmt := top 10
abbrev n__law_some : List Str := ["_law_well_here", "_law_some_here"]
abbrev p__law_some : List Str := ["_law_well_here"]
theorem sc__law_some : FnScope n__law_some p__law_some (defScope s__law_some) := ⟨rfl, rfl, rfl, by decide +kernel, rfl, by decide +kernel, by decide +kernel⟩
abbrev s__law_thing : Stmt := top 13
abbrev n__law_thing : List Str := ["_law_well_here", "_law_way", "_law_word", "_law_at", "_law_number"]
abbrev p__law_thing : List Str := ["_law_well_here"]
theorem sc__law_thing : FnScope n__law_thing p__law_thing (defScope s__law_thing) := ⟨rfl, rfl, rfl, by decide +kernel, rfl, by decide +kernel, by decide +kernel⟩
abbrev s_is_word : Stmt := top 4
abbrev n_is_word : List Str := ["thing", "letter"]
abbrev p_is_word : List Str := ["thing"]
theorem sc_is_word : FnScope n_is_word p_is_word (defScope s_is_word) := ⟨rfl, rfl, rfl, by decide +kernel, rfl, by decide +kernel, by decide +kernel⟩
abbrev s_is_sign : Stmt := top 5
abbrev n_is_sign : List Str := ["thing"]
abbrev p_is_sign : List Str := ["thing"]
theorem sc_is_sign : FnScope n_is_sign p_is_sign (defScope s_is_sign) := ⟨rfl, rfl, rfl, by decide +kernel, rfl, by decide +kernel, by decide +kernel⟩
abbrev s__law_is_word : Stmt := top 14
abbrev n__law_is_word : List Str := ["_law_thing_here", "_law_sign"]
abbrev p__law_is_word : List Str := ["_law_thing_here"]
theorem sc__law_is_word : FnScope n__law_is_word p__law_is_word (defScope s__law_is_word) := ⟨rfl, rfl, rfl, by decide +kernel, rfl, by decide +kernel, by decide +kernel⟩
abbrev s__law_is_sign : Stmt := top 15
abbrev n__law_is_sign : List Str := ["_law_thing_here"]
abbrev p__law_is_sign : List Str := ["_law_thing_here"]
theorem sc__law_is_sign : FnScope n__law_is_sign p__law_is_sign (defScope s__law_is_sign) := ⟨rfl, rfl, rfl, by decide +kernel, rfl, by decide +kernel, by decide +kernel⟩
abbrev s_law : Stmt := top 16
abbrev n_law : List Str := ["_law_script", "_law_k", "_law_well_here", "_law_turn", "_law_thing_here", "_law_one", "_law_other"]
abbrev p_law : List Str := ["_law_script"]
theorem sc_law : FnScope n_law p_law (defScope s_law) := ⟨rfl, rfl, rfl, by decide +kernel, rfl, by decide +kernel, by decide +kernel⟩
/-! ## what they denote -/
noncomputable def g__law_well : Gam := ⟨[], ["len", "int", "abs"]⟩
@[irreducible] noncomputable def r__law_well : List W → Store → Out W := denF 40 80 g__law_well n__law_well s__law_well
noncomputable def m__law_well : SM :=
  (sSeq (sAsg (.nm 2) (eCon (.int 0)))
  (sSeq (sIf (tB (eBin opLt (eVar 1) (eCall (bnRun .len) [] (aCons (eVar 0) aNil))))
    (sAsg (.nm 2) (eBin ixW (eVar 0) (eVar 1)))
    sNx)
  (sRet (eLst (aCons (eCall (bnRun .int) [] (aCons (eBin opGe (eCall (bnRun .abs) [] (aCons (eVar 2) aNil)) (eBin opPow (eCon (.int 10)) (eCon (.int 18)))) aNil)) (aCons (eVar 2) (aCons (eBin opMul (eCon (.int 31)) (eVar 1)) aNil)))))))
theorem u__law_well : r__law_well = denF 40 80 g__law_well n__law_well s__law_well := by unfold r__law_well; rfl
theorem e__law_well : r__law_well = fnRun 3 m__law_well := by kernel_rfl
noncomputable def g__law_take : Gam := ⟨[], []⟩
@[irreducible] noncomputable def r__law_take : List W → Store → Out W := denF 40 80 g__law_take n__law_take s__law_take
noncomputable def m__law_take : SM :=
  (sSeq (sIf (tB (eBin opEq (eBin ixW (eVar 0) (eCon (.int 0))) (eCon (.int 1))))
    (sSeq (sAsg (.nm 4) (eBin opMod (eBin ixW (eVar 0) (eCon (.int 1))) (eVar 1)))
    (sSeq (sSub (eVar 0) (eCon (.int 1)) (eBin opFdiv (eBin ixW (eVar 0) (eCon (.int 1))) (eVar 1)))
    (sRet (eVar 4))))
    sNx)
  (sSeq (sAsg (.nm 2) (eBin opAdd (eBin ixW (eVar 0) (eCon (.int 2))) (eCon (.int 1))))
  (sSeq (sSub (eVar 0) (eCon (.int 2)) (eVar 2))
  (sSeq (sAsg (.nm 3) (eBin opAdd (eBin opAdd (eBin opMul (eBin ixW (eVar 0) (eCon (.int 1))) (eCon (.int 2862933555777941757))) (eBin opMul (eBin opMul (eVar 2) (eVar 2)) (eCon (.int 3037000493)))) (eCon (.int 77777))))
  (sSeq (sAsg (.nm 3) (eBin opAdd (eBin opMod (eVar 3) (eCon (.int 2305843009213693951))) (eBin opMul (eCon (.int 104729)) (eVar 2))))
  (sRet (eBin opMod (eBin opFdiv (eBin opMod (eBin opMul (eVar 3) (eVar 3)) (eCon (.int 2305843009213693921))) (eCon (.int 4096))) (eVar 1))))))))
theorem u__law_take : r__law_take = denF 40 80 g__law_take n__law_take s__law_take := by unfold r__law_take; rfl
theorem e__law_take : r__law_take = fnRun 5 m__law_take := by kernel_rfl
noncomputable def g__law_letters : Gam := ⟨[("_law_take", .fn ⟨2, [], r__law_take⟩)], ["range"]⟩
@[irreducible] noncomputable def r__law_letters : List W → Store → Out W := denF 40 80 g__law_letters n__law_letters s__law_letters
noncomputable def m__law_letters : SM :=
  (sRet (eMethB .join (eCon (.str [])) (aCons (eLc [2] (iRng1W (eVar 1)) (.nm 2) ttYes (eBin ixW (eCon (.str [97, 98, 99, 100, 101, 102, 103, 104, 105, 106, 107, 108, 109, 110, 111, 112, 113, 114, 115, 116, 117, 118, 119, 120, 121, 122])) (eCall r__law_take [] (aCons (eVar 0) (aCons (eCon (.int 26)) aNil))))) aNil)))
theorem u__law_letters : r__law_letters = denF 40 80 g__law_letters n__law_letters s__law_letters := by unfold r__law_letters; rfl
theorem e__law_letters : r__law_letters = fnRun 3 m__law_letters := by kernel_rfl
noncomputable def g__law_far : Gam := ⟨[("_law_take", .fn ⟨2, [], r__law_take⟩)], ["range"]⟩
@[irreducible] noncomputable def r__law_far : List W → Store → Out W := denF 40 80 g__law_far n__law_far s__law_far
noncomputable def m__law_far : SM :=
  (sSeq (sAsg (.nm 1) (eCon (.int 0)))
  (sSeq (sFor (iRng1W (eCon (.int 10))) (.nm 2)
    (sAsg (.nm 1) (eBin opAdd (eBin opMul (eVar 1) (eBin opPow (eCon (.int 10)) (eCon (.int 6)))) (eCall r__law_take [] (aCons (eVar 0) (aCons (eBin opPow (eCon (.int 10)) (eCon (.int 6))) aNil))))))
  (sRet (eVar 1))))
theorem u__law_far : r__law_far = denF 40 80 g__law_far n__law_far s__law_far := by unfold r__law_far; rfl
theorem e__law_far : r__law_far = fnRun 3 m__law_far := by kernel_rfl
noncomputable def g__law_odd : Gam := ⟨[("_law_take", .fn ⟨2, [], r__law_take⟩)], ["len"]⟩
@[irreducible] noncomputable def r__law_odd : List W → Store → Out W := denF 40 80 g__law_odd n__law_odd s__law_odd
noncomputable def m__law_odd : SM :=
  (sSeq (sAsg (.nm 1) (eCon (.str [65, 90, 48, 57, 32, 95, 45, 46, 10, 9, 91, 93, 123, 125, 60, 62, 33, 124, 35, 94, 126, 96, 64])))
  (sRet (eBin ixW (eVar 1) (eCall r__law_take [] (aCons (eVar 0) (aCons (eCall (bnRun .len) [] (aCons (eVar 1) aNil)) aNil))))))
theorem u__law_odd : r__law_odd = denF 40 80 g__law_odd n__law_odd s__law_odd := by unfold r__law_odd; rfl
theorem e__law_odd : r__law_odd = fnRun 2 m__law_odd := by kernel_rfl
noncomputable def g__law_some : Gam := ⟨[("_law_take", .fn ⟨2, [], r__law_take⟩)], []⟩
@[irreducible] noncomputable def r__law_some : List W → Store → Out W := denF 40 80 g__law_some n__law_some s__law_some
noncomputable def m__law_some : SM :=
  (sSeq (sAsg (.nm 1) (eCon (.str [32, 33, 34, 35, 36, 38, 39, 40, 41, 42, 43, 44, 45, 46, 47, 48, 49, 50, 51, 52, 53, 54, 55, 56, 57, 58, 59, 60, 61, 62, 63, 64, 65, 66, 67, 68, 69, 70, 71, 72, 73, 74, 75, 76, 77, 78, 79, 80, 81, 82, 83, 84, 85, 86, 87, 88, 89, 90])))
  (sSeq (sAsg (.nm 1) (eBin opAdd (eVar 1) (eCon (.str [91, 92, 93, 94, 95, 96, 97, 98, 99, 100, 101, 102, 103, 104, 105, 106, 107, 108, 109, 110, 111, 112, 113, 114, 115, 116, 117, 118, 119, 120, 121, 122, 123, 124, 125, 126]))))
  (sRet (eBin ixW (eVar 1) (eCall r__law_take [] (aCons (eVar 0) (aCons (eCon (.int 94)) aNil)))))))
theorem u__law_some : r__law_some = denF 40 80 g__law_some n__law_some s__law_some := by unfold r__law_some; rfl
theorem e__law_some : r__law_some = fnRun 2 m__law_some := by kernel_rfl
noncomputable def g__law_thing : Gam := ⟨[("_law_take", .fn ⟨2, [], r__law_take⟩), ("_law_letters", .fn ⟨2, [], r__law_letters⟩), ("_law_far", .fn ⟨1, [], r__law_far⟩), ("_law_odd", .fn ⟨1, [], r__law_odd⟩), ("_law_some", .fn ⟨1, [], r__law_some⟩)], ["len"]⟩
@[irreducible] noncomputable def r__law_thing : List W → Store → Out W := denF 40 80 g__law_thing n__law_thing s__law_thing
noncomputable def m__law_thing : SM :=
  (sSeq (sAsg (.nm 1) (eCall r__law_take [] (aCons (eVar 0) (aCons (eCon (.int 16)) aNil))))
  (sSeq (sAsg (.nm 2) (eCall r__law_letters [] (aCons (eVar 0) (aCons (eBin opAdd (eCon (.int 1)) (eCall r__law_take [] (aCons (eVar 0) (aCons (eCon (.int 8)) aNil)))) aNil))))
  (sSeq (sAsg (.nm 3) (eCall r__law_take [] (aCons (eVar 0) (aCons (eCall (bnRun .len) [] (aCons (eVar 2) aNil)) aNil))))
  (sSeq (sAsg (.nm 4) (eBin opMul (eBin ixW (eLst (aCons (eCon (.int 1)) (aCons (eUn unNeg (eCon (.int 1))) aNil))) (eCall r__law_take [] (aCons (eVar 0) (aCons (eCon (.int 2)) aNil)))) (eCall r__law_far [] (aCons (eVar 0) aNil))))
  (sSeq (sIf (tB (eBin opLt (eVar 1) (eCon (.int 3))))
    (sRet (eVar 2))
    sNx)
  (sSeq (sIf (tB (eBin opEq (eVar 1) (eCon (.int 3))))
    (sRet (eCall r__law_letters [] (aCons (eVar 0) (aCons (eBin opAdd (eCon (.int 9)) (eBin opMul (eCall r__law_take [] (aCons (eVar 0) (aCons (eCon (.int 3)) aNil))) (eCall r__law_take [] (aCons (eVar 0) (aCons (eCon (.int 30)) aNil))))) aNil))))
    sNx)
  (sSeq (sIf (tB (eBin opEq (eVar 1) (eCon (.int 4))))
    (sRet (eBin opAdd (eBin opAdd (eSl (eVar 2) oNone (oSome (eVar 3))) (eCall r__law_odd [] (aCons (eVar 0) aNil))) (eSl (eVar 2) (oSome (eBin opAdd (eVar 3) (eCon (.int 1)))) oNone)))
    sNx)
  (sSeq (sIf (tB (eBin opEq (eVar 1) (eCon (.int 5))))
    (sRet (eBin opAdd (eSl (eVar 2) oNone (oSome (eBin opAdd (eCon (.int 1)) (eCall r__law_take [] (aCons (eVar 0) (aCons (eCon (.int 7)) aNil)))))) (eCall r__law_odd [] (aCons (eVar 0) aNil))))
    sNx)
  (sSeq (sIf (tB (eBin opLt (eVar 1) (eCon (.int 9))))
    (sRet (eCall r__law_some [] (aCons (eVar 0) aNil)))
    sNx)
  (sSeq (sIf (tB (eBin opLt (eVar 1) (eCon (.int 11))))
    (sRet (eCall r__law_odd [] (aCons (eVar 0) aNil)))
    sNx)
  (sSeq (sIf (tB (eBin opEq (eVar 1) (eCon (.int 11))))
    (sRet (eBin opAdd (eCall r__law_some [] (aCons (eVar 0) aNil)) (eCall r__law_odd [] (aCons (eVar 0) aNil))))
    sNx)
  (sRet (eBin ixW (eLst (aCons (eCon (.str [])) (aCons (eCon .non) (aCons (eBin opEq (eCall r__law_take [] (aCons (eVar 0) (aCons (eCon (.int 2)) aNil))) (eCon (.int 1))) (aCons (eVar 4) (aCons (eLst (aCons (eVar 2) aNil)) (aCons (eTup (aCons (eVar 2) aNil)) (aCons (eDisp [((eVar 2), (eVar 2))]) (aCons (eLst aNil) aNil))))))))) (eCall r__law_take [] (aCons (eVar 0) (aCons (eCon (.int 8)) aNil))))))))))))))))
theorem u__law_thing : r__law_thing = denF 40 80 g__law_thing n__law_thing s__law_thing := by unfold r__law_thing; rfl
theorem e__law_thing : r__law_thing = fnRun 5 m__law_thing := by kernel_rfl
noncomputable def g_is_word : Gam := ⟨[("LONGEST", .con c_LONGEST), ("LETTERS", .con c_LETTERS)], ["isinstance", "str", "len", "all"]⟩
@[irreducible] noncomputable def r_is_word : List W → Store → Out W := denF 40 80 g_is_word n_is_word s_is_word
noncomputable def m_is_word : SM :=
  (sSeq (sIf (ttOr (ttNot (tVal (eIsi "str" (eVar 0)))) (ttNot (tB (eChain opLe opLe (eCon (.int 1)) (eCall (bnRun .len) [] (aCons (eVar 0) aNil)) (eCon c_LONGEST)))))
    (sRet (eCon (.bl false)))
    sNx)
  (sRet (eCall (bnRun .all) [] (aCons (eLc [1] (iAny (eVar 0)) (.nm 1) ttYes (eBin opIn (eVar 1) (eCon c_LETTERS))) aNil))))
theorem u_is_word : r_is_word = denF 40 80 g_is_word n_is_word s_is_word := by unfold r_is_word; rfl
theorem e_is_word : r_is_word = fnRun 2 m_is_word := by kernel_rfl
noncomputable def g_is_sign : Gam := ⟨[("PER_CENT", .con c_PER_CENT)], ["isinstance", "str", "len", "ord"]⟩
@[irreducible] noncomputable def r_is_sign : List W → Store → Out W := denF 40 80 g_is_sign n_is_sign s_is_sign
noncomputable def m_is_sign : SM :=
  (sSeq (sIf (ttOr (ttNot (tVal (eIsi "str" (eVar 0)))) (tB (eBin opNe (eCall (bnRun .len) [] (aCons (eVar 0) aNil)) (eCon (.int 1)))))
    (sRet (eCon (.bl false)))
    sNx)
  (sRet (eOr (eBin opEq (eVar 0) (eCon (.str [10]))) (eAnd (eChain opLe opLe (eCon (.str [32])) (eVar 0) (eCon (.str [126]))) (eBin opNe (eCall (bnRun .ord) [] (aCons (eVar 0) aNil)) (eCon c_PER_CENT))))))
theorem u_is_sign : r_is_sign = denF 40 80 g_is_sign n_is_sign s_is_sign := by unfold r_is_sign; rfl
theorem e_is_sign : r_is_sign = fnRun 1 m_is_sign := by kernel_rfl
noncomputable def g__law_is_word : Gam := ⟨[], ["isinstance", "str", "len"]⟩
@[irreducible] noncomputable def r__law_is_word : List W → Store → Out W := denF 40 80 g__law_is_word n__law_is_word s__law_is_word
noncomputable def m__law_is_word : SM :=
  (sSeq (sIf (ttOr (ttNot (tVal (eIsi "str" (eVar 0)))) (ttOr (tB (eBin opLt (eCall (bnRun .len) [] (aCons (eVar 0) aNil)) (eCon (.int 1)))) (tB (eBin opGt (eCall (bnRun .len) [] (aCons (eVar 0) aNil)) (eCon (.int 8))))))
    (sRet (eCon (.bl false)))
    sNx)
  (sRet (eBin opEq (eCall (bnRun .len) [] (aCons (eLc [1] (iAny (eVar 0)) (.nm 1) (tB (eBin opNotIn (eVar 1) (eCon (.str [97, 98, 99, 100, 101, 102, 103, 104, 105, 106, 107, 108, 109, 110, 111, 112, 113, 114, 115, 116, 117, 118, 119, 120, 121, 122])))) (eVar 1)) aNil)) (eCon (.int 0)))))
theorem u__law_is_word : r__law_is_word = denF 40 80 g__law_is_word n__law_is_word s__law_is_word := by unfold r__law_is_word; rfl
theorem e__law_is_word : r__law_is_word = fnRun 2 m__law_is_word := by kernel_rfl
noncomputable def g__law_is_sign : Gam := ⟨[], ["isinstance", "str", "len", "ord"]⟩
@[irreducible] noncomputable def r__law_is_sign : List W → Store → Out W := denF 40 80 g__law_is_sign n__law_is_sign s__law_is_sign
noncomputable def m__law_is_sign : SM :=
  (sSeq (sIf (ttOr (ttNot (tVal (eIsi "str" (eVar 0)))) (tB (eBin opNe (eCall (bnRun .len) [] (aCons (eVar 0) aNil)) (eCon (.int 1)))))
    (sRet (eCon (.bl false)))
    sNx)
  (sRet (eOr (eBin opEq (eVar 0) (eCon (.str [10]))) (eChain opLe opLe (eCon (.int 32)) (eCall (bnRun .ord) [] (aCons (eVar 0) aNil)) (eCon (.int 126))))))
theorem u__law_is_sign : r__law_is_sign = denF 40 80 g__law_is_sign n__law_is_sign s__law_is_sign := by unfold r__law_is_sign; rfl
theorem e__law_is_sign : r__law_is_sign = fnRun 1 m__law_is_sign := by kernel_rfl
noncomputable def g_law : Gam := ⟨[("_law_well", .fn ⟨2, [], r__law_well⟩), ("_law_thing", .fn ⟨1, [], r__law_thing⟩), ("is_word", .fn ⟨1, [], r_is_word⟩), ("is_sign", .fn ⟨1, [], r_is_sign⟩), ("_law_is_word", .fn ⟨1, [], r__law_is_word⟩), ("_law_is_sign", .fn ⟨1, [], r__law_is_sign⟩)], ["range", "max", "min", "len", "isinstance", "bool"]⟩
@[irreducible] noncomputable def r_law : List W → Store → Out W := denF 40 80 g_law n_law s_law
noncomputable def m_law : SM :=
  (sSeq (sFor (iRng1W (eCall (bnRun .max) [] (aCons (eCon (.int 1)) (aCons (eCall (bnRun .min) [] (aCons (eCall (bnRun .len) [] (aCons (eVar 0) aNil)) (aCons (eCon (.int 12)) aNil))) aNil)))) (.nm 1)
    (sSeq (sAsg (.nm 2) (eCall r__law_well [] (aCons (eVar 0) (aCons (eVar 1) aNil))))
    (sFor (iRng1W (eCon (.int 6))) (.nm 3)
      (sSeq (sAsg (.nm 4) (eCall r__law_thing [] (aCons (eVar 2) aNil)))
      (sSeq (sAsg (.nm 5) (eCall r_is_word [] (aCons (eVar 4) aNil)))
      (sSeq (sAsg (.nm 6) (eCall r_is_sign [] (aCons (eVar 4) aNil)))
      (sSeq (sIf (ttOr (ttNot (tVal (eIsi "bool" (eVar 5)))) (ttNot (tVal (eIsi "bool" (eVar 6)))))
        (sRet (eCon (.bl false)))
        sNx)
      (sIf (ttOr (tB (eBin opNe (eVar 5) (eCall r__law_is_word [] (aCons (eVar 4) aNil)))) (tB (eBin opNe (eVar 6) (eCall r__law_is_sign [] (aCons (eVar 4) aNil)))))
        (sRet (eCon (.bl false)))
        sNx))))))))
  (sRet (eAnd (eBin opIs (eCall r_is_word [] (aCons (eCon (.str [104, 111, 109, 101])) aNil)) (eCon (.bl true))) (eAnd (eBin opIs (eCall r_is_sign [] (aCons (eCon (.str [10])) aNil)) (eCon (.bl true))) (eAnd (eBin opIs (eCall r_is_word [] (aCons (eCon (.str [])) aNil)) (eCon (.bl false))) (eBin opIs (eCall r_is_sign [] (aCons (eCon (.str [])) aNil)) (eCon (.bl false))))))))
theorem u_law : r_law = denF 40 80 g_law n_law s_law := by unfold r_law; rfl
theorem e_law : r_law = fnRun 7 m_law := by kernel_rfl
/-! ## the head: facts by names -/
def d__law_well : He.DefD := dfD ("_law_well", none) "_law_well" "_law_well" s__law_well []
def d__law_take : He.DefD := dfD ("_law_take", none) "_law_take" "_law_take" s__law_take []
def d__law_letters : He.DefD := dfD ("_law_letters", none) "_law_letters" "_law_letters" s__law_letters []
def d__law_far : He.DefD := dfD ("_law_far", none) "_law_far" "_law_far" s__law_far []
def d__law_odd : He.DefD := dfD ("_law_odd", none) "_law_odd" "_law_odd" s__law_odd []
def d__law_some : He.DefD := dfD ("_law_some", none) "_law_some" "_law_some" s__law_some []
def d__law_thing : He.DefD := dfD ("_law_thing", none) "_law_thing" "_law_thing" s__law_thing []
def d_is_word : He.DefD := dfD ("is_word", none) "is_word" "is_word" s_is_word []
def d_is_sign : He.DefD := dfD ("is_sign", none) "is_sign" "is_sign" s_is_sign []
def d__law_is_word : He.DefD := dfD ("_law_is_word", none) "_law_is_word" "_law_is_word" s__law_is_word []
def d__law_is_sign : He.DefD := dfD ("_law_is_sign", none) "_law_is_sign" "_law_is_sign" s__law_is_sign []
def d_law : He.DefD := dfD ("law", none) "law" "law" s_law []
def fn : List He.DefD := [d__law_well, d__law_take, d__law_letters, d__law_far, d__law_odd, d__law_some, d__law_thing, d_is_word, d_is_sign, d__law_is_word, d__law_is_sign, d_law]
def fa : List He.Fa := [.glo "_law_well", .free "len", .free "int", .free "abs", .glo "_law_take", .glo "_law_letters", .free "range", .glo "_law_far", .glo "_law_odd", .glo "_law_some", .glo "_law_thing", .glo "is_word", .free "isinstance", .free "str", .int "LONGEST" 8, .free "all", .str "LETTERS" "abcdefghijklmnopqrstuvwxyz", .glo "is_sign", .int "PER_CENT" 37, .free "ord", .glo "_law_is_word", .glo "_law_is_sign", .glo "law", .free "max", .free "min", .free "bool"]
section
variable {P : Program} {w : World} {K : PySem.W.Frag} {mg : Str → Option Value} {base h : Heap}
theorem gk__law_well (c : He.SaysD fa fn K) (X : K.In h) (G : h.Ns mainGlobals mg) : GOk P w K mg base 0 g__law_well := gok_of TabOk.nil (blt_cons (He.free_ok X G (c.fact 1 (f := .free "len") rfl)) (blt_cons (He.free_ok X G (c.fact 2 (f := .free "int") rfl)) (blt_cons (He.free_ok X G (c.fact 3 (f := .free "abs") rfl)) blt_nil)))
theorem ok__law_well (c : He.SaysD fa fn K) (X : K.In h) (G : h.Ns mainGlobals mg) : FnHas P w K mg base 1 (He.fAd K d__law_well.at_) ⟨2, [], r__law_well⟩ :=
  has_n (st := s__law_well) (ps := p__law_well) u__law_well (c.def_ 0 (d := d__law_well) rfl) sc__law_well (fun _ _ _ _ _ _ us hl => match us, hl with | [_, _], _ => rfl) (gk__law_well c X G)
theorem gk__law_take (c : He.SaysD fa fn K) (X : K.In h) (G : h.Ns mainGlobals mg) : GOk P w K mg base 0 g__law_take := gok_of TabOk.nil blt_nil
theorem ok__law_take (c : He.SaysD fa fn K) (X : K.In h) (G : h.Ns mainGlobals mg) : FnHas P w K mg base 1 (He.fAd K d__law_take.at_) ⟨2, [], r__law_take⟩ :=
  has_n (st := s__law_take) (ps := p__law_take) u__law_take (c.def_ 1 (d := d__law_take) rfl) sc__law_take (fun _ _ _ _ _ _ us hl => match us, hl with | [_, _], _ => rfl) (gk__law_take c X G)
theorem gk__law_letters (c : He.SaysD fa fn K) (X : K.In h) (G : h.Ns mainGlobals mg) : GOk P w K mg base 1 g__law_letters := gok_of (TabOk.cons (gv_fn (He.glo_ok X G (c.fact 4 (f := .glo "_law_take") rfl)) (ok__law_take c X G) (by decide)) TabOk.nil) (blt_cons (He.free_ok X G (c.fact 6 (f := .free "range") rfl)) blt_nil)
theorem ok__law_letters (c : He.SaysD fa fn K) (X : K.In h) (G : h.Ns mainGlobals mg) : FnHas P w K mg base 2 (He.fAd K d__law_letters.at_) ⟨2, [], r__law_letters⟩ :=
  has_n (st := s__law_letters) (ps := p__law_letters) u__law_letters (c.def_ 2 (d := d__law_letters) rfl) sc__law_letters (fun _ _ _ _ _ _ us hl => match us, hl with | [_, _], _ => rfl) (gk__law_letters c X G)
theorem gk__law_far (c : He.SaysD fa fn K) (X : K.In h) (G : h.Ns mainGlobals mg) : GOk P w K mg base 1 g__law_far := gok_of (TabOk.cons (gv_fn (He.glo_ok X G (c.fact 4 (f := .glo "_law_take") rfl)) (ok__law_take c X G) (by decide)) TabOk.nil) (blt_cons (He.free_ok X G (c.fact 6 (f := .free "range") rfl)) blt_nil)
theorem ok__law_far (c : He.SaysD fa fn K) (X : K.In h) (G : h.Ns mainGlobals mg) : FnHas P w K mg base 2 (He.fAd K d__law_far.at_) ⟨1, [], r__law_far⟩ :=
  has_n (st := s__law_far) (ps := p__law_far) u__law_far (c.def_ 3 (d := d__law_far) rfl) sc__law_far (fun _ _ _ _ _ _ us hl => match us, hl with | [_], _ => rfl) (gk__law_far c X G)
theorem gk__law_odd (c : He.SaysD fa fn K) (X : K.In h) (G : h.Ns mainGlobals mg) : GOk P w K mg base 1 g__law_odd := gok_of (TabOk.cons (gv_fn (He.glo_ok X G (c.fact 4 (f := .glo "_law_take") rfl)) (ok__law_take c X G) (by decide)) TabOk.nil) (blt_cons (He.free_ok X G (c.fact 1 (f := .free "len") rfl)) blt_nil)
theorem ok__law_odd (c : He.SaysD fa fn K) (X : K.In h) (G : h.Ns mainGlobals mg) : FnHas P w K mg base 2 (He.fAd K d__law_odd.at_) ⟨1, [], r__law_odd⟩ :=
  has_n (st := s__law_odd) (ps := p__law_odd) u__law_odd (c.def_ 4 (d := d__law_odd) rfl) sc__law_odd (fun _ _ _ _ _ _ us hl => match us, hl with | [_], _ => rfl) (gk__law_odd c X G)
theorem gk__law_some (c : He.SaysD fa fn K) (X : K.In h) (G : h.Ns mainGlobals mg) : GOk P w K mg base 1 g__law_some := gok_of (TabOk.cons (gv_fn (He.glo_ok X G (c.fact 4 (f := .glo "_law_take") rfl)) (ok__law_take c X G) (by decide)) TabOk.nil) blt_nil
theorem ok__law_some (c : He.SaysD fa fn K) (X : K.In h) (G : h.Ns mainGlobals mg) : FnHas P w K mg base 2 (He.fAd K d__law_some.at_) ⟨1, [], r__law_some⟩ :=
  has_n (st := s__law_some) (ps := p__law_some) u__law_some (c.def_ 5 (d := d__law_some) rfl) sc__law_some (fun _ _ _ _ _ _ us hl => match us, hl with | [_], _ => rfl) (gk__law_some c X G)
theorem gk__law_thing (c : He.SaysD fa fn K) (X : K.In h) (G : h.Ns mainGlobals mg) : GOk P w K mg base 2 g__law_thing := gok_of (TabOk.cons (gv_fn (He.glo_ok X G (c.fact 4 (f := .glo "_law_take") rfl)) (ok__law_take c X G) (by decide)) (TabOk.cons (gv_fn (He.glo_ok X G (c.fact 5 (f := .glo "_law_letters") rfl)) (ok__law_letters c X G) (by decide)) (TabOk.cons (gv_fn (He.glo_ok X G (c.fact 7 (f := .glo "_law_far") rfl)) (ok__law_far c X G) (by decide)) (TabOk.cons (gv_fn (He.glo_ok X G (c.fact 8 (f := .glo "_law_odd") rfl)) (ok__law_odd c X G) (by decide)) (TabOk.cons (gv_fn (He.glo_ok X G (c.fact 9 (f := .glo "_law_some") rfl)) (ok__law_some c X G) (by decide)) TabOk.nil))))) (blt_cons (He.free_ok X G (c.fact 1 (f := .free "len") rfl)) blt_nil)
theorem ok__law_thing (c : He.SaysD fa fn K) (X : K.In h) (G : h.Ns mainGlobals mg) : FnHas P w K mg base 3 (He.fAd K d__law_thing.at_) ⟨1, [], r__law_thing⟩ :=
  has_n (st := s__law_thing) (ps := p__law_thing) u__law_thing (c.def_ 6 (d := d__law_thing) rfl) sc__law_thing (fun _ _ _ _ _ _ us hl => match us, hl with | [_], _ => rfl) (gk__law_thing c X G)
theorem gk_is_word (c : He.SaysD fa fn K) (X : K.In h) (G : h.Ns mainGlobals mg) : GOk P w K mg base 0 g_is_word := gok_of (TabOk.cons (gv_int (He.int_ok X G (c.fact 14 (f := .int "LONGEST" 8) rfl))) (TabOk.cons (gv_str (He.str_ok X G (c.fact 16 (f := .str "LETTERS" "abcdefghijklmnopqrstuvwxyz") rfl)) (by kernel_rfl)) TabOk.nil)) (blt_cons (He.free_ok X G (c.fact 12 (f := .free "isinstance") rfl)) (blt_cons (He.free_ok X G (c.fact 13 (f := .free "str") rfl)) (blt_cons (He.free_ok X G (c.fact 1 (f := .free "len") rfl)) (blt_cons (He.free_ok X G (c.fact 15 (f := .free "all") rfl)) blt_nil))))
theorem ok_is_word (c : He.SaysD fa fn K) (X : K.In h) (G : h.Ns mainGlobals mg) : FnHas P w K mg base 1 (He.fAd K d_is_word.at_) ⟨1, [], r_is_word⟩ :=
  has_n (st := s_is_word) (ps := p_is_word) u_is_word (c.def_ 7 (d := d_is_word) rfl) sc_is_word (fun _ _ _ _ _ _ us hl => match us, hl with | [_], _ => rfl) (gk_is_word c X G)
theorem gk_is_sign (c : He.SaysD fa fn K) (X : K.In h) (G : h.Ns mainGlobals mg) : GOk P w K mg base 0 g_is_sign := gok_of (TabOk.cons (gv_int (He.int_ok X G (c.fact 18 (f := .int "PER_CENT" 37) rfl))) TabOk.nil) (blt_cons (He.free_ok X G (c.fact 12 (f := .free "isinstance") rfl)) (blt_cons (He.free_ok X G (c.fact 13 (f := .free "str") rfl)) (blt_cons (He.free_ok X G (c.fact 1 (f := .free "len") rfl)) (blt_cons (He.free_ok X G (c.fact 19 (f := .free "ord") rfl)) blt_nil))))
theorem ok_is_sign (c : He.SaysD fa fn K) (X : K.In h) (G : h.Ns mainGlobals mg) : FnHas P w K mg base 1 (He.fAd K d_is_sign.at_) ⟨1, [], r_is_sign⟩ :=
  has_n (st := s_is_sign) (ps := p_is_sign) u_is_sign (c.def_ 8 (d := d_is_sign) rfl) sc_is_sign (fun _ _ _ _ _ _ us hl => match us, hl with | [_], _ => rfl) (gk_is_sign c X G)
theorem gk__law_is_word (c : He.SaysD fa fn K) (X : K.In h) (G : h.Ns mainGlobals mg) : GOk P w K mg base 0 g__law_is_word := gok_of TabOk.nil (blt_cons (He.free_ok X G (c.fact 12 (f := .free "isinstance") rfl)) (blt_cons (He.free_ok X G (c.fact 13 (f := .free "str") rfl)) (blt_cons (He.free_ok X G (c.fact 1 (f := .free "len") rfl)) blt_nil)))
theorem ok__law_is_word (c : He.SaysD fa fn K) (X : K.In h) (G : h.Ns mainGlobals mg) : FnHas P w K mg base 1 (He.fAd K d__law_is_word.at_) ⟨1, [], r__law_is_word⟩ :=
  has_n (st := s__law_is_word) (ps := p__law_is_word) u__law_is_word (c.def_ 9 (d := d__law_is_word) rfl) sc__law_is_word (fun _ _ _ _ _ _ us hl => match us, hl with | [_], _ => rfl) (gk__law_is_word c X G)
theorem gk__law_is_sign (c : He.SaysD fa fn K) (X : K.In h) (G : h.Ns mainGlobals mg) : GOk P w K mg base 0 g__law_is_sign := gok_of TabOk.nil (blt_cons (He.free_ok X G (c.fact 12 (f := .free "isinstance") rfl)) (blt_cons (He.free_ok X G (c.fact 13 (f := .free "str") rfl)) (blt_cons (He.free_ok X G (c.fact 1 (f := .free "len") rfl)) (blt_cons (He.free_ok X G (c.fact 19 (f := .free "ord") rfl)) blt_nil))))
theorem ok__law_is_sign (c : He.SaysD fa fn K) (X : K.In h) (G : h.Ns mainGlobals mg) : FnHas P w K mg base 1 (He.fAd K d__law_is_sign.at_) ⟨1, [], r__law_is_sign⟩ :=
  has_n (st := s__law_is_sign) (ps := p__law_is_sign) u__law_is_sign (c.def_ 10 (d := d__law_is_sign) rfl) sc__law_is_sign (fun _ _ _ _ _ _ us hl => match us, hl with | [_], _ => rfl) (gk__law_is_sign c X G)
theorem gk_law (c : He.SaysD fa fn K) (X : K.In h) (G : h.Ns mainGlobals mg) : GOk P w K mg base 3 g_law := gok_of (TabOk.cons (gv_fn (He.glo_ok X G (c.fact 0 (f := .glo "_law_well") rfl)) (ok__law_well c X G) (by decide)) (TabOk.cons (gv_fn (He.glo_ok X G (c.fact 10 (f := .glo "_law_thing") rfl)) (ok__law_thing c X G) (by decide)) (TabOk.cons (gv_fn (He.glo_ok X G (c.fact 11 (f := .glo "is_word") rfl)) (ok_is_word c X G) (by decide)) (TabOk.cons (gv_fn (He.glo_ok X G (c.fact 17 (f := .glo "is_sign") rfl)) (ok_is_sign c X G) (by decide)) (TabOk.cons (gv_fn (He.glo_ok X G (c.fact 20 (f := .glo "_law_is_word") rfl)) (ok__law_is_word c X G) (by decide)) (TabOk.cons (gv_fn (He.glo_ok X G (c.fact 21 (f := .glo "_law_is_sign") rfl)) (ok__law_is_sign c X G) (by decide)) TabOk.nil)))))) (blt_cons (He.free_ok X G (c.fact 6 (f := .free "range") rfl)) (blt_cons (He.free_ok X G (c.fact 23 (f := .free "max") rfl)) (blt_cons (He.free_ok X G (c.fact 24 (f := .free "min") rfl)) (blt_cons (He.free_ok X G (c.fact 1 (f := .free "len") rfl)) (blt_cons (He.free_ok X G (c.fact 12 (f := .free "isinstance") rfl)) (blt_cons (He.free_ok X G (c.fact 25 (f := .free "bool") rfl)) blt_nil))))))
end
abbrev RR : PySem.W.OpenRow := PySem.W.OpenLaw.row PySem.Challenge.rw_leafweb_k01_words_and_signs
abbrev hk : PySem.W.Hook := He.hookD 4 fa fn
def ob (s : PySem.W.SharedT) : He.AlD := He.obsDG 4 fa fn (HandSHeadRun.getT s)
theorem ob_eq (s : PySem.W.SharedT) : ob s = hk.obs s.abs := He.obsDG_eq (HandSHeadRun.getT_eq s)
def ls : List Str := ["__name__", "LETTERS", "LONGEST", "PER_CENT", "is_word", "is_sign", "_law_well", "_law_take", "_law_letters", "_law_some", "_law_odd", "_law_far", "_law_thing", "_law_is_word", "_law_is_sign"]
theorem run (w : World) : HandSHeadRun.RunEq RR (PySem.W.view RR.prog [16]) hk ob 4000 ls w := by
  intro os
  kernel_rfl
theorem fin (w : World) (mg : Str → Option Value) (fa1 : Addr) (h : Heap) (Y : hk.says w h) (G : h.Ns mainGlobals mg) (e0 : mg ("law" : Str) = some (.ref fa1)) :
    ∃ (K : PySem.W.Frag) (fd : FuncData), K.In h ∧ (∀ (s : Shared) (u : Value), BindsTo s fd ⟨[u], []⟩ [(("_law_script" : Str), u)]) ∧ ∀ base : Heap, FnOk PW w K mg base (L2.CX PW w) 4 fa1 fd ["_law_script"] (spM ⟨K, mg⟩ ⟨1, [], r_law⟩) := by
  obtain ⟨K, X, c⟩ := Y
  obtain ⟨fd, F⟩ := c.def_ 11 (d := d_law) rfl
  have e := e0.symm.trans (He.glo_ok X G (c.fact 22 (f := .glo "law") rfl))
  cases e
  have b := FunD.bindsA (ps := ["_law_script"]) F fun _ _ _ _ _ _ us hl => match us, hl with | [_], _ => rfl
  exact ⟨K, fd, X, fun s u => b s [u] rfl, fun base => fn_soundD (st := s_law) (ps := p_law) F u_law sc_law (gk_law c X G)⟩
end K01

namespace K01
open PySem L2 PD
def FA : Fam where
  P := fun c f => ∃ a b t : Int, c = .lst [.int a, .int b, .int t] ∧ 0 ≤ t ∧ t + f ≤ 2 ^ 40
  old := fun {c f} n ⟨a, b, t, e, _⟩ => by subst e; simp [oldC, oldL, oldW]
  mono := fun {c f g} ⟨a, b, t, e, h1, h2⟩ h => ⟨a, b, t, e, h1, by omega⟩
def isI (n : Int) (w : W) : Prop := ∃ z : Int, w = .int z ∧ 0 ≤ z ∧ z < n
theorem take_ok {n : Int} (hn : 0 < n) (hn2 : n.natAbs < 2 ^ 256) : Gn FA r__law_take [.int n] 1 (isI n) := by
  refine Gn.of fun S i c f hi hP hf => ?_
  obtain ⟨a, b, t, rfl, h0, h1⟩ := hP
  rw [e__law_take]
  refine fn_sat ?_
  have hat : ∀ c, (st S i c [])[i]? = some c := fun c => st_at (S := S) (c := c) (E := []) hi
  have hset : ∀ c c', (st S i c []).set i c' = st S i c' [] := fun c c' => st_set (S := S) (c := c) (c' := c') (E := []) hi
  simp only [m__law_take, ssat_seq, ssat_if, sat_tB, sat_bin, sat_var, sat_con, ssat_asg, ssat_ret, ssat_sub]
  simp [List.replicate, q_ix_l (hat _), set_l (hat _), hset]
  by_cases ha : a = 1
  · simp [ha, q_ix_l (hat _), hset, set_l (hat _), hn, hn2]
    exact end_gn (F := FA) (f := f) ⟨1, b / n, t, rfl, h0, h1⟩ (by omega) (by simp [oldW]) ⟨_, rfl, Int.emod_nonneg _ (by omega), Int.emod_lt_of_pos _ hn⟩
  · simp [ha, q_ix_l (hat _), hset, set_l (hat _), hn, hn2]
    have hm := Int.emod_nonneg (b * 2862933555777941757 + (t + 1) * (t + 1) * 3037000493 + 77777) (show (2305843009213693951 : Int) ≠ 0 by decide)
    have hm2 := Int.emod_lt_of_pos (b * 2862933555777941757 + (t + 1) * (t + 1) * 3037000493 + 77777) (show (0 : Int) < 2305843009213693951 by decide)
    refine ⟨by omega, by omega, end_gn (F := FA) (f := f - 1) ⟨a, b, t + 1, rfl, by omega, by omega⟩ (by omega) (by simp [oldW]) ⟨_, rfl, Int.emod_nonneg _ (by omega), Int.emod_lt_of_pos _ hn⟩⟩
def low (c : Nat) : Prop := 97 ≤ c ∧ c < 123
def isWd (n : Nat) (w : W) : Prop := ∃ s : List Nat, w = .str s ∧ s.length = n ∧ ∀ c ∈ s, low c
theorem letters_ok {n : Nat} (hn : n ≤ 1000) : Gn FA r__law_letters [.int n] n (isWd n) := by
  refine Gn.of fun S i c f hi hP hf => ?_
  rw [e__law_letters]
  refine fn_sat ?_
  simp only [m__law_letters, ssat_ret, sat_methB, sat_con, sat_cons, sat_lc, sat_nil, q_rng1, sat_var]
  simp [List.replicate, bmTy, wipeW]
  refine ⟨by omega, ?_⟩
  refine lc_gn (F := FA) (S := S) (E := []) (κ := 1) (φ := fun _ y => ∃ c, y = .str [c] ∧ low c) (by simp) (by simp) hi hP (by simpa using hf) (by have := hSLv; simp; omega) ?_ ?_
  · intro k x acc E' c g hk hP hg
    simp only [sat_bin, sat_con, sat_call, sat_cons, sat_nil, sat_var]
    simp
    refine (take_ok (n := 26) (by decide) (by decide)).run hi hP hg fun c' w hP' ⟨z, e, h0, h1⟩ => ?_
    subst e
    rw [q_ix_s (by have := hSLv; simp; omega)]
    obtain ⟨q, e1, e2⟩ := atI_ex (xs := [97, 98, 99, 100, 101, 102, 103, 104, 105, 106, 107, 108, 109, 110, 111, 112, 113, 114, 115, 116, 117, 118, 119, 120, 121, 122]) h0 h1
    refine ⟨q, e1, c', ⟨E', rfl⟩, hP', q, rfl, ?_⟩
    have : ∀ q ∈ [97, 98, 99, 100, 101, 102, 103, 104, 105, 106, 107, 108, 109, 110, 111, 112, 113, 114, 115, 116, 117, 118, 119, 120, 121, 122], 97 ≤ q ∧ q < 123 := by decide
    exact this q e2
  · intro ys c' E' hl hy hP'
    simp at hl hP' ⊢
    refine q_signs (items_l (xs := ys) (st_new (k := 0))) hy (by have := hSLv; omega) fun cs h2 h3 => ?_
    exact end_gn (F := FA) hP' (by simp) (by simp [oldW]) ⟨cs, rfl, by omega, h3⟩
def isN (w : W) : Prop := ∃ z : Int, w = .int z
theorem far_ok : Gn FA r__law_far [] 10 isN := by
  refine Gn.of fun S i c f hi hP hf => ?_
  rw [e__law_far]
  refine fn_sat ?_
  simp only [m__law_far, ssat_ret, ssat_seq, ssat_asg, ssat_for, sat_con, q_rng1, sat_var]
  simp [List.replicate]
  refine for_gn (F := FA) (S := S) (E := []) (κ := 1) (fun _ m _ => ∃ (z : Int) (o : Option W), m = [some (.ref i), some (.int z), o]) rfl hi hP (by simpa using hf) ⟨0, none, rfl⟩ ?_ ?_
  · rintro k x m E' c g hk hP hg ⟨z, o, rfl⟩
    simp only [ssat_asg, sat_bin, sat_var, sat_con, sat_call, sat_cons, sat_nil]
    simp
    refine (take_ok (n := 1000000) (by decide) (by decide)).run hi hP hg fun c' w hP' ⟨z', e, h0, h1⟩ => ?_
    subst e
    simp
    exact ⟨c', ⟨E', rfl⟩, hP'⟩
  · rintro m c' E' ⟨z, o, rfl⟩ hP'
    simp at hP' ⊢
    exact end_gn (F := FA) hP' (by simp) (by simp [oldW]) ⟨_, rfl⟩
def ascii (c : Nat) : Prop := c < 128
/-- one sign -/
def isSg (w : W) : Prop := ∃ c : Nat, w = .str [c] ∧ c < 127 ∧ c ≠ 37
theorem odd_ok : Gn FA r__law_odd [] 1 isSg := by
  refine Gn.of fun S i c f hi hP hf => ?_
  rw [e__law_odd]
  refine fn_sat ?_
  simp only [m__law_odd, ssat_ret, ssat_seq, ssat_asg, sat_con, sat_var, sat_bin, sat_call, sat_cons, sat_nil]
  simp [List.replicate]
  refine ⟨by have := hSLv; omega, ?_⟩
  refine (take_ok (n := 23) (by decide) (by decide)).run hi hP hf fun c' w hP' ⟨z, e, h0, h1⟩ => ?_
  subst e
  rw [q_ix_s (by have := hSLv; simp; omega)]
  obtain ⟨q, e1, e2⟩ := atI_ex (xs := [65, 90, 48, 57, 32, 95, 45, 46, 10, 9, 91, 93, 123, 125, 60, 62, 33, 124, 35, 94, 126, 96, 64]) h0 h1
  refine ⟨q, e1, end_gn (F := FA) hP' (by simp) (by simp [oldW]) ⟨q, rfl, ?_⟩⟩
  have : ∀ q ∈ [65, 90, 48, 57, 32, 95, 45, 46, 10, 9, 91, 93, 123, 125, 60, 62, 33, 124, 35, 94, 126, 96, 64], q < 127 ∧ q ≠ 37 := by decide
  exact this q e2
theorem some_ok : Gn FA r__law_some [] 1 isSg := by
  refine Gn.of fun S i c f hi hP hf => ?_
  rw [e__law_some]
  refine fn_sat ?_
  simp only [m__law_some, ssat_ret, ssat_seq, ssat_asg, sat_con, sat_var, sat_bin, sat_call, sat_cons, sat_nil]
  simp [List.replicate]
  refine ⟨by have := hSLv; omega, ?_⟩
  refine (take_ok (n := 94) (by decide) (by decide)).run hi hP hf fun c' w hP' ⟨z, e, h0, h1⟩ => ?_
  subst e
  rw [q_ix_s (by have := hSLv; simp; omega)]
  obtain ⟨q, e1, e2⟩ := atI_all (xs := [32, 33, 34, 35, 36, 38, 39, 40, 41, 42, 43, 44, 45, 46, 47, 48, 49, 50, 51, 52, 53, 54, 55, 56, 57, 58, 59, 60, 61, 62, 63, 64, 65, 66, 67, 68, 69, 70, 71, 72, 73, 74, 75, 76, 77, 78, 79, 80, 81, 82, 83, 84, 85, 86, 87, 88, 89, 90, 91, 92, 93, 94, 95, 96, 97, 98, 99, 100, 101, 102, 103, 104, 105, 106, 107, 108, 109, 110, 111, 112, 113, 114, 115, 116, 117, 118, 119, 120, 121, 122, 123, 124, 125, 126]) (fun c => decide (c < 127 ∧ c ≠ 37)) (by decide) h0 h1
  exact ⟨q, e1, end_gn (F := FA) hP' (by simp) (by simp [oldW]) ⟨q, rfl, of_decide_eq_true e2⟩⟩
/-- what the law hands in -/
def Th (w : W) (S : Store) : Prop := match w with
  | .str s => s.length ≤ 1000 ∧ ∀ c ∈ s, c < 127 ∧ c ≠ 37
  | .ref j => (∃ xs, S[j]? = some (.lst xs)) ∨ ∃ kvs, S[j]? = some (.dic kvs)
  | _ => True
theorem letters_i {z : Int} (h0 : 0 ≤ z) (h1 : z ≤ 1000) : Gn FA r__law_letters [.int z] z.toNat (isWd z.toNat) := by
  have := letters_ok (n := z.toNat) (by omega)
  rw [show ((z.toNat : Nat) : Int) = z by omega] at this
  exact this
def Qt (S : Store) (i f : Nat) : W → Store → Prop := fun w S' => ∃ c' E2, S' = st S i c' E2 ∧ FA.P c' f ∧ Th w S'
theorem end_t {S : Store} {i f g : Nat} {c c' : Cell} {E2 : Store} {s : List Nat} {X : Ex → Store → Prop} (hP : FA.P c' g) (h : f ≤ g) (hl : s.length ≤ 1000) (hs : ∀ c ∈ s, c < 127 ∧ c ≠ 37) : (gc (st S i c []) (.ok (.str s) (st S i c' E2))).Sat (Qt S i f) X := by
  rw [gc_gn (fun n => FA.old n hP) (by simp [oldW])]
  exact ⟨⟨c', [], rfl, FA.mono hP h, hl, hs⟩⟩
theorem Qt.of {S : Store} {i f : Nat} {w : W} {S' : Store} (c' : Cell) (E2 : Store) (e : S' = st S i c' E2) (h : FA.P c' f) (t : Th w S') : Qt S i f w S' := ⟨c', E2, e, h, t⟩
theorem thing0 {S : Store} {i : Nat} {c : Cell} {f : Nat} (hi : i < S.length) (hP : FA.P c f) (hf : 200 ≤ f) : (r__law_thing [.ref i] (st S i c [])).Sat (Qt S i (f - 200)) NoX := by
  have hSL := hSLv
  rw [e__law_thing]
  refine fn_sat ?_
  generalize hQ : Qt S i (f - 200) = Q
  simp only [m__law_thing, ssat_ret, ssat_seq, ssat_asg, sat_con, sat_var, sat_bin, sat_call, sat_cons, sat_nil]
  simp [List.replicate]
  refine (take_ok (n := 16) (by decide) (by decide)).run hi hP (by omega) fun c1 w hP1 ⟨way, e, w0, w1⟩ => ?_
  subst e
  refine (take_ok (n := 8) (by decide) (by decide)).run hi hP1 (by omega) fun c2 w hP2 ⟨z, e, z0, z1⟩ => ?_
  subst e
  simp only [q_add_i]
  refine (letters_i (by omega) (by omega)).run hi hP2 (by omega) fun c3 w hP3 ⟨wd, e, d0, d1⟩ => ?_
  subst e
  have d2 : ∀ c ∈ wd, c < 127 ∧ c ≠ 37 := fun c h => by have := d1 c h; unfold low at this; omega
  simp only [q_len_s]
  refine ⟨by omega, ?_⟩
  refine (take_ok (n := wd.length) (by omega) (Nat.lt_of_le_of_lt (show _ ≤ 1000 by omega) (by decide))).run hi hP3 (by omega) fun c4 w hP4 ⟨at_, e, a0, a1⟩ => ?_
  subst e
  refine ⟨by omega, ?_⟩
  simp only [st_app]
  refine (take_ok (n := 2) (by decide) (by decide)).run hi hP4 (by omega) fun c5 w hP5 ⟨sg, e, s0, s1⟩ => ?_
  subst e
  have l5 : ∀ c, (st S i c ([] ++ [Cell.lst [W.int 1, W.int (-1)]]))[(st S i c4 []).length]? = some (Cell.lst [W.int 1, W.int (-1)]) := fun c => by rw [st_length]; exact st_new (k := 0)
  rw [q_ix_l (l5 _)]
  obtain ⟨u, hu, hu2⟩ : ∃ u : Int, atI [W.int 1, W.int (-1)] sg = some (.int u) ∧ (u = 1 ∨ u = -1) := by
    have : sg = 0 ∨ sg = 1 := by omega
    rcases this with rfl | rfl
    · exact ⟨1, by simp, .inl rfl⟩
    · exact ⟨-1, by simp, .inr rfl⟩
  refine ⟨_, hu, ?_⟩
  refine far_ok.run hi hP5 (by omega) fun c6 w hP6 ⟨fr, e⟩ => ?_
  subst e
  simp only [q_mul_i]
  refine ⟨.inl (by omega), ?_⟩
  simp only [q_lt_i, q_eq_i]
  by_cases k1 : way < 3
  · simp only [k1, decide_true, if_true]
    subst hQ
    exact end_t hP6 (by omega) (by omega) d2
  simp only [k1, decide_false, if_false, Bool.false_eq_true]
  by_cases k2 : way = 3
  · simp only [k2, decide_true, if_true]
    refine (take_ok (n := 3) (by decide) (by decide)).run hi hP6 (by omega) fun c7 w hP7 ⟨x, e, x0, x1⟩ => ?_
    subst e
    refine (take_ok (n := 30) (by decide) (by decide)).run hi hP7 (by omega) fun c8 w hP8 ⟨y, e, y0, y1⟩ => ?_
    subst e
    have xy : x * y ≤ 2 * 29 := Int.mul_le_mul (by omega) (by omega) y0 (by omega)
    have xy0 : 0 ≤ x * y := Int.mul_nonneg x0 y0
    simp only [q_mul_i, q_add_i]
    refine ⟨.inl (by omega), ?_⟩
    refine (letters_i (by omega) (by omega)).run hi hP8 (by omega) fun c9 w hP9 ⟨wd2, e, f0, f1⟩ => ?_
    subst e
    subst hQ
    exact end_t hP9 (by omega) (by omega) (fun c h => by have := f1 c h; unfold low at this; omega)
  simp only [k2, decide_false, if_false, Bool.false_eq_true]
  by_cases k3 : way = 4
  · simp only [k3, decide_true, if_true, q_sl_s, q_add_i]
    refine ⟨by omega, ?_⟩
    refine odd_ok.run hi hP6 (by omega) fun c7 w hP7 ⟨x, e, x0⟩ => ?_
    subst e
    have g1 := cut_len (xs := wd) (lo := none) (hi := some at_)
    have g2 := cut_len (xs := wd) (lo := some (at_ + 1)) (hi := none)
    simp only [q_add_s, q_sl_s]
    refine ⟨by simp; omega, by omega, by simp; omega, ?_⟩
    subst hQ
    refine end_t hP7 (by omega) (by simp; omega) fun c h => ?_
    simp only [List.mem_append, List.mem_singleton] at h
    rcases h with (h | h) | h
    · exact d2 _ (cut_mem h)
    · omega
    · exact d2 _ (cut_mem h)
  simp only [k3, decide_false, if_false, Bool.false_eq_true]
  by_cases k4 : way = 5
  · simp only [k4, decide_true, if_true]
    refine (take_ok (n := 7) (by decide) (by decide)).run hi hP6 (by omega) fun c7 w hP7 ⟨x, e, x0, x1⟩ => ?_
    subst e
    simp only [q_add_i, q_sl_s]
    refine ⟨by omega, ?_⟩
    refine odd_ok.run hi hP7 (by omega) fun c8 w hP8 ⟨y, e, y0⟩ => ?_
    subst e
    have g1 := cut_len (xs := wd) (lo := none) (hi := some (1 + x))
    simp only [q_add_s]
    refine ⟨by simp; omega, ?_⟩
    subst hQ
    refine end_t hP8 (by omega) (by simp; omega) fun c h => ?_
    simp only [List.mem_append, List.mem_singleton] at h
    rcases h with h | h
    · exact d2 _ (cut_mem h)
    · omega
  simp only [k4, decide_false, if_false, Bool.false_eq_true]
  by_cases k5 : way < 9
  · simp only [k5, decide_true, if_true]
    refine some_ok.run hi hP6 (by omega) fun c7 w hP7 ⟨x, e, x0⟩ => ?_
    subst e
    subst hQ
    exact end_t hP7 (by omega) (by simp) (by simpa using x0)
  simp only [k5, decide_false, if_false, Bool.false_eq_true]
  by_cases k6 : way < 11
  · simp only [k6, decide_true, if_true]
    refine odd_ok.run hi hP6 (by omega) fun c7 w hP7 ⟨x, e, x0⟩ => ?_
    subst e
    subst hQ
    exact end_t hP7 (by omega) (by simp) (by simpa using x0)
  simp only [k6, decide_false, if_false, Bool.false_eq_true]
  by_cases k7 : way = 11
  · simp only [k7, decide_true, if_true]
    refine some_ok.run hi hP6 (by omega) fun c7 w hP7 ⟨x, e, x0⟩ => ?_
    subst e
    refine odd_ok.run hi hP7 (by omega) fun c8 w hP8 ⟨y, e, y0⟩ => ?_
    subst e
    simp only [q_add_s]
    refine ⟨by simp; omega, ?_⟩
    subst hQ
    refine end_t hP8 (by omega) (by simp) fun c h => ?_
    simp at h
    omega
  simp only [k7, decide_false, if_false, Bool.false_eq_true]
  refine (take_ok (n := 2) (by decide) (by decide)).run hi hP6 (by omega) fun c7 w hP7 ⟨tr, e, x0, x1⟩ => ?_
  subst e
  simp only [q_eq_i]
  refine ⟨by omega, ?_⟩
  rw [sat_disp]
  have e7 : st S i c7 ([] ++ [Cell.lst [W.int 1, W.int (-1)]]) ++ [Cell.lst [W.str wd]] ++ [Cell.dic []] = st S i c7 [Cell.lst [W.int 1, W.int (-1)], Cell.lst [W.str wd], Cell.dic []] := by simp
  have l7 : (st S i c7 ([] ++ [Cell.lst [W.int 1, W.int (-1)]]) ++ [Cell.lst [W.str wd]]).length = S.length + 2 := by simp
  have l8 : (st S i c7 ([] ++ [Cell.lst [W.int 1, W.int (-1)]])).length = S.length + 1 := by simp
  have t7 : (st S i c7 [Cell.lst [W.int 1, W.int (-1)], Cell.lst [W.str wd], Cell.dic []])[S.length + 2]? = some (.dic []) := st_new (k := 2)
  have p7 : (st S i c7 [Cell.lst [W.int 1, W.int (-1)], Cell.lst [W.str wd], Cell.dic []]).set (S.length + 2) (.dic (mergeD [] [(.str wd, .str wd)])) = st S i c7 [Cell.lst [W.int 1, W.int (-1)], Cell.lst [W.str wd], Cell.dic (mergeD [] [(.str wd, .str wd)])] := st_put (k := 2)
  rw [e7, l7, l8]
  generalize st S i c7 [Cell.lst [W.int 1, W.int (-1)], Cell.lst [W.str wd], Cell.dic []] = T at t7 p7 ⊢
  simp only [sat_dgo, sat_dgo0, sat_var, List.getElem?_cons_zero, List.getElem?_cons_succ]
  refine ⟨_, rfl, _, rfl, t7, ⟨rfl, by simp⟩, by omega, ?_⟩
  rw [p7]
  generalize mergeD [] [(.str wd, .str wd)] = dd
  simp only [st_app, st_length, List.cons_append, List.nil_append, List.length_cons, List.length_nil, Nat.zero_add, Nat.add_assoc, Nat.reduceAdd]
  refine (take_ok (n := 8) (by decide) (by decide)).run hi hP7 (by omega) fun c8 w hP8 ⟨y, e, y0, y1⟩ => ?_
  subst e
  generalize hE : [Cell.lst [W.int 1, W.int (-1)], Cell.lst [W.str wd], Cell.dic dd, Cell.lst [], Cell.lst [W.str [], W.non, W.bl (decide (tr = 1)), W.int (u * fr), W.ref (S.length + 1), W.tup [W.str wd], W.ref (S.length + 2), W.ref (S.length + 3)]] = E8
  have l8 : (st S i c8 E8)[S.length + 4]? = some (Cell.lst [W.str [], W.non, W.bl (decide (tr = 1)), W.int (u * fr), W.ref (S.length + 1), W.tup [W.str wd], W.ref (S.length + 2), W.ref (S.length + 3)]) := by subst hE; exact st_new (k := 4)
  rw [q_ix_l l8]
  have m1 : E8[1]? = some (.lst [W.str wd]) := by subst hE; rfl
  have m2 : E8[2]? = some (.dic dd) := by subst hE; rfl
  have m3 : E8[3]? = some (.lst []) := by subst hE; rfl
  have flat : ∀ w : W, oldW S.length w = true → (∀ T, Th w T) → (gc (st S i c []) (.ok w (st S i c8 E8))).Sat Q NoX := fun w o t => by
    rw [gc_gn (fun n => FA.old n hP8) o]
    subst hQ
    exact ⟨Qt.of c8 [] rfl (FA.mono hP8 (by omega)) (t _)⟩
  have cs : y = 0 ∨ y = 1 ∨ y = 2 ∨ y = 3 ∨ y = 4 ∨ y = 5 ∨ y = 6 ∨ y = 7 := by omega
  rcases cs with rfl | rfl | rfl | rfl | rfl | rfl | rfl | rfl
  · exact ⟨_, rfl, flat _ (by simp [oldW]) fun T => ⟨by simp, by simp⟩⟩
  · exact ⟨_, rfl, flat _ (by simp [oldW]) fun T => True.intro⟩
  · exact ⟨_, rfl, flat _ (by simp [oldW]) fun T => True.intro⟩
  · exact ⟨_, rfl, flat _ (by simp [oldW]) fun T => True.intro⟩
  · refine ⟨_, rfl, ?_⟩
    rw [gc_gnl (fun n => FA.old n hP8) m1 (by simp [oldL, oldW])]
    subst hQ
    exact ⟨Qt.of c8 [.lst [W.str wd]] rfl (FA.mono hP8 (by omega)) (.inl ⟨_, st_new (k := 0)⟩)⟩
  · exact ⟨_, rfl, flat _ (by simp [oldW, oldL]) fun T => True.intro⟩
  · refine ⟨_, rfl, ?_⟩
    rw [gc_dic (kvs := dd) (by simp) (by rw [st_new]; exact m2)]
    subst hQ
    exact ⟨Qt.of c8 E8 rfl (FA.mono hP8 (by omega)) (.inr ⟨dd, by rw [st_new]; exact m2⟩)⟩
  · refine ⟨_, rfl, ?_⟩
    rw [gc_gnl (fun n => FA.old n hP8) m3 (by simp [oldL])]
    subst hQ
    exact ⟨Qt.of c8 [.lst []] rfl (FA.mono hP8 (by omega)) (.inl ⟨_, st_new (k := 0)⟩)⟩
theorem thing_ok {S : Store} {i : Nat} {c : Cell} {E : Store} {f : Nat} {Q : W → Store → Prop} {X : Ex → Store → Prop} (hi : i < S.length) (hP : FA.P c f) (hf : 200 ≤ f) (k : ∀ w c' E2, FA.P c' (f - 200) → Th w (st S i c' E2) → Q w (st S i c' E2)) : (r__law_thing [.ref i] (st S i c E)).Sat Q X := by
  have e : st S i c E = st (st S i c E) i c [] := by rw [st_st hi, List.append_nil]
  rw [e]
  refine (thing0 (S := st S i c E) (by rw [st_length]; omega) hP hf).use fun w S' ⟨c', E2, e2, h1, h2⟩ => ?_
  rw [e2, st_st hi] at *
  exact k w c' _ h1 h2
theorem th_isi {w : W} {S : Store} (h : Th w S) : ((tyW w S).bind fun t => kitB t "str") = some (isSt w) := by
  obtain ⟨k1, k2, k3, k4, k5, k6, k7⟩ := kit_str
  cases w with
  | non => simpa [tyW, isSt] using k1
  | bl b => simpa [tyW, isSt] using k2
  | int b => simpa [tyW, isSt] using k3
  | str b => simpa [tyW, isSt] using k4
  | tup b => simpa [tyW, isSt] using k5
  | ref j =>
    rcases h with ⟨xs, e⟩ | ⟨xs, e⟩
    · simpa [tyW, isSt, e] using k6
    · simpa [tyW, isSt, e] using k7
def LT : List Nat := [97, 98, 99, 100, 101, 102, 103, 104, 105, 106, 107, 108, 109, 110, 111, 112, 113, 114, 115, 116, 117, 118, 119, 120, 121, 122]
def isWord : W → Bool
  | .str s => decide (1 ≤ s.length) && decide (s.length ≤ 8) && s.all fun c => decide (c ∈ LT)
  | _ => false
def isSign : W → Bool
  | .str [c] => decide (c = 10) || (decide (32 ≤ c) && decide (c ≤ 126))
  | _ => false
theorem flt_all (p : Nat → Bool) (s : List Nat) : ((s.map fun c => W.str [c]).filter (fun x => match x with | .str [c] => !p c | _ => false)) = [] ↔ s.all p = true := by
  rw [List.filter_eq_nil_iff, List.all_eq_true]
  constructor
  · intro h c hc
    have := h (.str [c]) (List.mem_map.mpr ⟨c, hc, rfl⟩)
    simpa using this
  · intro h x hx
    obtain ⟨c, hc, rfl⟩ := List.mem_map.mp hx
    simpa using h c hc
theorem is_word_ok {w : W} {S : Store} (h : Th w S) : (r_is_word [w] S).Sat (fun v S' => v = .bl (isWord w) ∧ S' = S) NoX := by
  have hSL := hSLv
  rw [e_is_word]
  refine fn_sat ?_
  simp only [m_is_word, ssat_ret, ssat_seq, ssat_if, sat_tor, sat_tnot, sat_tVal, sat_tB, sat_isi, sat_chain, sat_con, sat_var, sat_bin, sat_call, sat_cons, sat_nil, ssat_next]
  simp [List.replicate, th_isi h, truW]
  cases w with
  | str s =>
    obtain ⟨hl, hc⟩ := h
    simp only [isSt, Bool.not_true, Bool.false_eq_true, if_false, q_len_s, q_le_i, c_LONGEST]
    refine ⟨by omega, ?_⟩
    by_cases k1 : 1 ≤ s.length
    · by_cases k2 : s.length ≤ 8
      · have k1' : (1 : Int) ≤ s.length := by omega
        have k2' : (s.length : Int) ≤ 8 := by omega
        simp only [k1', k2', decide_true, if_true]
        refine lc_pure rfl rfl (fun _ => true) (fun x => match x with | .str [c] => .bl (decide (c ∈ LT)) | _ => .non) (fun E => guards_nil) (by simp; omega) (fun x hx E => by simp) (fun x hx _ E => ?_) ?_
        · obtain ⟨c, hc1, rfl⟩ := List.mem_map.mp hx
          simp only [sat_bin, sat_var, sat_con, q_in]
          exact ⟨_, rfl, _, in_sign, rfl, trivial⟩
        · have e1 : (((s.map fun c => W.str [c]).filter fun _ => true).map fun x => match x with | .str [c] => W.bl (decide (c ∈ LT)) | _ => .non) = s.map fun c => .bl (decide (c ∈ LT)) := by
            rw [List.filter_eq_self.mpr (by simp), List.map_map]; rfl
          rw [e1, q_all (by simp; rfl) (bls_map _ _)]
          simp [isWord, k1, k2, List.all_map]
      · have k1' : (1 : Int) ≤ s.length := by omega
        have k2' : ¬ (s.length : Int) ≤ 8 := by omega
        simp [isWord, k1, k2, k1', k2']
    · have k1' : ¬ (1 : Int) ≤ s.length := by omega
      simp [isWord, k1, k1']
  | _ => simp [isSt, isWord]
theorem law_is_word_ok {w : W} {S : Store} (h : Th w S) : (r__law_is_word [w] S).Sat (fun v S' => v = .bl (isWord w) ∧ S' = S) NoX := by
  have hSL := hSLv
  rw [e__law_is_word]
  refine fn_sat ?_
  simp only [m__law_is_word, ssat_ret, ssat_seq, ssat_if, sat_tor, sat_tnot, sat_tVal, sat_tB, sat_isi, sat_chain, sat_con, sat_var, sat_bin, sat_call, sat_cons, sat_nil, ssat_next]
  simp [List.replicate, th_isi h, truW]
  cases w with
  | str s =>
    obtain ⟨hl, hc⟩ := h
    simp only [isSt, Bool.not_true, Bool.false_eq_true, if_false, q_len_s, q_lt_i, q_gt_i]
    refine ⟨by omega, ?_⟩
    by_cases k1 : 1 ≤ s.length
    · have k1' : ¬ (s.length : Int) < 1 := by omega
      simp only [k1', decide_false, Bool.false_eq_true, if_false]
      refine ⟨by omega, ?_⟩
      by_cases k2 : s.length ≤ 8
      · have k2' : ¬ (8 : Int) < s.length := by omega
        simp only [k2', decide_false, Bool.false_eq_true, if_false]
        refine lc_pure rfl rfl (fun x => match x with | .str [c] => !decide (c ∈ LT) | _ => false) (fun x => x) (fun E => guards_nil) (by simp; omega) (fun x hx E => ?_) (fun x hx _ E => ?_) ?_
        · obtain ⟨c, hc1, rfl⟩ := List.mem_map.mp hx
          simp only [sat_tB, sat_bin, sat_var, sat_con, q_notin]
          exact ⟨_, rfl, _, in_sign, rfl, trivial⟩
        · obtain ⟨c, hc1, rfl⟩ := List.mem_map.mp hx
          simp only [sat_var]
          exact ⟨_, rfl, rfl, trivial⟩
        · rw [q_len_l (by simp; rfl), q_eq_i]
          simp only [gcs_b']
          refine ⟨?_, trivial⟩
          have e2 := flt_all (fun c => decide (c ∈ LT)) s
          rw [isWord]
          simp only [k1, k2, decide_true, Bool.true_and]
          by_cases k3 : (s.all fun c => decide (c ∈ LT)) = true
          · rw [k3, e2.mpr k3]; rfl
          · have k4 := mt e2.mp k3
            have k5 : ¬ (((s.map fun c => W.str [c]).filter (fun x => match x with | .str [c] => !decide (c ∈ LT) | _ => false)).length : Int) = 0 := fun h => k4 (List.eq_nil_of_length_eq_zero (by omega))
            rw [decide_eq_false k5, Bool.eq_false_iff.mpr k3]
      · have k2' : (8 : Int) < s.length := by omega
        simp [isWord, k1, k2, k2']
    · have k1' : (s.length : Int) < 1 := by omega
      simp [isWord, k1, k1']
  | _ => simp [isSt, isWord]
theorem is_sign_ok {w : W} {S : Store} (h : Th w S) : (r_is_sign [w] S).Sat (fun v S' => v = .bl (isSign w) ∧ S' = S) NoX := by
  have hSL := hSLv
  rw [e_is_sign]
  refine fn_sat ?_
  simp only [m_is_sign, ssat_ret, ssat_seq, ssat_if, sat_tor, sat_tnot, sat_tVal, sat_tB, sat_isi, sat_chain, sat_con, sat_var, sat_bin, sat_call, sat_cons, sat_nil, ssat_next, sat_or, sat_and]
  simp [List.replicate, th_isi h, truW]
  cases w with
  | str s =>
    obtain ⟨hl, hc⟩ := h
    simp only [isSt, Bool.not_true, Bool.false_eq_true, if_false, q_len_s, q_ne_i]
    refine ⟨by omega, ?_⟩
    by_cases k1 : s.length = 1
    · match s, k1 with
      | [c], _ =>
        have hc0 := hc c (by simp)
        have o1 : okS [c] = true := by simp [okS]; omega
        simp only [List.length_cons, List.length_nil, Nat.zero_add, Int.cast_ofNat_Int, decide_true, Bool.not_true, Bool.false_eq_true, if_false]
        rw [q_eq_s o1 (by decide)]
        by_cases k2 : c = 10
        · simp [k2, isSign]
        · simp only [k2, List.cons.injEq, and_true, decide_false, isSign, Bool.false_or, q_le_s]
          by_cases b1 : c < 32
          · have a1 : ([c] < [32]) := by simpa [List.cons_lt_cons_iff] using b1
            simp only [a1, decide_true, Bool.not_true]
            simp; omega
          · have a1 : ¬ ([c] < [32]) := by simpa [List.cons_lt_cons_iff] using b1
            simp only [a1, decide_false, Bool.not_false]
            by_cases b2 : 126 < c
            · have a2 : ([126] < [c]) := by simpa [List.cons_lt_cons_iff] using b2
              simp only [a2, decide_true, Bool.not_true]
              simp; omega
            · have a2 : ¬ ([126] < [c]) := by simpa [List.cons_lt_cons_iff] using b2
              simp only [a2, decide_false, Bool.not_false]
              have b3 : 32 ≤ c := by omega
              have b4 : c ≤ 126 := by omega
              have b5 : ¬ ((c : Int) = 37) := by omega
              simp [b3, b4, b5]
    · have k1' : ¬ (s.length : Int) = 1 := by omega
      simp only [k1', decide_false, Bool.not_false, if_true]
      have : isSign (.str s) = false := by
        match s, k1 with
        | [], _ => rfl
        | _ :: _ :: _, _ => rfl
      simp [this]
  | _ => simp [isSt, isSign]
theorem law_is_sign_ok {w : W} {S : Store} (h : Th w S) : (r__law_is_sign [w] S).Sat (fun v S' => v = .bl (isSign w) ∧ S' = S) NoX := by
  have hSL := hSLv
  rw [e__law_is_sign]
  refine fn_sat ?_
  simp only [m__law_is_sign, ssat_ret, ssat_seq, ssat_if, sat_tor, sat_tnot, sat_tVal, sat_tB, sat_isi, sat_chain, sat_con, sat_var, sat_bin, sat_call, sat_cons, sat_nil, ssat_next, sat_or, sat_and]
  simp [List.replicate, th_isi h, truW]
  cases w with
  | str s =>
    obtain ⟨hl, hc⟩ := h
    simp only [isSt, Bool.not_true, Bool.false_eq_true, if_false, q_len_s, q_ne_i]
    refine ⟨by omega, ?_⟩
    by_cases k1 : s.length = 1
    · match s, k1 with
      | [c], _ =>
        have hc0 := hc c (by simp)
        have o1 : okS [c] = true := by simp [okS]; omega
        simp only [List.length_cons, List.length_nil, Nat.zero_add, Int.cast_ofNat_Int, decide_true, Bool.not_true, Bool.false_eq_true, if_false]
        rw [q_eq_s o1 (by decide)]
        by_cases k2 : c = 10
        · simp [k2, isSign]
        · simp only [k2, List.cons.injEq, and_true, decide_false, isSign, Bool.false_or, q_ord, q_le_i]
          by_cases b1 : 32 ≤ c
          · have b1' : (32 : Int) ≤ c := by omega
            have b2 : c ≤ 126 := by omega
            simp [b1, b1', b2]
            omega
          · have b1' : ¬ (32 : Int) ≤ c := by omega
            simp [b1, b1']
    · have k1' : ¬ (s.length : Int) = 1 := by omega
      simp only [k1', decide_false, Bool.not_false, if_true]
      have : isSign (.str s) = false := by
        match s, k1 with
        | [], _ => rfl
        | _ :: _ :: _, _ => rfl
      simp [this]
  | _ => simp [isSt, isSign]
theorem well_ok {ns : List Int} {E : Store} {k : Nat} (hk : k < 64) : (r__law_well [.ref 0, .int k] (.scr (ns.map W.int) :: E)).Sat (fun w S' => ∃ c, w = .ref (E.length + 1) ∧ S' = .scr (ns.map W.int) :: (E ++ [c]) ∧ FA.P c 100000) NoX := by
  rw [e__law_well]
  refine fn_sat ?_
  have h0 : (Cell.scr (ns.map W.int) :: E)[0]? = some (.scr (ns.map W.int)) := rfl
  simp only [m__law_well, ssat_ret, ssat_seq, ssat_if, ssat_asg, sat_tB, sat_con, sat_var, sat_bin, sat_call, sat_cons, sat_nil, ssat_next, sat_lst]
  simp [List.replicate, q_len_scr h0, q_ix_scr h0]
  have fin : ∀ z : Int, (bnRun .abs [.int z] (Cell.scr (ns.map W.int) :: E)).Sat (fun x S1 => (opGe x (W.int 1000000000000000000) S1).Sat (fun x S1 => (bnRun .int [x] S1).Sat (fun x S1 => 3 ≤ SL ∧ (gc (Cell.scr (ns.map W.int) :: E) (Out.ok (W.ref S1.length) (S1 ++ [Cell.lst [x, .int z, W.int (31 * (k : Int))]]))).Sat
      (fun w S' => w = W.ref (E.length + 1) ∧ ∃ x, S' = Cell.scr (ns.map W.int) :: (E ++ [x]) ∧ FA.P x 100000) NoX)
      fun x S => (gc (Cell.scr (ns.map W.int) :: E) (Out.exc x S)).Sat (fun w S' => w = W.ref (E.length + 1) ∧ ∃ x, S' = Cell.scr (ns.map W.int) :: (E ++ [x]) ∧ FA.P x 100000) NoX)
      fun x S => (gc (Cell.scr (ns.map W.int) :: E) (Out.exc x S)).Sat (fun w S' => w = W.ref (E.length + 1) ∧ ∃ x, S' = Cell.scr (ns.map W.int) :: (E ++ [x]) ∧ FA.P x 100000) NoX)
      fun x S => (gc (Cell.scr (ns.map W.int) :: E) (Out.exc x S)).Sat (fun w S' => w = W.ref (E.length + 1) ∧ ∃ x, S' = Cell.scr (ns.map W.int) :: (E ++ [x]) ∧ FA.P x 100000) NoX := fun z => by
    simp only [q_abs, q_ge_i, q_int_b]
    refine ⟨by have := hSLv; omega, ?_⟩
    exact gc_fresh (xs := [W.int (if decide (1000000000000000000 ≤ if z < 0 then -z else z) = true then 1 else 0), W.int z, W.int (31 * (k : Int))]) (by simp [oldL, oldW]) ⟨by simp, Cell.lst [W.int (if decide (1000000000000000000 ≤ if z < 0 then -z else z) = true then 1 else 0), W.int z, W.int (31 * (k : Int))], by simp, ⟨_, z, 31 * (k : Int), rfl, by omega, by omega⟩⟩
  split
  · rename_i hl
    refine ⟨.int (ns[k]), ?_, fin _⟩
    rw [atI_nat (by omega) (by simpa using hl)]
    simp [hl]
  · have := fin 0
    simpa using this
theorem Th.keep {w : W} {S : Store} {S' : Store} (h : Th w S) (e : S' = S) : Th w S' := e ▸ h
theorem law_ok (ns : List Int) (hn : ns.length ≤ 63) : (r_law [.ref 0] [.scr (ns.map W.int)]).Sat (fun w _ => w = .bl true) NoX := by
  have hSL := hSLv
  rw [e_law]
  refine fn_sat ?_
  have h0 : ∀ E, (Cell.scr (ns.map W.int) :: E)[0]? = some (.scr (ns.map W.int)) := fun _ => rfl
  simp only [m_law, ssat_ret, ssat_seq, ssat_if, ssat_asg, ssat_for, q_rng1, sat_tor, sat_tnot, sat_tVal, sat_isi, sat_tB, sat_con, sat_var, sat_bin, sat_call, sat_cons, sat_nil, ssat_next, sat_and]
  simp [List.replicate, q_len_scr (h0 [])]
  refine ⟨by omega, ?_⟩
  refine for_sat (fun rest m S' => (∀ x ∈ rest, ∃ k : Nat, k < 64 ∧ x = .int k) ∧ (∃ a b c d e f, m = [some (.ref 0), a, b, c, d, e, f]) ∧ ∃ E, S' = .scr (ns.map W.int) :: E) (fun x rest m S' h => ?_) (fun m S' h => ?_) ⟨fun x hx => ?_, ⟨none, none, none, none, none, none, rfl⟩, [], rfl⟩
  · obtain ⟨h1, ⟨a, b, c, d, e, f, rfl⟩, E, rfl⟩ := h
    obtain ⟨k, hk, rfl⟩ := h1 x (by simp)
    refine ⟨guards_nil, _, rfl, ?_⟩
    simp only [ssat_seq, ssat_asg, sat_call, sat_cons, sat_nil, sat_var, ssat_for, q_rng1, sat_con]
    simp
    refine (well_ok hk).use fun w S1 ⟨cl, e1, e2, hP⟩ => ?_
    subst e1
    have hi : E.length + 1 < (Cell.scr (ns.map W.int) :: (E ++ [cl])).length := by simp
    have hat : (Cell.scr (ns.map W.int) :: (E ++ [cl]))[E.length + 1]? = some cl := by simp
    rw [st_self hat] at e2
    refine for_gn (F := FA) (κ := 200) (fun _ m _ => ∃ a b c d e, m = [some (.ref 0), a, some (.ref (E.length + 1)), b, c, d, e]) e2 hi hP (by simp) ⟨_, _, _, _, _, rfl⟩ ?_ ?_
    · rintro k2 x2 m E2 c2 g hk2 hP2 hg ⟨a, b, c, d, e, rfl⟩
      simp only [ssat_seq, ssat_if, ssat_asg, sat_tor, sat_tnot, sat_tVal, sat_isi, sat_tB, sat_bin, sat_call, sat_cons, sat_nil, sat_var, sat_con, ssat_next, ssat_ret]
      simp
      refine thing_ok hi hP2 hg fun w c3 E3 hP3 ht => ?_
      refine (is_word_ok ht).use fun v1 S5 ⟨e1, e3⟩ => ?_
      subst e1 e3
      refine (is_sign_ok ht).use fun v2 S6 ⟨e1, e3⟩ => ?_
      subst e1 e3
      simp [tyW, kit_bool, truW]
      refine (law_is_word_ok ht).use fun v3 S7 ⟨e1, e3⟩ => ?_
      subst e1 e3
      simp
      refine (law_is_sign_ok ht).use fun v4 S8 ⟨e1, e3⟩ => ?_
      subst e1 e3
      simp
      exact ⟨c3, ⟨E3, rfl⟩, hP3⟩
    · rintro m c3 E3 ⟨a, b, c, d, e, rfl⟩ hP3
      refine ⟨fun x hx => h1 x (by simp [hx]), ⟨_, _, _, _, _, _, rfl⟩, ?_⟩
      unfold st
      simp
  · obtain ⟨h1, ⟨a, b, c, d, e, f, rfl⟩, E, rfl⟩ := h
    refine ⟨guards_nil, ?_⟩
    refine (is_word_ok (w := .str [104, 111, 109, 101]) ⟨by simp, by simp⟩).use fun v1 S5 ⟨e1, e3⟩ => ?_
    subst e1 e3
    have q1 : isWord (.str [104, 111, 109, 101]) = true := by decide
    have q2 : isSign (.str [10]) = true := by decide
    have q3 : isWord (.str []) = false := by decide
    have q4 : isSign (.str []) = false := by decide
    simp only [q1, q_is_b, decide_true]
    refine (is_sign_ok (w := .str [10]) ⟨by simp, by simp⟩).use fun v1 S5 ⟨e1, e3⟩ => ?_
    subst e1 e3
    simp only [q2, q_is_b, decide_true]
    refine (is_word_ok (w := .str []) ⟨by simp, by simp⟩).use fun v1 S5 ⟨e1, e3⟩ => ?_
    subst e1 e3
    simp only [q3, q_is_b, decide_true]
    refine (is_sign_ok (w := .str []) ⟨by simp, by simp⟩).use fun v1 S5 ⟨e1, e3⟩ => ?_
    subst e1 e3
    simp only [q4, q_is_b, decide_true]
    exact (gcs_b' (S := [Cell.scr (ns.map W.int)]) (E := E)).mpr rfl
  · obtain ⟨k, hk, rfl⟩ := rng_mem hx
    exact ⟨k, by omega, by simp⟩
theorem law_true : LawHolds r_law := fun ns hn _ => by
  obtain ⟨w, S, e, h⟩ := (law_ok ns hn).eq
  exact ⟨S, by rw [e, h]⟩
end K01

open PySem PySem.W PySem.Calls PyProof.Rows
theorem PySem.Challenge.cw_leafweb_k01_words_and_signs_holds : PySem.Challenge.rw_leafweb_k01_words_and_signs.Holds := by
  w_on; o_law
  refine HandSHeadRun.head_any (r := K01.RR) (q := view K01.RR.prog [16]) (H := K01.hk) (ob := K01.ob) (M := 4000) (loose := K01.ls) (d := HandSHeadRun.topDef K01.RR.prog 16) (kwd := []) K01.ob_eq
    (by kernel_rfl) (fun s => by kernel_rfl) K01.run (by kernel_rfl) (by kernel_rfl) (by kernel_rfl) (by rfl) (by first | assumption | decide +kernel) (by decide +kernel) ⟨rfl, rfl, rfl, rfl, rfl, by decide +kernel⟩ ?hw ?hc
  case hw => w_witness2
  case hc =>
    refine PD.law_walk (l := PySem.Challenge.rw_leafweb_k01_words_and_signs) (k := 4) (x := "_law_script") rfl (by kernel_rfl) ⟨rfl, by decide, by decide⟩ K01.law_true ?F
    intro w mg fa1 h Y G e0
    have en : (HandSHeadRun.topDef K01.RR.prog 16).name = ("law" : PySem.Str) := by kernel_rfl
    exact K01.fin w mg fa1 h Y G (en ▸ e0)
