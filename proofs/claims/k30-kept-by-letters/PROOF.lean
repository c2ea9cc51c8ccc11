import PyProof.Rows.All
import Wide.All
import OpenK.AllK
import Wide.FinOn
import HandS.ForMost
import HandS.Wide
import HandS.TupAny
import KE.DataEq
import KE.DataFind
import HandS.IsInst
import HandS.SortInts
import HandS.Zip
import HandS.Defaults
import KE.SortData
import HandS.Style
import HandS.MakeKwOnly
import KE.KUnpackStar
import PyProof.MakeMany
import HandS.SetFor
import HandS.Strs
import KE.DataCmp
import PySem.Challenge.RW_grantchain_k30_whole_kept_by_letters_in
set_option Elab.async false
set_option linter.all false
set_option maxRecDepth 100000
set_option maxHeartbeats 1000000
/-! FnBase: values as trees (D), memory cells, how they lie in the abstract heap; results; the reading tOf of a function. -/
namespace Fn
open PySem PySem.Spec PyProof.Rows L2

abbrev Txt := List Nat
def l2s (l : List Nat) : Str := ⟨l.toArray⟩
def s2l (x : Str) : List Nat := x.cps.toList
theorem l2s_s2l (x : Str) : l2s (s2l x) = x := by cases x with | mk c => simp [l2s, s2l]
theorem s2l_l2s (l : List Nat) : s2l (l2s l) = l := by simp [l2s, s2l]
theorem l2s_inj {a b : List Nat} (h : l2s a = l2s b) : a = b := by have := congrArg s2l h; rwa [s2l_l2s, s2l_l2s] at this

/-- a key of a dict -/
abbrev KK := Sum Int (List Nat)
def kk : KK → Key
  | .inl i => .inl i
  | .inr l => .inr (l2s l)
theorem kk_inj {a b : KK} (h : kk a = kk b) : a = b := by
  cases a <;> cases b
  · exact congrArg Sum.inl (Sum.inl.inj h)
  · cases h
  · cases h
  · exact congrArg Sum.inr (l2s_inj (Sum.inr.inj h))

/-- a value: what never changes is a tree; a changing object is a cell of the memory -/
inductive D where
  | non | bl (b : Bool) | int (i : Int) | str (x : List Nat) | tup (l : List D) | lst (l : List D) | fz (l : List D) | ref (i : Nat)

inductive Cell where
  | lst (l : List D)
  | dk (lk : Bool) (kvs : List (KK × D))
  | dt (lk : Bool) (kvs : List (List KK × D))
  | ins (c : Nat) (fs : List (Str × D))

abbrev Mem := List Cell
abbrev Env := List (Option D)

inductive R (α : Type) where
  | ok (a : α) (m : Mem)
  | ex (c : Nat) (fs : List (Str × D)) (m : Mem)
  | no
def R.bind {α β : Type} (r : R α) (k : α → Mem → R β) : R β := match r with
  | .ok a m => k a m
  | .ex c fs m => .ex c fs m
  | .no => .no
@[simp] theorem R.bind_ok {α β : Type} (a : α) (m : Mem) (k : α → Mem → R β) : (R.ok a m).bind k = k a m := rfl
@[simp] theorem R.bind_ex {α β : Type} (c : Nat) (fs : List (Str × D)) (m : Mem) (k : α → Mem → R β) : (R.ex c fs m : R α).bind k = .ex c fs m := rfl
@[simp] theorem R.bind_no {α β : Type} (k : α → Mem → R β) : (R.no : R α).bind k = .no := rfl

/-- the world of addresses: the cells', and hidden ones -/
structure Wd where
  as : List Addr
  hd : List Addr

/-- the context: the written part, the classes -/
structure Gx where
  K : PySem.W.Frag
  cl : Nat → Addr

section
variable (G : Gx) (W : Wd) (H : Hp)
def InK (a : Addr) (us : List V) : Prop := ∃ (o : Obj) (its : Array Value) (n : Nat), G.K.lookup a = some o ∧ o.cls = .type "list" ∧ o.dict = none ∧ o.data = .seq its n ∧ its.size ≤ sizeLine ∧ Vals us its.toList
def LstAt (a : Addr) (us : List V) : Prop := H a = some (.lst us) ∧ a ∉ W.as ∧ a ∉ W.hd
def FzAt (a : Addr) (us : List V) : Prop := (∃ o, H a = some (.frz o (.lst us))) ∨ InK G a us
/-- a tuple of the heap (so it may be a key); an empty one may be written -/
def TupAt (a : Addr) (l : List D) (us : List V) : Prop := H a = some (.tup us) ∨ (l = [] ∧ SqT G.K H a us)
mutual
def Rp : D → V → Prop
  | .non, u => u = .non
  | .bl b, u => u = .bl b
  | .int i, u => u = .int i
  | .str x, u => u = .str (l2s x)
  | .tup l, u => ∃ a us, u = .ref a ∧ TupAt G H a l us ∧ RpL l us
  | .lst l, u => ∃ a us, u = .ref a ∧ LstAt W H a us ∧ RpL l us
  | .fz l, u => ∃ a us, u = .ref a ∧ FzAt G H a us ∧ RpL l us
  | .ref i, u => ∃ a, W.as[i]? = some a ∧ u = .ref a
def RpL : List D → List V → Prop
  | [], us => us = []
  | d :: r, us => ∃ u us', us = u :: us' ∧ Rp d u ∧ RpL r us'
end
theorem TupAt.sq {G : Gx} {H : Hp} {a : Addr} {l : List D} {us : List V} (h : TupAt G H a l us) : SqT G.K H a us := by
  rcases h with h | h
  · exact .inl (.inl h)
  · exact h.2
def RpK {κ κ' : Type} (f : κ → κ') : List (κ × D) → List (κ' × V) → Prop := Paired fun p q => f p.1 = q.1 ∧ Rp G W H p.2 q.2
def CellOk (a : Addr) : Cell → Prop
  | .lst l => ∃ us, H a = some (.lst us) ∧ RpL G W H l us
  | .dk lk kvs => ∃ vs, (if lk = true then ∃ o, H a = some (.frz o (.dK vs)) else H a = some (.dK vs)) ∧ RpK G W H kk kvs vs
  | .dt lk kvs => ∃ vs, (if lk = true then ∃ o, H a = some (.frz o (.dT vs)) else H a = some (.dT vs)) ∧ RpK G W H (List.map kk) kvs vs
  | .ins c fs => ∃ dx vs, H a = some (.ins (G.cl c) dx vs) ∧ RpK G W H id fs vs
structure MemOk (M : Mem) : Prop where
  len : W.as.length = M.length
  nd : W.as.Nodup
  cell : ∀ (i : Nat) c a, M[i]? = some c → W.as[i]? = some a → CellOk G W H a c
  apart : ∀ a ∈ W.as, a ∉ W.hd
  hid : ∀ a ∈ W.hd, ∃ o, H a = some o
def EnvOk (env : Env) (σ : L2.St) : Prop := env.length = σ.length ∧ ∀ (i : Nat) d, env[i]? = some (some d) → ∃ u, σ[i]? = some (some u) ∧ Rp G W H d u
end

/-- the heap goes on -/
structure Fut (W : Wd) (H : Hp) (W' : Wd) (H' : Hp) : Prop where
  ext : ∃ new, W'.as = W.as ++ new ∧ ∀ a ∈ new, H a = none ∧ a ∉ W.as
  hd : W'.hd = W.hd
  keep : ∀ a o, H a = some o → a ∉ W.as → H' a = some o

theorem Fut.rfl' {W : Wd} {H : Hp} : Fut W H W H := ⟨⟨[], by simp, by simp⟩, rfl, fun _ _ e _ => e⟩
theorem Fut.nin {W W1 : Wd} {H H1 : Hp} (a : Fut W H W1 H1) {x : Addr} {o : HO} (e : H x = some o) (hx : x ∉ W.as) : x ∉ W1.as := by
  obtain ⟨n1, e1, f1⟩ := a.ext
  rw [e1]
  intro z
  rcases List.mem_append.mp z with z | z
  · exact hx z
  · rw [(f1 x z).1] at e; cases e
theorem Fut.nhd {W W1 : Wd} {H H1 : Hp} (a : Fut W H W1 H1) {x : Addr} {o : HO} (e : H x = some o) (hx : x ∉ W.hd) : x ∉ W1.hd := by rw [a.hd]; exact hx
theorem Fut.old {W W1 : Wd} {H H1 : Hp} (a : Fut W H W1 H1) {x : Addr} (h1 : H1 x = none) (hx : x ∉ W.as) : H x = none := by
  cases q : H x with
  | none => rfl
  | some o =>
    have := a.keep x o q hx
    rw [h1] at this; cases this
theorem Fut.sub {W W1 : Wd} {H H1 : Hp} (a : Fut W H W1 H1) {x : Addr} (hx : x ∉ W1.as) : x ∉ W.as := fun zz => by
  obtain ⟨n1, e1, f1⟩ := a.ext
  exact hx (by rw [e1]; exact List.mem_append_left _ zz)
theorem Fut.trans {W W1 W2 : Wd} {H H1 H2 : Hp} (a : Fut W H W1 H1) (b : Fut W1 H1 W2 H2) : Fut W H W2 H2 := by
  obtain ⟨n1, e1, f1⟩ := a.ext
  obtain ⟨n2, e2, f2⟩ := b.ext
  refine ⟨⟨n1 ++ n2, by rw [e2, e1, List.append_assoc], fun x hx => ?_⟩, b.hd.trans a.hd, fun x o e hx => b.keep x o (a.keep x o e hx) (a.nin e hx)⟩
  · rcases List.mem_append.mp hx with z | z
    · exact f1 x z
    · have n1' := a.sub (f2 x z).2
      exact ⟨a.old (f2 x z).1 n1', n1'⟩
theorem Fut.get {W W1 : Wd} {H H1 : Hp} (a : Fut W H W1 H1) {i : Nat} {x : Addr} (h : W.as[i]? = some x) : W1.as[i]? = some x := by
  obtain ⟨n1, e1, _⟩ := a.ext
  rw [e1]
  rw [List.getElem?_append_left]
  · exact h
  · have := List.getElem?_eq_some_iff.mp h
    exact this.1

section
variable {G : Gx} {W W' : Wd} {H H' : Hp}
theorem Fut.sqT (f : Fut W H W' H') {a : Addr} {us : List V} (nw : ∀ o, H a = some o → a ∉ W.as) (h : SqT G.K H a us) : SqT G.K H' a us := by
  rcases h with (h | ⟨o, h⟩) | h
  · exact .inl (.inl (f.keep _ _ h (nw _ h)))
  · exact .inl (.inr ⟨o, f.keep _ _ h (nw _ h)⟩)
  · exact .inr h
end
theorem LstAt.fut {W W' : Wd} {H H' : Hp} (f : Fut W H W' H') {a : Addr} {us : List V} (h : LstAt W H a us) : LstAt W' H' a us :=
  ⟨f.keep _ _ h.1 h.2.1, f.nin h.1 h.2.1, f.nhd h.1 h.2.2⟩
/-- what is a tuple, or a frozen list -/
def Still (o : HO) : Prop := match o with
  | .tup _ => True
  | .frz _ (.tup _) => True
  | .frz _ (.lst _) => True
  | _ => False
/-- no cell is a tuple -/
theorem MemOk.nt {G : Gx} {W : Wd} {H : Hp} {M : Mem} (m : MemOk G W H M) : ∀ a o, H a = some o → Still o → a ∉ W.as := by
  intro a o h st ha
  obtain ⟨i, hi⟩ := List.getElem?_of_mem ha
  have hl : i < M.length := by
    rw [← m.len]
    exact (List.getElem?_eq_some_iff.mp hi).1
  have c := m.cell i _ a (List.getElem?_eq_getElem hl) hi
  cases e : M[i] with
  | lst l =>
    rw [e] at c
    obtain ⟨vs, q, _⟩ := c
    rw [h] at q; cases q; exact st
  | dk lk kvs =>
    rw [e] at c
    obtain ⟨vs, q, _⟩ := c
    cases lk
    · have q' : H a = some (.dK vs) := q
      rw [h] at q'; cases q'; exact st
    · obtain ⟨o', q'⟩ : ∃ o, H a = some (.frz o (.dK vs)) := q
      rw [h] at q'; cases q'; exact st
  | dt lk kvs =>
    rw [e] at c
    obtain ⟨vs, q, _⟩ := c
    cases lk
    · have q' : H a = some (.dT vs) := q
      rw [h] at q'; cases q'; exact st
    · obtain ⟨o', q'⟩ : ∃ o, H a = some (.frz o (.dT vs)) := q
      rw [h] at q'; cases q'; exact st
  | ins c0 fs =>
    rw [e] at c
    obtain ⟨dx, vs, q, _⟩ := c
    rw [h] at q; cases q; exact st

/-- what makes a value's form stay -/
structure Kp (W : Wd) (H : Hp) (W' : Wd) (H' : Hp) : Prop where
  get : ∀ (i : Nat) a, W.as[i]? = some a → W'.as[i]? = some a
  keep : ∀ a o, H a = some o → a ∉ W.as → a ∉ W.hd → H' a = some o
  still : ∀ a o, H a = some o → Still o → H' a = some o
  out : ∀ a o, H a = some o → a ∉ W.as → a ∉ W.hd → a ∉ W'.as ∧ a ∉ W'.hd
theorem Kp.trans {W W1 W2 : Wd} {H H1 H2 : Hp} (a : Kp W H W1 H1) (b : Kp W1 H1 W2 H2) : Kp W H W2 H2 :=
  ⟨fun i x h => b.get i x (a.get i x h), fun x o e h1 h2 => b.keep x o (a.keep x o e h1 h2) (a.out x o e h1 h2).1 (a.out x o e h1 h2).2, fun x o e st => b.still x o (a.still x o e st) st,
   fun x o e h1 h2 => b.out x o (a.keep x o e h1 h2) (a.out x o e h1 h2).1 (a.out x o e h1 h2).2⟩
theorem Fut.kp {G : Gx} {W W' : Wd} {H H' : Hp} {M : Mem} (f : Fut W H W' H') (m : MemOk G W H M) : Kp W H W' H' :=
  ⟨fun _ _ h => f.get h, fun a o e h1 _ => f.keep a o e h1, fun a o e st => f.keep a o e (m.nt a o e st), fun a o e h1 h2 => ⟨f.nin e h1, f.nhd e h2⟩⟩
mutual
theorem Rp.kp {G : Gx} {W W' : Wd} {H H' : Hp} (k : Kp W H W' H') : ∀ (d : D) (u : V), Rp G W H d u → Rp G W' H' d u
  | .non, u, h => h
  | .bl b, u, h => h
  | .int i, u, h => h
  | .str x, u, h => h
  | .tup l, u, h => by
    obtain ⟨a, us, e, s, r⟩ := h
    refine ⟨a, us, e, ?_, RpL.kp k l us r⟩
    rcases s with s | ⟨h, (s | ⟨o, s⟩) | s⟩
    · exact .inl (k.still _ _ s trivial)
    · exact .inr ⟨h, .inl (.inl (k.still _ _ s trivial))⟩
    · exact .inr ⟨h, .inl (.inr ⟨o, k.still _ _ s trivial⟩)⟩
    · exact .inr ⟨h, .inr s⟩
  | .lst l, u, h => by
    obtain ⟨a, us, e, s, r⟩ := h
    exact ⟨a, us, e, ⟨k.keep _ _ s.1 s.2.1 s.2.2, k.out _ _ s.1 s.2.1 s.2.2⟩, RpL.kp k l us r⟩
  | .fz l, u, h => by
    obtain ⟨a, us, e, s, r⟩ := h
    refine ⟨a, us, e, ?_, RpL.kp k l us r⟩
    rcases s with ⟨o, s⟩ | s
    · exact .inl ⟨o, k.still _ _ s trivial⟩
    · exact .inr s
  | .ref i, u, h => by
    obtain ⟨a, e, r⟩ := h
    exact ⟨a, k.get _ _ e, r⟩
theorem RpL.kp {G : Gx} {W W' : Wd} {H H' : Hp} (k : Kp W H W' H') : ∀ (l : List D) (us : List V), RpL G W H l us → RpL G W' H' l us
  | [], us, h => h
  | d :: r, us, h => by
    obtain ⟨u, us', e, h1, h2⟩ := h
    exact ⟨u, us', e, Rp.kp k d u h1, RpL.kp k r us' h2⟩
end
theorem MemOk.rp {G : Gx} {W W' : Wd} {H H' : Hp} {M : Mem} (m : MemOk G W H M) (f : Fut W H W' H') {d : D} {u : V} (h : Rp G W H d u) : Rp G W' H' d u := Rp.kp (f.kp m) d u h
theorem MemOk.rpL {G : Gx} {W W' : Wd} {H H' : Hp} {M : Mem} (m : MemOk G W H M) (f : Fut W H W' H') {d : List D} {u : List V} (h : RpL G W H d u) : RpL G W' H' d u := RpL.kp (f.kp m) d u h
theorem EnvOk.fut {G : Gx} {W W' : Wd} {H H' : Hp} {M : Mem} {env : Env} {σ : L2.St} (h : EnvOk G W H env σ) (m : MemOk G W H M) (f : Fut W H W' H') : EnvOk G W' H' env σ :=
  ⟨h.1, fun i d e => let ⟨u, h1, h2⟩ := h.2 i d e; ⟨u, h1, m.rp f h2⟩⟩

theorem EnvOk.kp {G : Gx} {W W' : Wd} {H H' : Hp} {env : Env} {σ : L2.St} (h : EnvOk G W H env σ) (k : Kp W H W' H') : EnvOk G W' H' env σ :=
  ⟨h.1, fun i d e => let ⟨u, h1, h2⟩ := h.2 i d e; ⟨u, h1, Rp.kp k _ _ h2⟩⟩

theorem rpL_paired {G : Gx} {W : Wd} {H : Hp} : ∀ {l : List D} {us : List V}, RpL G W H l us ↔ Paired (Rp G W H) l us
  | [], us => ⟨fun h => by have : us = [] := h; subst this; exact .nil, fun h => by cases h; rfl⟩
  | d :: r, us => ⟨fun h => by obtain ⟨u, us', e, h1, h2⟩ := h; subst e; exact .cons h1 (rpL_paired.mp h2), fun h => by
      cases h with
      | cons h1 h2 => exact ⟨_, _, rfl, h1, rpL_paired.mpr h2⟩⟩

/-! ### what is wanted behind -/
def XOk (G : Gx) (W : Wd) (H : Hp) (d : Addr) (fs : List (Str × D)) : Prop := ∃ vs, H d = some (.xd vs) ∧ RpK G W H id fs vs
def PX (G : Gx) (W : Wd) (H : Hp) (E : XK) (c : Nat) (fs : List (Str × D)) (m : Mem) : Prop := ∀ W' d H', Fut W H W' H' → MemOk G W' H' m → XOk G W' H' d fs → E (.ref (G.cl c)) (some d) H'
def PR {α : Type} (G : Gx) (W : Wd) (H : Hp) (K : α → Mem → Wd → Hp → Prop) (E : XK) : R α → Prop
  | .ok a m => ∀ W' H', Fut W H W' H' → MemOk G W' H' m → K a m W' H'
  | .ex c fs m => PX G W H E c fs m
  | .no => False
theorem PX.fut {G : Gx} {W W' : Wd} {H H' : Hp} {E : XK} {c : Nat} {fs : List (Str × D)} {m : Mem} (f : Fut W H W' H') (h : PX G W H E c fs m) : PX G W' H' E c fs m := fun W2 d H2 f2 => h W2 d H2 (f.trans f2)
theorem PR.fut {α : Type} {G : Gx} {W W' : Wd} {H H' : Hp} {K : α → Mem → Wd → Hp → Prop} {E : XK} (f : Fut W H W' H') : ∀ {r : R α}, PR G W H K E r → PR G W' H' K E r
  | .ok a m, h => fun W2 H2 f2 => h W2 H2 (f.trans f2)
  | .ex c fs m, h => PX.fut f h
  | .no, h => h
theorem PR.mono {α : Type} {G : Gx} {W : Wd} {H : Hp} {K K' : α → Mem → Wd → Hp → Prop} {E : XK} : ∀ {r : R α}, PR G W H K E r → (∀ a m W' H', Fut W H W' H' → MemOk G W' H' m → K a m W' H' → K' a m W' H') → PR G W H K' E r
  | .ok a m, h, k => fun W2 H2 f2 m2 => k a m W2 H2 f2 m2 (h W2 H2 f2 m2)
  | .ex c fs m, h, _ => h
  | .no, h, _ => h
/-- one thing behind another -/
theorem PR.bind {α β : Type} {G : Gx} {W : Wd} {H : Hp} {K : β → Mem → Wd → Hp → Prop} {K1 : α → Mem → Wd → Hp → Prop} {E : XK} {k : α → Mem → R β} : ∀ {r : R α}, PR G W H K E (r.bind k) →
    (∀ a m W1 H1, Fut W H W1 H1 → MemOk G W1 H1 m → PR G W1 H1 K E (k a m) → K1 a m W1 H1) → PR G W H K1 E r
  | .ok a m, h, hk => fun W2 H2 f2 m2 => hk a m W2 H2 f2 m2 (PR.fut f2 (show PR G W H K E (k a m) from h))
  | .ex c fs m, h, _ => h
  | .no, h, _ => h

/-- a value comes -/
def PV (G : Gx) (Q : VK) : D → Mem → Wd → Hp → Prop := fun d _ W' H' => ∀ u, Rp G W' H' d u → Q u H'
def PVs (G : Gx) (Q : List V → Hp → Prop) : List D → Mem → Wd → Hp → Prop := fun d _ W' H' => ∀ u, RpL G W' H' d u → Q u H'
def PB (G : Gx) (Q : Bool → Hp → Prop) : Bool → Mem → Wd → Hp → Prop := fun b _ _ H' => Q b H'

abbrev FE := Env → Mem → R D
abbrev FT := Env → Mem → R Bool
abbrev FA := Env → Mem → R (List D)
structure Sta (G : Gx) (W : Wd) (env : Env) (M : Mem) (σ : L2.St) (H : Hp) : Prop where
  mem : MemOk G W H M
  env : EnvOk G W H env σ
theorem Sta.fut {G : Gx} {W W' : Wd} {H H' : Hp} {M M' : Mem} {env : Env} {σ : L2.St} (h : Sta G W env M σ H) (f : Fut W H W' H') (m : MemOk G W' H' M') : Sta G W' env M' σ H' := ⟨m, h.env.fut h.mem f⟩

def tE (G : Gx) (E : XK) (f : FE) : TE := fun σ H Q => ∃ W env M, Sta G W env M σ H ∧ PR G W H (PV G Q) E (f env M)
def tT (G : Gx) (E : XK) (f : FT) : TT := fun σ H Q => ∃ W env M, Sta G W env M σ H ∧ PR G W H (PB G Q) E (f env M)
def tA (G : Gx) (E : XK) (f : FA) : TA := fun σ H Q => ∃ W env M, Sta G W env M σ H ∧ PR G W H (PVs G Q) E (f env M)

theorem pe_imp {X : Cx} {e : Expr} {t t' : TE} (h : PE X e t) (i : ∀ σ H Q, t' σ H Q → t σ H Q) : PE X e t' := ⟨fun pins s σ H Q I q => h.run pins s σ H Q I (i σ H Q q)⟩
theorem pt_imp {X : Cx} {e : Expr} {t t' : TT} (h : PT X e t) (i : ∀ σ H Q, t' σ H Q → t σ H Q) : PT X e t' := ⟨fun pins s σ H Q I q => h.run pins s σ H Q I (i σ H Q q)⟩
theorem pw_imp {X : Cx} {e : Expr} {t t' : TT} (h : PW X e t) (i : ∀ σ H Q, t' σ H Q → t σ H Q) : PW X e t' := ⟨fun wh pins s σ H Q I q => h.run wh pins s σ H Q I (i σ H Q q)⟩
theorem pa_imp {X : Cx} {e : List Expr} {t t' : TA} (h : PA X e t) (i : ∀ σ H Q, t' σ H Q → t σ H Q) : PA X e t' := ⟨fun pos pins s σ H Q I q => h.run pos pins s σ H Q I (i σ H Q q)⟩
theorem ps_imp {X : Cx} {e : Stmt} {t t' : TS} (h : PS X e t) (i : ∀ D σ H, t' D σ H → t D σ H) : PS X e t' := ⟨fun pins s σ H D I q => h.run pins s σ H D I (i D σ H q)⟩
theorem pss_imp {X : Cx} {e : List Stmt} {t t' : TS} (h : PSs X e t) (i : ∀ D σ H, t' D σ H → t D σ H) : PSs X e t' := ⟨fun pins s σ H D I q => h.run pins s σ H D I (i D σ H q)⟩

section
variable {X : Cx} {G : Gx} {E : XK}
/-- pass a part on -/
theorem tE.bind {f : FE} {α : Type} {k : D → Mem → R α} {W : Wd} {env : Env} {M : Mem} {σ : L2.St} {H : Hp} {K : α → Mem → Wd → Hp → Prop} {Q : VK} (s : Sta G W env M σ H) (h : PR G W H K E ((f env M).bind k))
    (hk : ∀ d m W1 H1 u, Fut W H W1 H1 → Sta G W1 env m σ H1 → Rp G W1 H1 d u → PR G W1 H1 K E (k d m) → Q u H1) : tE G E f σ H Q :=
  ⟨W, env, M, s, PR.bind h fun d m W1 H1 f1 m1 q => fun u r => hk d m W1 H1 u f1 (s.fut f1 m1) r q⟩
theorem tT.bind {f : FT} {α : Type} {k : Bool → Mem → R α} {W : Wd} {env : Env} {M : Mem} {σ : L2.St} {H : Hp} {K : α → Mem → Wd → Hp → Prop} {Q : Bool → Hp → Prop} (s : Sta G W env M σ H) (h : PR G W H K E ((f env M).bind k))
    (hk : ∀ d m W1 H1, Fut W H W1 H1 → Sta G W1 env m σ H1 → PR G W1 H1 K E (k d m) → Q d H1) : tT G E f σ H Q :=
  ⟨W, env, M, s, PR.bind h fun d m W1 H1 f1 m1 q => hk d m W1 H1 f1 (s.fut f1 m1) q⟩
theorem tA.bind {f : FA} {α : Type} {k : List D → Mem → R α} {W : Wd} {env : Env} {M : Mem} {σ : L2.St} {H : Hp} {K : α → Mem → Wd → Hp → Prop} {Q : List V → Hp → Prop} (s : Sta G W env M σ H) (h : PR G W H K E ((f env M).bind k))
    (hk : ∀ d m W1 H1 u, Fut W H W1 H1 → Sta G W1 env m σ H1 → RpL G W1 H1 d u → PR G W1 H1 K E (k d m) → Q u H1) : tA G E f σ H Q :=
  ⟨W, env, M, s, PR.bind h fun d m W1 H1 f1 m1 q => fun u r => hk d m W1 H1 u f1 (s.fut f1 m1) r q⟩

/-! ### names, constants, operators -/
def mVar (i : Nat) : FE := fun env M => match env[i]? with
  | some (some d) => .ok d M
  | _ => .no
def mC (d : D) : FE := fun _ M => .ok d M
theorem sn_var {i : Nat} {x : Str} {pos : Pos} (h : PE X (.Name x pos) (tVar i)) : PE X (.Name x pos) (tE G E (mVar i)) := pe_imp h fun σ H Q ⟨W, env, M, s, p⟩ => by
  unfold mVar at p
  split at p
  · rename_i d e
    obtain ⟨u, h1, h2⟩ := s.env.2 i d e
    exact ⟨u, h1, p W H Fut.rfl' s.mem u h2⟩
  · exact p.elim
theorem sn_int {i j pos} : PE X (.Constant (.int i) j pos) (tE G E (mC (.int i))) := pe_imp pe_int fun σ H Q ⟨W, env, M, s, p⟩ => p W H Fut.rfl' s.mem _ rfl
theorem sn_bl {b j pos} : PE X (.Constant (.bool b) j pos) (tE G E (mC (.bl b))) := pe_imp pe_bl fun σ H Q ⟨W, env, M, s, p⟩ => p W H Fut.rfl' s.mem _ rfl
theorem sn_non {j pos} : PE X (.Constant .none j pos) (tE G E (mC .non)) := pe_imp pe_non fun σ H Q ⟨W, env, M, s, p⟩ => p W H Fut.rfl' s.mem _ rfl
theorem sn_str {x : Str} {j pos} : PE X (.Constant (.str x) j pos) (tE G E (mC (.str (s2l x)))) := pe_imp pe_str fun σ H Q ⟨W, env, M, s, p⟩ => p W H Fut.rfl' s.mem _ (by show V.str x = .str (l2s (s2l x)); rw [l2s_s2l])

end
end Fn

set_option Elab.async false
set_option linter.all false
set_option maxRecDepth 100000
set_option maxHeartbeats 1000000
/-! FnOps: new objects, operators, comparisons. -/
namespace Fn
open PySem PySem.Spec PyProof.Rows L2

theorem line_eq : (sizeLine : Nat) = 16777216 := sizeLine_eq
theorem l2s_len (l : List Nat) : (l2s l).length = l.length := by simp [l2s, Str.length]
theorem l2s_toList (l : List Nat) : (l2s l).cps.toList = l := s2l_l2s l
theorem l2s_append (a b : List Nat) : l2s a ++ l2s b = l2s (a ++ b) := by
  show (⟨(l2s a).cps ++ (l2s b).cps⟩ : Str) = _
  simp [l2s]

section
variable {X : Cx} {cl : Nat → Addr} {E : XK} {G : Gx} {W W' : Wd} {H H' : Hp} {M : Mem} {Q : VK}

theorem CellOk.there {a : Addr} {c : Cell} (h : CellOk G W H a c) : ∃ o, H a = some o ∧ ¬ Still o := by
  cases c with
  | lst l => obtain ⟨vs, q, _⟩ := h; exact ⟨_, q, fun z => z⟩
  | dk lk kvs =>
    obtain ⟨vs, q, _⟩ := h
    cases lk
    · exact ⟨_, (show H a = some (.dK vs) from q), fun z => z⟩
    · obtain ⟨o', q'⟩ : ∃ o, H a = some (.frz o (.dK vs)) := q
      exact ⟨_, q', fun z => z⟩
  | dt lk kvs =>
    obtain ⟨vs, q, _⟩ := h
    cases lk
    · exact ⟨_, (show H a = some (.dT vs) from q), fun z => z⟩
    · obtain ⟨o', q'⟩ : ∃ o, H a = some (.frz o (.dT vs)) := q
      exact ⟨_, q', fun z => z⟩
  | ins c0 fs => obtain ⟨dx, vs, q, _⟩ := h; exact ⟨_, q, fun z => z⟩
theorem MemOk.at (m : MemOk G W H M) {a : Addr} (ha : a ∈ W.as) : ∃ (i : Nat) (c : Cell), W.as[i]? = some a ∧ M[i]? = some c ∧ CellOk G W H a c := by
  obtain ⟨i, hi⟩ := List.getElem?_of_mem ha
  have hl : i < M.length := by
    rw [← m.len]
    exact (List.getElem?_eq_some_iff.mp hi).1
  exact ⟨i, _, hi, List.getElem?_eq_getElem hl, m.cell i _ a (List.getElem?_eq_getElem hl) hi⟩
theorem MemOk.fresh (m : MemOk G W H M) {p : Addr} (hp : H p = none) : p ∉ W.as ∧ p ∉ W.hd := by
  constructor
  · intro z
    obtain ⟨i, c, _, _, k⟩ := m.at z
    obtain ⟨o, ho, _⟩ := k.there
    rw [hp] at ho; cases ho
  · intro z
    obtain ⟨o, ho⟩ := m.hid p z
    rw [hp] at ho; cases ho
theorem Paired.imp {α β : Type} {F F' : α → β → Prop} (h : ∀ a b, F a b → F' a b) : ∀ {l : List α} {l' : List β}, Paired F l l' → Paired F' l l'
  | _, _, .nil => .nil
  | _, _, .cons a b => .cons (h _ _ a) (Paired.imp h b)
theorem RpK.fut {κ κ' : Type} {f : κ → κ'} (m : MemOk G W H M) (fu : Fut W H W' H') {l : List (κ × D)} {vs : List (κ' × V)} (h : RpK G W H f l vs) : RpK G W' H' f l vs := Paired.imp (fun _ _ z => ⟨z.1, m.rp fu z.2⟩) h
theorem CellOk.fut (m : MemOk G W H M) (fu : Fut W H W' H') {a : Addr} {c : Cell} (e : H' a = H a) (h : CellOk G W H a c) : CellOk G W' H' a c := by
  cases c with
  | lst l => obtain ⟨vs, q, r⟩ := h; exact ⟨vs, by rw [e]; exact q, m.rpL fu r⟩
  | dk lk kvs => obtain ⟨vs, q, r⟩ := h; exact ⟨vs, by rw [e]; exact q, r.fut m fu⟩
  | dt lk kvs => obtain ⟨vs, q, r⟩ := h; exact ⟨vs, by rw [e]; exact q, r.fut m fu⟩
  | ins c0 fs => obtain ⟨dx, vs, q, r⟩ := h; exact ⟨dx, vs, by rw [e]; exact q, r.fut m fu⟩
/-- a new object beside -/
theorem Fut.laid {p : Addr} {o : HO} (hp : H p = none) : Fut W H W (upd H p o) := ⟨⟨[], by simp, by simp⟩, rfl, fun a u e _ => by rw [upd_ne (ne_of_none e hp)]; exact e⟩
theorem MemOk.laid (m : MemOk G W H M) {p : Addr} {o : HO} (hp : H p = none) : MemOk G W (upd H p o) M :=
  ⟨m.len, m.nd, fun i c a e1 e2 => by
    have k := m.cell i c a e1 e2
    obtain ⟨u, hu, _⟩ := k.there
    exact k.fut m (Fut.laid hp) (upd_ne (ne_of_none hu hp)), m.apart, fun a ha => by
    obtain ⟨u, hu⟩ := m.hid a ha
    exact ⟨u, by rw [upd_ne (ne_of_none hu hp)]; exact hu⟩⟩
/-- a new cell -/
theorem Fut.added {p : Addr} {o : HO} (m : MemOk G W H M) (hp : H p = none) : Fut W H ⟨W.as ++ [p], W.hd⟩ (upd H p o) :=
  ⟨⟨[p], rfl, fun a ha => by rw [List.mem_singleton] at ha; subst ha; exact ⟨hp, (m.fresh hp).1⟩⟩, rfl, fun a u e _ => by rw [upd_ne (ne_of_none e hp)]; exact e⟩
theorem MemOk.added (m : MemOk G W H M) {p : Addr} {o : HO} (hp : H p = none) {c : Cell} (hc : CellOk G ⟨W.as ++ [p], W.hd⟩ (upd H p o) p c) : MemOk G ⟨W.as ++ [p], W.hd⟩ (upd H p o) (M ++ [c]) where
  len := by simp [m.len]
  nd := by
    rw [List.nodup_append]
    refine ⟨m.nd, by simp, fun a ha b hb => ?_⟩
    rw [List.mem_singleton] at hb; subst hb
    intro z; subst z
    exact (m.fresh hp).1 ha
  cell := fun i c' a e1 e2 => by
    by_cases hi : i < M.length
    · rw [List.getElem?_append_left hi] at e1
      have hi2 : i < W.as.length := by rw [m.len]; exact hi
      rw [show (⟨W.as ++ [p], W.hd⟩ : Wd).as = W.as ++ [p] from rfl, List.getElem?_append_left hi2] at e2
      have k := m.cell i c' a e1 e2
      obtain ⟨u, hu, _⟩ := k.there
      exact k.fut m (Fut.added m hp) (upd_ne (ne_of_none hu hp))
    · have hi2 : ¬ i < W.as.length := by rw [m.len]; exact hi
      rw [List.getElem?_append_right (by omega)] at e1
      rw [show (⟨W.as ++ [p], W.hd⟩ : Wd).as = W.as ++ [p] from rfl, List.getElem?_append_right (by omega)] at e2
      have e3 : i - M.length = 0 := by
        have := (List.getElem?_eq_some_iff.mp e1).1
        simp at this; omega
      rw [e3] at e1
      rw [show i - W.as.length = 0 by rw [m.len]; exact e3] at e2
      simp at e1 e2
      subst e1 e2
      exact hc
  apart := fun a ha => by
    rcases List.mem_append.mp ha with z | z
    · exact m.apart a z
    · rw [List.mem_singleton] at z; subst z
      exact (m.fresh hp).2
  hid := fun a ha => by
    obtain ⟨u, hu⟩ := m.hid a ha
    exact ⟨u, by rw [upd_ne (ne_of_none hu hp)]; exact hu⟩
/-- a cell is written -/
theorem Fut.wrote {i : Nat} {a : Addr} {o : HO} (hi : W.as[i]? = some a) : Fut W H W (upd H a o) :=
  ⟨⟨[], by simp, by simp⟩, rfl, fun b u e hb => by rw [upd_ne (fun z => hb (by rw [z]; exact List.mem_of_getElem? hi))]; exact e⟩
theorem MemOk.wrote (m : MemOk G W H M) {i : Nat} {a : Addr} {o : HO} (hi : W.as[i]? = some a) {c : Cell} (hc : CellOk G W (upd H a o) a c) : MemOk G W (upd H a o) (M.set i c) where
  len := by simp [m.len]
  nd := m.nd
  cell := fun j c' b e1 e2 => by
    by_cases hj : i = j
    · subst hj
      rw [hi] at e2; cases e2
      rw [List.getElem?_set_self (by rw [← m.len]; exact (List.getElem?_eq_some_iff.mp hi).1)] at e1
      cases e1
      exact hc
    · rw [List.getElem?_set_ne hj] at e1
      have k := m.cell j c' b e1 e2
      refine k.fut m (Fut.wrote hi) (upd_ne fun z => hj ?_)
      subst z
      exact (List.getElem?_inj (List.getElem?_eq_some_iff.mp hi).1 m.nd).mp (hi.trans e2.symm)
  apart := m.apart
  hid := fun b hb => by
    obtain ⟨u, hu⟩ := m.hid b hb
    refine ⟨u, ?_⟩
    rw [upd_ne fun z => ?_]
    · exact hu
    · subst z
      exact m.apart b (List.mem_of_getElem? hi) hb

/-! ### new lists and tuples -/
/-- a new list: a cell or by value -/
def mkL (c : Bool) (ds : List D) (M : Mem) : R D := if c = true then .ok (.ref M.length) (M ++ [.lst ds]) else .ok (.lst ds) M
theorem mkL_new {c : Bool} {ds : List D} {us : List V} (m : MemOk G W H M) (h : PR G W H (PV G Q) E (mkL c ds M)) (r : RpL G W H ds us) : ∀ p, H p = none → Q (.ref p) (upd H p (.lst us)) := by
  intro p hp
  unfold mkL at h
  cases c with
  | true =>
    rw [if_pos rfl] at h
    refine h ⟨W.as ++ [p], W.hd⟩ _ (Fut.added m hp) (m.added hp ⟨us, upd_same, m.rpL (Fut.added m hp) r⟩) _ ⟨p, ?_, rfl⟩
    rw [← m.len]
    simp
  | false =>
    rw [if_neg Bool.false_ne_true] at h
    exact h W _ (Fut.laid hp) (m.laid hp) _ ⟨p, us, rfl, ⟨upd_same, m.fresh hp⟩, m.rpL (Fut.laid hp) r⟩
theorem tup_new {ds : List D} {us : List V} (m : MemOk G W H M) (h : PR G W H (PV G Q) E (.ok (.tup ds) M)) (r : RpL G W H ds us) : ∀ p, H p = none → Q (.ref p) (upd H p (.tup us)) := fun p hp =>
  h W _ (Fut.laid hp) (m.laid hp) _ ⟨p, us, rfl, .inl upd_same, m.rpL (Fut.laid hp) r⟩
theorem RpL.len : ∀ {ds : List D} {us : List V}, RpL G W H ds us → us.length = ds.length
  | [], us, h => by have : us = [] := h; subst this; rfl
  | d :: r, us, h => by
    obtain ⟨u, us', e, _, h2⟩ := h
    subst e
    simp [RpL.len h2]

/-- the items of a list (by value, frozen, a cell) -/
def lstOf (M : Mem) : D → Option (List D)
  | .lst l => some l
  | .fz l => some l
  | .ref i => match M[i]? with
    | some (.lst l) => some l
    | _ => none
  | _ => none
/-- of a list that the call itself made -/
def ownOf (M : Mem) : D → Option (List D)
  | .lst l => some l
  | .ref i => match M[i]? with
    | some (.lst l) => some l
    | _ => none
  | _ => none
theorem lstOf_ok (m : MemOk G W H M) {d : D} {u : V} {l : List D} (r : Rp G W H d u) (e : lstOf M d = some l) : ∃ a us, u = .ref a ∧ SqL G.K H a us ∧ RpL G W H l us := by
  cases d with
  | lst l' => cases e; obtain ⟨a, us, e1, e2, e3⟩ := r; exact ⟨a, us, e1, .inl (.inl e2.1), e3⟩
  | fz l' =>
    cases e; obtain ⟨a, us, e1, e2, e3⟩ := r
    refine ⟨a, us, e1, ?_, e3⟩
    rcases e2 with ⟨o, e2⟩ | e2
    · exact .inl (.inr ⟨o, e2⟩)
    · exact .inr e2
  | ref i =>
    obtain ⟨a, e1, e2⟩ := r
    simp only [lstOf] at e
    split at e
    · rename_i l' hc
      cases e
      obtain ⟨us, h1, h2⟩ := m.cell i _ a hc e1
      exact ⟨a, us, e2, .inl (.inl h1), h2⟩
    · cases e
  | _ => cases e
theorem ownOf_ok (m : MemOk G W H M) {d : D} {u : V} {l : List D} (r : Rp G W H d u) (e : ownOf M d = some l) : ∃ a us, u = .ref a ∧ H a = some (.lst us) ∧ RpL G W H l us := by
  cases d with
  | lst l' => cases e; obtain ⟨a, us, e1, e2, e3⟩ := r; exact ⟨a, us, e1, e2.1, e3⟩
  | ref i =>
    obtain ⟨a, e1, e2⟩ := r
    simp only [ownOf] at e
    split at e
    · rename_i l' hc
      cases e
      obtain ⟨us, h1, h2⟩ := m.cell i _ a hc e1
      exact ⟨a, us, e2, h1, h2⟩
    · cases e
  | _ => cases e
/-- a list's or a tuple's items -/
def seqOf (M : Mem) : D → Option (List D)
  | .tup l => some l
  | d => lstOf M d
theorem seqOf_ok (m : MemOk G W H M) {d : D} {u : V} {l : List D} (r : Rp G W H d u) (e : seqOf M d = some l) : ∃ a us, u = .ref a ∧ (SqL G.K H a us ∨ SqT G.K H a us) ∧ RpL G W H l us := by
  cases d with
  | tup l' => cases e; obtain ⟨a, us, e1, e2, e3⟩ := r; exact ⟨a, us, e1, .inr e2.sq, e3⟩
  | _ => obtain ⟨a, us, e1, e2, e3⟩ := lstOf_ok m r e; exact ⟨a, us, e1, .inl e2, e3⟩
theorem RpL.get : ∀ {ds : List D} {us : List V}, RpL G W H ds us → ∀ {j : Nat} {d : D}, ds[j]? = some d → ∃ u, us[j]? = some u ∧ Rp G W H d u
  | [], us, h, j, d, e => by simp at e
  | d0 :: r, us, h, j, d, e => by
    obtain ⟨u, us', e1, h1, h2⟩ := h
    subst e1
    cases j with
    | zero => simp at e; subst e; exact ⟨u, by simp, h1⟩
    | succ j => obtain ⟨v, e2, h3⟩ := RpL.get h2 (j := j) (by simpa using e); exact ⟨v, by simpa using e2, h3⟩
theorem RpL.append : ∀ {ds ds' : List D} {us us' : List V}, RpL G W H ds us → RpL G W H ds' us' → RpL G W H (ds ++ ds') (us ++ us')
  | [], ds', us, us', h, h' => by have : us = [] := h; subst this; exact h'
  | d :: r, ds', us, us', h, h' => by
    obtain ⟨u, vs, e1, h1, h2⟩ := h
    subst e1
    exact ⟨u, vs ++ us', rfl, h1, RpL.append h2 h'⟩
theorem RpL.drop : ∀ {ds : List D} {us : List V} (n : Nat), RpL G W H ds us → RpL G W H (ds.drop n) (us.drop n)
  | ds, us, 0, h => h
  | [], us, n + 1, h => by have : us = [] := h; subst this; exact (rfl : ([] : List V) = [])
  | d :: r, us, n + 1, h => by
    obtain ⟨u, vs, e1, h1, h2⟩ := h
    subst e1
    exact RpL.drop n h2
theorem RpL.take : ∀ {ds : List D} {us : List V} (n : Nat), RpL G W H ds us → RpL G W H (ds.take n) (us.take n)
  | ds, us, 0, h => by simp; exact (rfl : ([] : List V) = [])
  | [], us, n + 1, h => by have : us = [] := h; subst this; exact (rfl : ([] : List V) = [])
  | d :: r, us, n + 1, h => by
    obtain ⟨u, vs, e1, h1, h2⟩ := h
    subst e1
    exact ⟨u, vs.take n, by simp, h1, RpL.take n h2⟩
theorem RpL.set : ∀ {ds : List D} {us : List V} {d : D} {u : V} (j : Nat), RpL G W H ds us → Rp G W H d u → RpL G W H (ds.set j d) (us.set j u)
  | [], us, d, u, j, h, r => by have : us = [] := h; subst this; exact (rfl : ([] : List V) = [])
  | d0 :: ds, us, d, u, 0, h, r => by
    obtain ⟨v, vs, e1, h1, h2⟩ := h
    subst e1
    exact ⟨u, vs, rfl, r, h2⟩
  | d0 :: ds, us, d, u, j + 1, h, r => by
    obtain ⟨v, vs, e1, h1, h2⟩ := h
    subst e1
    exact ⟨v, vs.set j u, rfl, h1, RpL.set j h2 r⟩
theorem RpL.reverse : ∀ {ds : List D} {us : List V}, RpL G W H ds us → RpL G W H ds.reverse us.reverse
  | [], us, h => by have : us = [] := h; subst this; exact (rfl : ([] : List V) = [])
  | d :: ds, us, h => by
    obtain ⟨v, vs, e1, h1, h2⟩ := h
    subst e1
    rw [List.reverse_cons, List.reverse_cons]
    exact (RpL.reverse h2).append ⟨v, [], rfl, h1, rfl⟩

/-! ### operators on two values -/
def Op2 (G : Gx) (E : XK) (r : R2) (o : D → D → Mem → R D) : Prop := ∀ W H M a b u v Q, MemOk G W H M → Rp G W H a u → Rp G W H b v → PR G W H (PV G Q) E (o a b M) → r u v H Q
def mOp (o : D → D → Mem → R D) (fa fb : FE) : FE := fun env M => (fa env M).bind fun a m => (fb env m).bind fun b m' => o a b m'
theorem tE_op {r : R2} {fa fb : FE} {o : D → D → Mem → R D} (hs : Op2 G E r o) (σ : L2.St) (H : Hp) (Q : VK) (h : tE G E (mOp o fa fb) σ H Q) : tOp r (tE G E fa) (tE G E fb) σ H Q := by
  obtain ⟨W, env, M, s, p⟩ := h
  refine tE.bind s p fun d m W1 H1 u f1 s1 r1 p1 => ?_
  refine tE.bind s1 p1 fun d2 m2 W2 H2 u2 f2 s2 r2 p2 => ?_
  exact hs W2 H2 m2 d d2 u u2 Q s2.mem (s1.mem.rp f2 r1) r2 p2
theorem sn_op {op : Operator} {r : R2} {a b : Expr} {fa fb : FE} {o : D → D → Mem → R D} {pos : Pos} (ho : OpR X (binaryOp op) r) (hs : Op2 G E r o) (ha : PE X a (tE G E fa)) (hb : PE X b (tE G E fb)) : PE X (.BinOp a op b pos) (tE G E (mOp o fa fb)) :=
  pe_imp (pe_op ho ha hb) (tE_op hs)
theorem sn_cmp {op : CmpOp} {r : R2} {a b : Expr} {fa fb : FE} {o : D → D → Mem → R D} {pos : Pos} (ho : OpR X (compareOp op) r) (hs : Op2 G E r o) (hm : behindInMarks op b = false) (ha : PE X a (tE G E fa)) (hb : PE X b (tE G E fb)) : PE X (.Compare a [op] [b] pos) (tE G E (mOp o fa fb)) :=
  pe_imp (pe_cmpR ho ha hb hm) (tE_op hs)
theorem Op2.or1 {r r' : R2} {o : D → D → Mem → R D} (h : Op2 G E r o) : Op2 G E (fun x y H Q => r x y H Q ∨ r' x y H Q) o := fun W H M a b u v Q m ra rb p => .inl (h W H M a b u v Q m ra rb p)
/-- two ways: the kinds tell -/
theorem Op2.or {r r' : R2} {o o1 o2 : D → D → Mem → R D} (h : Op2 G E r o1) (h' : Op2 G E r' o2) (e : ∀ a b M, o a b M = o1 a b M ∨ o a b M = o2 a b M) : Op2 G E (fun x y H Q => r x y H Q ∨ r' x y H Q) o := fun W H M a b u v Q m ra rb p => by
  rcases e a b M with z | z
  · rw [z] at p; exact .inl (h W H M a b u v Q m ra rb p)
  · rw [z] at p; exact .inr (h' W H M a b u v Q m ra rb p)
theorem PR.here {α : Type} {K : α → Mem → Wd → Hp → Prop} {a : α} (m : MemOk G W H M) (h : PR G W H K E (.ok a M)) : K a M W H := h W H Fut.rfl' m

/-- ints -/
def oI (g : Int → Int → D) : D → D → Mem → R D
  | .int i, .int j, M => .ok (g i j) M
  | _, _, _ => .no
theorem op2_I {g : Int → Int → D} {g' : Int → Int → V} (hg : ∀ W H i j, Rp G W H (g i j) (g' i j)) : Op2 G E (rI0 g') (oI g) := fun W H M a b u v Q m ra rb p => by
  cases a <;> cases b <;> first
    | exact p.elim
    | exact ⟨_, _, ra, rb, p.here m _ (hg _ _ _ _)⟩
/-- ints, under a condition -/
def oIC (C : Int → Int → Bool) (g : Int → Int → D) : D → D → Mem → R D
  | .int i, .int j, M => if C i j = true then .ok (g i j) M else .no
  | _, _, _ => .no
theorem op2_IC {C : Int → Int → Bool} {C' : Int → Int → Prop} {g : Int → Int → D} {g' : Int → Int → V} (hC : ∀ i j, C i j = true → C' i j) (hg : ∀ W H i j, Rp G W H (g i j) (g' i j)) : Op2 G E (rI C' g') (oIC C g) := fun W H M a b u v Q m ra rb p => by
  cases a <;> cases b <;> first
    | exact p.elim
    | (simp only [oIC] at p
       split at p
       · rename_i hc
         exact ⟨_, _, ra, rb, hC _ _ hc, p.here m _ (hg _ _ _ _)⟩
       · exact p.elim)
end

/-! ### + - * // % ** -/
section
variable {X : Cx} {G : Gx} {cl : Nat → Addr} {E : XK}
/-- texts -/
def oAddS : D → D → Mem → R D
  | .str a, .str b, M => if a.length + b.length ≤ 16777216 then .ok (.str (a ++ b)) M else .no
  | _, _, _ => .no
def oAddB : D → D → Mem → R D
  | .int i, .bl k, M => .ok (.int (i + if k = true then 1 else 0)) M
  | _, _, _ => .no
def oAddT : D → D → Mem → R D
  | .tup a, .tup b, M => if a.length + b.length ≤ 16777216 then .ok (.tup (a ++ b)) M else .no
  | _, _, _ => .no
def oAddL (c : Bool) (a b : D) (M : Mem) : R D := match ownOf M a, ownOf M b with
  | some x, some y => if x.length + y.length ≤ 16777216 then mkL c (x ++ y) M else .no
  | _, _ => .no
def oAdd (c : Bool) : D → D → Mem → R D
  | .int i, .int j, M => .ok (.int (i + j)) M
  | .str a, .str b, M => oAddS (.str a) (.str b) M
  | .int i, .bl k, M => oAddB (.int i) (.bl k) M
  | .tup a, .tup b, M => oAddT (.tup a) (.tup b) M
  | a, b, M => oAddL c a b M
theorem op2_addS : Op2 G E (fun x y H Q => ∃ i j, x = .str i ∧ y = .str j ∧ i.length + j.length ≤ sizeLine ∧ Q (.str (i ++ j)) H) oAddS := fun W H M a b u v Q m ra rb p => by
  cases a <;> cases b <;> first
    | exact p.elim
    | (simp only [oAddS] at p
       split at p
       · rename_i hc
         refine ⟨_, _, ra, rb, by rw [l2s_len, l2s_len, line_eq]; exact hc, p.here m _ ?_⟩
         show V.str _ = V.str _
         rw [l2s_append]
       · exact p.elim)
theorem op2_addB : Op2 G E (fun x y H Q => ∃ i k, x = .int i ∧ y = .bl k ∧ Q (.int (i + b2i k)) H) oAddB := fun W H M a b u v Q m ra rb p => by
  cases a <;> cases b <;> first
    | exact p.elim
    | (refine ⟨_, _, ra, rb, p.here m _ ?_⟩
       rename_i k
       cases k <;> rfl)
theorem op2_addT : Op2 G E (rCatA G.K) oAddT := fun W H M a b u v Q m ra rb p => by
  cases a <;> cases b <;> first
    | exact p.elim
    | (simp only [oAddT] at p
       split at p
       · rename_i xs ys hc
         obtain ⟨a1, us, e1, s1, r1⟩ := ra
         obtain ⟨a2, vs, e2, s2, r2⟩ := rb
         subst e1 e2
         refine ⟨a1, a2, us, vs, rfl, rfl, s1.sq, s2.sq, by rw [r1.len, r2.len, line_eq]; exact hc, fun z => ?_, fun _ z => ?_, fun _ _ => tup_new m p (r1.append r2)⟩
         · have e3 : xs = [] := by
             have := r1.len
             rw [z] at this
             exact List.length_eq_zero_iff.mp this.symm
           subst e3
           exact p.here m _ ⟨a2, vs, rfl, s2, r2⟩
         · have e3 : ys = [] := by
             have := r2.len
             rw [z] at this
             exact List.length_eq_zero_iff.mp this.symm
           subst e3
           rw [List.append_nil] at p
           exact p.here m _ ⟨a1, us, rfl, s1, r1⟩
       · exact p.elim)
theorem op2_addL {c : Bool} : Op2 G E rCat (oAddL c) := fun W H M a b u v Q m ra rb p => by
  unfold oAddL at p
  split at p
  · rename_i x y e1 e2
    split at p
    · rename_i hc
      obtain ⟨a1, us, h1, h2, h3⟩ := ownOf_ok m ra e1
      obtain ⟨a2, vs, h4, h5, h6⟩ := ownOf_ok m rb e2
      exact ⟨a1, a2, us, vs, h1, h4, h2, h5, by rw [h3.len, h6.len, line_eq]; exact hc, mkL_new m p (h3.append h6)⟩
    · exact p.elim
  · exact p.elim
theorem sn_add (c : Bool) {a b : Expr} {fa fb : FE} {pos : Pos} (ha : PE X a (tE ⟨X.K, cl⟩ E fa)) (hb : PE X b (tE ⟨X.K, cl⟩ E fb)) : PE X (.BinOp a .Add b pos) (tE ⟨X.K, cl⟩ E (mOp (oAdd c) fa fb)) := by
  refine sn_op (op_add.or (op_add_str.or (op_add_ib.or (op_catA.or op_cat)))) (?_ : Op2 ⟨X.K, cl⟩ E _ _) ha hb
  intro W H M a b u v Q m ra rb p
  have h1 : Op2 ⟨X.K, cl⟩ E (rI0 fun i j => .int (i + j)) (oI fun i j => .int (i + j)) := op2_I fun _ _ _ _ => rfl
  cases a <;> cases b <;> first
    | exact .inl (h1 W H M _ _ u v Q m ra rb p)
    | exact .inr (.inl (op2_addS W H M _ _ u v Q m ra rb p))
    | exact .inr (.inr (.inl (op2_addB W H M _ _ u v Q m ra rb p)))
    | exact .inr (.inr (.inr (.inl (op2_addT W H M _ _ u v Q m ra rb p))))
    | exact .inr (.inr (.inr (.inr (op2_addL W H M _ _ u v Q m ra rb p))))
def oSub : D → D → Mem → R D := oI fun i j => .int (i - j)
theorem sn_sub {a b : Expr} {fa fb : FE} {pos : Pos} (ha : PE X a (tE G E fa)) (hb : PE X b (tE G E fb)) : PE X (.BinOp a .Sub b pos) (tE G E (mOp oSub fa fb)) := sn_op op_sub (op2_I fun _ _ _ _ => rfl) ha hb
/-- the one factor below 2 ^ 64, or both together below a million bits -/
def mulOk (i j : Int) : Bool := decide (-(2 ^ 64) < i ∧ i < 2 ^ 64) || decide (-(2 ^ 64) < j ∧ j < 2 ^ 64) || decide (i.natAbs.log2 + j.natAbs.log2 < 1000000)
def oMulI : D → D → Mem → R D := oIC mulOk fun i j => .int (i * j)
theorem op_mulA : OpR X (binaryOp .Mult) (rI (fun i j => CMul i j ∨ CMulW i j) fun i j => .int (i * j)) := opI fun _ _ _ _ _ _ _ hc q => mul_int q (hc.elim CMul.ok CMulW.ok)
theorem op2_mulI : Op2 G E (rI (fun i j => CMul i j ∨ CMulW i j) fun i j => .int (i * j)) oMulI := op2_IC (fun i j h => by
  unfold mulOk at h
  simp only [Bool.or_eq_true, decide_eq_true_eq] at h
  rcases h with (h | h) | h
  · exact .inl (.inl h)
  · exact .inl (.inr h)
  · exact .inr h) fun _ _ _ _ => rfl
/-- a list as often -/
def oRep (c : Bool) (a b : D) (M : Mem) : R D := match ownOf M a, b with
  | some x, .int k => if -(2 ^ 63) ≤ k ∧ k < 2 ^ 63 ∧ x.length * k.toNat ≤ 16777216 then mkL c (List.replicate k.toNat x).flatten M else .no
  | _, _ => .no
theorem RpL.rep {W : Wd} {H : Hp} {ds : List D} {us : List V} (h : RpL G W H ds us) : ∀ n, RpL G W H (List.replicate n ds).flatten (List.replicate n us).flatten
  | 0 => (rfl : ([] : List V) = [])
  | n + 1 => by
    rw [List.replicate_succ, List.replicate_succ, List.flatten_cons, List.flatten_cons]
    exact h.append (RpL.rep h n)
theorem op2_rep {c : Bool} : Op2 G E rRep (oRep c) := fun W H M a b u v Q m ra rb p => by
  unfold oRep at p
  split at p
  · rename_i x k e1
    split at p
    · rename_i hc
      obtain ⟨a1, us, h1, h2, h3⟩ := ownOf_ok m ra e1
      exact ⟨a1, k, us, h1, rb, h2, hc.1, hc.2.1, by rw [h3.len, line_eq]; exact hc.2.2, mkL_new m p (h3.rep _)⟩
    · exact p.elim
  · exact p.elim
def oMul (c : Bool) : D → D → Mem → R D
  | .int i, .int j, M => oMulI (.int i) (.int j) M
  | a, b, M => oRep c a b M
theorem sn_mul (c : Bool) {a b : Expr} {fa fb : FE} {pos : Pos} (ha : PE X a (tE G E fa)) (hb : PE X b (tE G E fb)) : PE X (.BinOp a .Mult b pos) (tE G E (mOp (oMul c) fa fb)) :=
  sn_op (op_mulA.or op_rep) (op2_mulI.or op2_rep fun a b M => by cases a <;> cases b <;> first | exact .inl rfl | exact .inr rfl) ha hb
def divOk (_ j : Int) : Bool := decide (0 < j) && decide (j.natAbs.log2 < 9000)
def oDiv : D → D → Mem → R D := oIC divOk fun i j => .int (i / j)
theorem sn_div {a b : Expr} {fa fb : FE} {pos : Pos} (ha : PE X a (tE G E fa)) (hb : PE X b (tE G E fb)) : PE X (.BinOp a .FloorDiv b pos) (tE G E (mOp oDiv fa fb)) :=
  sn_op op_fdivW (op2_IC (fun i j h => by unfold divOk at h; simp only [Bool.and_eq_true, decide_eq_true_eq] at h; exact h) fun _ _ _ _ => rfl) ha hb
def oMod : D → D → Mem → R D := oIC (fun _ j => decide (0 < j)) fun i j => .int (i % j)
theorem sn_mod {a b : Expr} {fa fb : FE} {pos : Pos} (ha : PE X a (tE G E fa)) (hb : PE X b (tE G E fb)) : PE X (.BinOp a .Mod b pos) (tE G E (mOp oMod fa fb)) :=
  sn_op op_mod (op2_IC (fun i j h => of_decide_eq_true h) fun _ _ _ _ => rfl) ha hb
def powOk (i j : Int) : Bool := decide (0 ≤ j) && decide (j ≤ 1000000) && decide (i.natAbs < 2 ^ 64)
def oPow : D → D → Mem → R D := oIC powOk fun i j => .int (i ^ j.toNat)
theorem sn_pow {a b : Expr} {fa fb : FE} {pos : Pos} (ha : PE X a (tE G E fa)) (hb : PE X b (tE G E fb)) : PE X (.BinOp a .Pow b pos) (tE G E (mOp oPow fa fb)) :=
  sn_op op_pow (op2_IC (C' := CPow) (fun i j h => by
    unfold powOk at h
    simp only [Bool.and_eq_true, decide_eq_true_eq] at h
    exact ⟨h.1.1, h.1.2, h.2⟩) fun _ _ _ _ => rfl) ha hb
def mUn (o : D → Mem → R D) (fa : FE) : FE := fun env M => (fa env M).bind fun a m => o a m
def oNeg : D → Mem → R D
  | .int i, M => .ok (.int (-i)) M
  | _, _ => .no
theorem sn_neg {a : Expr} {fa : FE} {pos : Pos} (ha : PE X a (tE G E fa)) : PE X (.UnaryOp .USub a pos) (tE G E (mUn oNeg fa)) := pe_imp (pe_un un_neg ha) fun σ H Q ⟨W, env, M, s, p⟩ => by
  refine tE.bind s p fun d m W1 H1 u f1 s1 r1 p1 => ?_
  cases d <;> first
    | exact p1.elim
    | exact ⟨_, r1, p1.here s1.mem _ rfl⟩
end
end Fn

set_option Elab.async false
set_option linter.all false
set_option maxRecDepth 100000
set_option maxHeartbeats 1000000
/-! FnCmp: comparisons, truth, and, or, not, if; displays, subscripts, slices, arguments. -/
namespace Fn
open PySem PySem.Spec PyProof.Rows L2
section
variable {X : Cx} {G : Gx} {cl : Nat → Addr} {E : XK} {W : Wd} {H : Hp} {M : Mem}
/-! ### == -/
mutual
def pyD : D → Option PyData
  | .non => some .none
  | .bl b => some (.bool b)
  | .int i => some (.int i)
  | .str x => some (.str (l2s x))
  | .tup l => (pyL l).map .tuple
  | .lst l => (pyL l).map .list
  | .fz l => (pyL l).map .list
  | .ref _ => none
def pyL : List D → Option (List PyData)
  | [] => some []
  | d :: r => match pyD d, pyL r with
    | some a, some b => some (a :: b)
    | _, _ => none
end
mutual
/-- the data that a value tells, cells by k -/
def pyGo (k : Nat → Option PyData) : D → Option PyData
  | .non => some .none
  | .bl b => some (.bool b)
  | .int i => some (.int i)
  | .str x => some (.str (l2s x))
  | .tup l => (pyGoL k l).map .tuple
  | .lst l => (pyGoL k l).map .list
  | .fz l => (pyGoL k l).map .list
  | .ref i => k i
def pyGoL (k : Nat → Option PyData) : List D → Option (List PyData)
  | [] => some []
  | d :: r => match pyGo k d, pyGoL k r with
    | some a, some b => some (a :: b)
    | _, _ => none
end
/-- a cell that holds a list, to the depth n -/
def kN (M : Mem) : Nat → Nat → Option PyData
  | 0, _ => none
  | n + 1, i => match M[i]? with
    | some (.lst l) => (pyGoL (kN M n) l).map .list
    | _ => none
def pyM (M : Mem) (d : D) : Option PyData := pyGo (kN M 4) d
mutual
theorem pyGo_of {k : Nat → Option PyData} : ∀ {d : D} {p : PyData}, pyD d = some p → pyGo k d = some p
  | .non, p, e => e
  | .bl b, p, e => e
  | .int i, p, e => e
  | .str x, p, e => e
  | .tup l, p, e => by
    simp only [pyD] at e
    cases q : pyL l with
    | none => rw [q] at e; cases e
    | some ps => rw [q] at e; simp only [pyGo, pyGoL_of q]; exact e
  | .lst l, p, e => by
    simp only [pyD] at e
    cases q : pyL l with
    | none => rw [q] at e; cases e
    | some ps => rw [q] at e; simp only [pyGo, pyGoL_of q]; exact e
  | .fz l, p, e => by
    simp only [pyD] at e
    cases q : pyL l with
    | none => rw [q] at e; cases e
    | some ps => rw [q] at e; simp only [pyGo, pyGoL_of q]; exact e
  | .ref i, p, e => by cases e
theorem pyGoL_of {k : Nat → Option PyData} : ∀ {l : List D} {ps : List PyData}, pyL l = some ps → pyGoL k l = some ps
  | [], ps, e => e
  | d :: l, ps, e => by
    simp only [pyL] at e
    split at e
    · rename_i a b h1 h2
      simp only [pyGoL, pyGo_of h1, pyGoL_of h2]
      exact e
    · cases e
end
mutual
theorem pyD_ok : ∀ {d : D} {u : V} {p : PyData}, Rp G W H d u → pyD d = some p → Dp G.K H u p
  | .non, u, p, r, e => by cases r; cases e; exact .non
  | .bl b, u, p, r, e => by cases r; cases e; exact .bl b
  | .int i, u, p, r, e => by cases r; cases e; exact .int i
  | .str x, u, p, r, e => by cases r; cases e; exact .str _
  | .tup l, u, p, r, e => by
    obtain ⟨a, us, e1, s1, r1⟩ := r
    subst e1
    simp only [pyD] at e
    cases q : pyL l with
    | none => rw [q] at e; cases e
    | some ps => rw [q] at e; cases e; exact .tup s1.sq (pyL_ok r1 q)
  | .lst l, u, p, r, e => by
    obtain ⟨a, us, e1, s1, r1⟩ := r
    subst e1
    simp only [pyD] at e
    cases q : pyL l with
    | none => rw [q] at e; cases e
    | some ps => rw [q] at e; cases e; exact .lst (.inl (.inl s1.1)) (pyL_ok r1 q)
  | .fz l, u, p, r, e => by
    obtain ⟨a, us, e1, s1, r1⟩ := r
    subst e1
    simp only [pyD] at e
    cases q : pyL l with
    | none => rw [q] at e; cases e
    | some ps =>
      rw [q] at e; cases e
      refine .lst ?_ (pyL_ok r1 q)
      rcases s1 with ⟨o, s1⟩ | s1
      · exact .inl (.inr ⟨o, s1⟩)
      · exact .inr s1
  | .ref i, u, p, r, e => by cases e
theorem pyL_ok : ∀ {l : List D} {us : List V} {ps : List PyData}, RpL G W H l us → pyL l = some ps → DpAll G.K H us ps
  | [], us, ps, r, e => by have : us = [] := r; subst this; cases e; exact .nil
  | d :: l, us, ps, r, e => by
    obtain ⟨u, us', e1, r1, r2⟩ := r
    subst e1
    simp only [pyL] at e
    split at e
    · rename_i a b h1 h2
      cases e
      exact .cons (pyD_ok r1 h1) (pyL_ok r2 h2)
    · cases e
end
mutual
theorem pyGo_ok {k : Nat → Option PyData} (hk : ∀ i a p, W.as[i]? = some a → k i = some p → Dp G.K H (.ref a) p) : ∀ {d : D} {u : V} {p : PyData}, Rp G W H d u → pyGo k d = some p → Dp G.K H u p
  | .non, u, p, r, e => by cases r; cases e; exact .non
  | .bl b, u, p, r, e => by cases r; cases e; exact .bl b
  | .int i, u, p, r, e => by cases r; cases e; exact .int i
  | .str x, u, p, r, e => by cases r; cases e; exact .str _
  | .tup l, u, p, r, e => by
    obtain ⟨a, us, e1, s1, r1⟩ := r
    subst e1
    simp only [pyGo] at e
    cases q : pyGoL k l with
    | none => rw [q] at e; cases e
    | some ps => rw [q] at e; cases e; exact .tup s1.sq (pyGoL_ok hk r1 q)
  | .lst l, u, p, r, e => by
    obtain ⟨a, us, e1, s1, r1⟩ := r
    subst e1
    simp only [pyGo] at e
    cases q : pyGoL k l with
    | none => rw [q] at e; cases e
    | some ps => rw [q] at e; cases e; exact .lst (.inl (.inl s1.1)) (pyGoL_ok hk r1 q)
  | .fz l, u, p, r, e => by
    obtain ⟨a, us, e1, s1, r1⟩ := r
    subst e1
    simp only [pyGo] at e
    cases q : pyGoL k l with
    | none => rw [q] at e; cases e
    | some ps =>
      rw [q] at e; cases e
      refine .lst ?_ (pyGoL_ok hk r1 q)
      rcases s1 with ⟨o, s1⟩ | s1
      · exact .inl (.inr ⟨o, s1⟩)
      · exact .inr s1
  | .ref i, u, p, r, e => by
    obtain ⟨a, e1, rfl⟩ := r
    exact hk i a p e1 e
theorem pyGoL_ok {k : Nat → Option PyData} (hk : ∀ i a p, W.as[i]? = some a → k i = some p → Dp G.K H (.ref a) p) : ∀ {l : List D} {us : List V} {ps : List PyData}, RpL G W H l us → pyGoL k l = some ps → DpAll G.K H us ps
  | [], us, ps, r, e => by have : us = [] := r; subst this; cases e; exact .nil
  | d :: l, us, ps, r, e => by
    obtain ⟨u, us', e1, r1, r2⟩ := r
    subst e1
    simp only [pyGoL] at e
    split at e
    · rename_i a b h1 h2
      cases e
      exact .cons (pyGo_ok hk r1 h1) (pyGoL_ok hk r2 h2)
    · cases e
end
theorem kN_ok (m : MemOk G W H M) : ∀ (n i : Nat) (a : Addr) (p : PyData), W.as[i]? = some a → kN M n i = some p → Dp G.K H (.ref a) p
  | 0, i, a, p, e1, e => by cases e
  | n + 1, i, a, p, e1, e => by
    simp only [kN] at e
    split at e
    · rename_i l hc
      obtain ⟨us, h1, h2⟩ := m.cell i _ a hc e1
      cases q : pyGoL (kN M n) l with
      | none => rw [q] at e; cases e
      | some ps => rw [q] at e; cases e; exact .lst (.inl (.inl h1)) (pyGoL_ok (kN_ok m n) h2 q)
    · cases e
theorem pyM_ok (m : MemOk G W H M) {d : D} {u : V} {p : PyData} (r : Rp G W H d u) (e : pyM M d = some p) : Dp G.K H u p := pyGo_ok (kN_ok m 4) r e
mutual
theorem pyD_plain : ∀ {d : D} {p : PyData}, pyD d = some p → p.plain = true
  | .non, p, e => by cases e; rfl
  | .bl b, p, e => by cases e; rfl
  | .int b, p, e => by cases e; rfl
  | .str b, p, e => by cases e; rfl
  | .tup l, p, e => by
    simp only [pyD] at e
    cases q : pyL l with
    | none => rw [q] at e; cases e
    | some ps => rw [q] at e; cases e; simp only [PyData.plain]; exact pyL_plain q
  | .lst l, p, e => by
    simp only [pyD] at e
    cases q : pyL l with
    | none => rw [q] at e; cases e
    | some ps => rw [q] at e; cases e; simp only [PyData.plain]; exact pyL_plain q
  | .fz l, p, e => by
    simp only [pyD] at e
    cases q : pyL l with
    | none => rw [q] at e; cases e
    | some ps => rw [q] at e; cases e; simp only [PyData.plain]; exact pyL_plain q
  | .ref i, p, e => by cases e
theorem pyL_plain : ∀ {l : List D} {ps : List PyData}, pyL l = some ps → PyData.plainAll ps = true
  | [], ps, e => by cases e; rfl
  | d :: l, ps, e => by
    simp only [pyL] at e
    split at e
    · rename_i a b h1 h2
      cases e
      simp only [PyData.plainAll, Bool.and_eq_true]
      exact ⟨pyD_plain h1, pyL_plain h2⟩
    · cases e
end
mutual
theorem pyGo_plain {k : Nat → Option PyData} (hk : ∀ i p, k i = some p → p.plain = true) : ∀ {d : D} {p : PyData}, pyGo k d = some p → p.plain = true
  | .non, p, e => by cases e; rfl
  | .bl b, p, e => by cases e; rfl
  | .int b, p, e => by cases e; rfl
  | .str b, p, e => by cases e; rfl
  | .tup l, p, e => by
    simp only [pyGo] at e
    cases q : pyGoL k l with
    | none => rw [q] at e; cases e
    | some ps => rw [q] at e; cases e; simp only [PyData.plain]; exact pyGoL_plain hk q
  | .lst l, p, e => by
    simp only [pyGo] at e
    cases q : pyGoL k l with
    | none => rw [q] at e; cases e
    | some ps => rw [q] at e; cases e; simp only [PyData.plain]; exact pyGoL_plain hk q
  | .fz l, p, e => by
    simp only [pyGo] at e
    cases q : pyGoL k l with
    | none => rw [q] at e; cases e
    | some ps => rw [q] at e; cases e; simp only [PyData.plain]; exact pyGoL_plain hk q
  | .ref i, p, e => hk i p e
theorem pyGoL_plain {k : Nat → Option PyData} (hk : ∀ i p, k i = some p → p.plain = true) : ∀ {l : List D} {ps : List PyData}, pyGoL k l = some ps → PyData.plainAll ps = true
  | [], ps, e => by cases e; rfl
  | d :: l, ps, e => by
    simp only [pyGoL] at e
    split at e
    · rename_i a b h1 h2
      cases e
      simp only [PyData.plainAll, Bool.and_eq_true]
      exact ⟨pyGo_plain hk h1, pyGoL_plain hk h2⟩
    · cases e
end
theorem kN_plain : ∀ (n i : Nat) (p : PyData), kN M n i = some p → p.plain = true
  | 0, i, p, e => by cases e
  | n + 1, i, p, e => by
    simp only [kN] at e
    split at e
    · rename_i l hc
      cases q : pyGoL (kN M n) l with
      | none => rw [q] at e; cases e
      | some ps => rw [q] at e; cases e; simp only [PyData.plain]; exact pyGoL_plain (kN_plain n) q
    · cases e
theorem pyM_plain {d : D} {p : PyData} (e : pyM M d = some p) : p.plain = true := pyGo_plain (kN_plain 4) e
def rEqP (K : PySem.W.Frag) : R2 := fun x y H Q => ∃ d e, Dp K H x d ∧ Dp K H y e ∧ d.plain = true ∧ e.plain = true ∧ min d.depth e.depth ≤ 60 ∧ Q (.bl (PyData.eqv d e)) H
def rNeP (K : PySem.W.Frag) : R2 := fun x y H Q => ∃ d e, Dp K H x d ∧ Dp K H y e ∧ d.plain = true ∧ e.plain = true ∧ min d.depth e.depth ≤ 60 ∧ Q (.bl (!PyData.eqv d e)) H
theorem op_eqP (hu : X.A.units + 64 < cLine) : OpR X (compareOp .Eq) (rEqP X.K) := by
  intro pins s σ H x y v u Q I rx ry h
  obtain ⟨d, e, hd, he, sd, se, hm, q⟩ := h
  obtain ⟨as, r1⟩ := Dp.reads I d x v hd rx
  obtain ⟨bs, r2⟩ := Dp.reads I e y u he ry
  exact PySem.SeqAt.eq_plain r1 r2 sd se (by omega) ⟨.bl _, H, I, rfl, q⟩
theorem op_neP (hu : X.A.units + 64 < cLine) : OpR X (compareOp .NotEq) (rNeP X.K) := by
  intro pins s σ H x y v u Q I rx ry h
  obtain ⟨d, e, hd, he, sd, se, hm, q⟩ := h
  obtain ⟨as, r1⟩ := Dp.reads I d x v hd rx
  obtain ⟨bs, r2⟩ := Dp.reads I e y u he ry
  exact PySem.SeqAt.ne_plain r1 r2 sd se (by omega) ⟨.bl _, H, I, rfl, q⟩
def oEq (ne : Bool) (a b : D) (M : Mem) : R D := match pyM M a, pyM M b with
  | some x, some y => if min x.depth y.depth ≤ 60 then .ok (.bl (if ne = true then !PyData.eqv x y else PyData.eqv x y)) M else .no
  | _, _ => .no
theorem op2_eq : Op2 G E (rEqP G.K) (oEq false) := fun W H M a b u v Q m ra rb p => by
  simp only [oEq] at p
  split at p
  · rename_i x y e1 e2
    split at p
    · rename_i hc
      exact ⟨x, y, pyM_ok m ra e1, pyM_ok m rb e2, pyM_plain e1, pyM_plain e2, hc, p.here m _ rfl⟩
    · exact p.elim
  · exact p.elim
theorem op2_ne : Op2 G E (rNeP G.K) (oEq true) := fun W H M a b u v Q m ra rb p => by
  simp only [oEq] at p
  split at p
  · rename_i x y e1 e2
    split at p
    · rename_i hc
      exact ⟨x, y, pyM_ok m ra e1, pyM_ok m rb e2, pyM_plain e1, pyM_plain e2, hc, p.here m _ rfl⟩
    · exact p.elim
  · exact p.elim
/-! ### in a list or tuple of data -/
def rInP (K : PySem.W.Frag) (neg : Bool) : R2 := fun x y H Q => ∃ d ds, Dp K H x d ∧ (Dp K H y (.list ds) ∨ Dp K H y (.tuple ds)) ∧ d.plain = true ∧ PyData.plainAll ds = true ∧ min (PyData.depthAll ds) d.depth ≤ 60 ∧ Q (.bl (if neg = true then !ds.any fun z => PyData.eqv z d else ds.any fun z => PyData.eqv z d)) H
theorem op_inP (hu : X.A.units + 64 < cLine) : OpR X (compareOp .In) (rInP X.K false) := by
  intro pins s σ H x y v u Q I rx ry h
  obtain ⟨d, ds, hd, he, sd, se, hm, q⟩ := h
  obtain ⟨as, r1⟩ := Dp.reads I d x v hd rx
  rcases he with he | he
  · obtain ⟨bs, r2⟩ := Dp.reads I _ y u he ry
    exact PySem.SeqAt.in_list_data r2 r1 se sd (by omega) ⟨.bl _, H, I, rfl, q⟩
  · obtain ⟨bs, r2⟩ := Dp.reads I _ y u he ry
    exact PySem.SeqAt.in_tuple_data r2 r1 se sd (by omega) ⟨.bl _, H, I, rfl, q⟩
theorem op_notInP (hu : X.A.units + 64 < cLine) : OpR X (compareOp .NotIn) (rInP X.K true) := by
  intro pins s σ H x y v u Q I rx ry h
  obtain ⟨d, ds, hd, he, sd, se, hm, q⟩ := h
  obtain ⟨as, r1⟩ := Dp.reads I d x v hd rx
  rcases he with he | he
  · obtain ⟨bs, r2⟩ := Dp.reads I _ y u he ry
    exact PySem.SeqAt.notIn_list_data r2 r1 se sd (by omega) ⟨.bl _, H, I, rfl, q⟩
  · obtain ⟨bs, r2⟩ := Dp.reads I _ y u he ry
    exact PySem.SeqAt.notIn_tuple_data r2 r1 se sd (by omega) ⟨.bl _, H, I, rfl, q⟩
def oInD (neg : Bool) (a b : D) (M : Mem) : R D := match pyM M a, pyM M b with
  | some x, some (.list ds) => if min (PyData.depthAll ds) x.depth ≤ 60 then .ok (.bl (if neg = true then !ds.any fun z => PyData.eqv z x else ds.any fun z => PyData.eqv z x)) M else .no
  | some x, some (.tuple ds) => if min (PyData.depthAll ds) x.depth ≤ 60 then .ok (.bl (if neg = true then !ds.any fun z => PyData.eqv z x else ds.any fun z => PyData.eqv z x)) M else .no
  | _, _ => .no
theorem op2_inD {neg : Bool} : Op2 G E (rInP G.K neg) (oInD neg) := fun W H M a b u v Q m ra rb p => by
  simp only [oInD] at p
  split at p
  · rename_i x ds e1 e2
    split at p
    · rename_i hc
      exact ⟨x, ds, pyM_ok m ra e1, .inl (pyM_ok m rb e2), pyM_plain e1, pyM_plain e2, hc, p.here m _ rfl⟩
    · exact p.elim
  · rename_i x ds e1 e2
    split at p
    · rename_i hc
      exact ⟨x, ds, pyM_ok m ra e1, .inr (pyM_ok m rb e2), pyM_plain e1, pyM_plain e2, hc, p.here m _ rfl⟩
    · exact p.elim
  · exact p.elim
section
variable {a b c : Expr} {fa fb fc : FE} {pos : Pos}
theorem sn_eq (hu : X.A.units + 64 < cLine) (ha : PE X a (tE ⟨X.K, cl⟩ E fa)) (hb : PE X b (tE ⟨X.K, cl⟩ E fb)) : PE X (.Compare a [.Eq] [b] pos) (tE ⟨X.K, cl⟩ E (mOp (oEq false) fa fb)) := sn_cmp (op_eqP hu) op2_eq (nomark _) ha hb
theorem sn_ne (hu : X.A.units + 64 < cLine) (ha : PE X a (tE ⟨X.K, cl⟩ E fa)) (hb : PE X b (tE ⟨X.K, cl⟩ E fb)) : PE X (.Compare a [.NotEq] [b] pos) (tE ⟨X.K, cl⟩ E (mOp (oEq true) fa fb)) := sn_cmp (op_neP hu) op2_ne (nomark _) ha hb
theorem sn_inD (hu : X.A.units + 64 < cLine) (ha : PE X a (tE ⟨X.K, cl⟩ E fa)) (hb : PE X b (tE ⟨X.K, cl⟩ E fb)) (hm : behindInMarks .In b = false := by rfl) : PE X (.Compare a [.In] [b] pos) (tE ⟨X.K, cl⟩ E (mOp (oInD false) fa fb)) := sn_cmp (op_inP hu) op2_inD hm ha hb
theorem sn_notInD (hu : X.A.units + 64 < cLine) (ha : PE X a (tE ⟨X.K, cl⟩ E fa)) (hb : PE X b (tE ⟨X.K, cl⟩ E fb)) (hm : behindInMarks .NotIn b = false := by rfl) : PE X (.Compare a [.NotIn] [b] pos) (tE ⟨X.K, cl⟩ E (mOp (oInD true) fa fb)) := sn_cmp (op_notInP hu) op2_inD hm ha hb
/-! ### order: ints, texts -/
def oOrd (p : Int → Int → Bool) (q : List Nat → List Nat → Bool) : D → D → Mem → R D
  | .int i, .int j, M => .ok (.bl (p i j)) M
  | .str x, .str y, M => .ok (.bl (q x y)) M
  | _, _, _ => .no
def oLt := oOrd (fun i j => decide (i < j)) (fun x y => decide (x < y))
def oLe := oOrd (fun i j => decide (i ≤ j)) (fun x y => !decide (y < x))
def oGt := oOrd (fun i j => decide (j < i)) (fun x y => decide (y < x))
def oGe := oOrd (fun i j => decide (j ≤ i)) (fun x y => !decide (x < y))
theorem op2_ord {p : Int → Int → Bool} {q : List Nat → List Nat → Bool} : Op2 G E (fun x y H Q => rI0 (fun i j => .bl (p i j)) x y H Q ∨ ∃ i j : Str, x = .str i ∧ y = .str j ∧ Q (.bl (q i.cps.toList j.cps.toList)) H) (oOrd p q) := fun W H M a b u v Q m ra rb h => by
  cases a <;> cases b <;> first
    | exact h.elim
    | exact .inl ⟨_, _, ra, rb, h.here m _ rfl⟩
    | exact .inr ⟨_, _, ra, rb, h.here m _ (by rw [l2s_toList, l2s_toList]; rfl)⟩
theorem sn_lt (ha : PE X a (tE G E fa)) (hb : PE X b (tE G E fb)) : PE X (.Compare a [.Lt] [b] pos) (tE G E (mOp oLt fa fb)) := sn_cmp (op_lt.or op_lt_str) op2_ord (nomark _) ha hb
theorem sn_le (ha : PE X a (tE G E fa)) (hb : PE X b (tE G E fb)) : PE X (.Compare a [.LtE] [b] pos) (tE G E (mOp oLe fa fb)) := sn_cmp (op_le.or op_le_str) op2_ord (nomark _) ha hb
theorem sn_gt (ha : PE X a (tE G E fa)) (hb : PE X b (tE G E fb)) : PE X (.Compare a [.Gt] [b] pos) (tE G E (mOp oGt fa fb)) := sn_cmp (op_gt.or op_gt_str) op2_ord (nomark _) ha hb
theorem sn_ge (ha : PE X a (tE G E fa)) (hb : PE X b (tE G E fb)) : PE X (.Compare a [.GtE] [b] pos) (tE G E (mOp oGe fa fb)) := sn_cmp (op_ge.or op_ge_str) op2_ord (nomark _) ha hb
/-! ### is None -/
def oIsN (neg : Bool) : D → Mem → R D
  | .non, M => .ok (.bl (!neg)) M
  | _, M => .ok (.bl neg) M
theorem sn_isN {i pos2} (ha : PE X a (tE G E fa)) : PE X (.Compare a [.Is] [.Constant .none i pos2] pos) (tE G E (mUn (oIsN false) fa)) := pe_imp (pe_cmpR op_isN ha pe_non (nomark _)) fun σ H Q ⟨W, env, M, s, p⟩ => by
  refine tE.bind s p fun d m W1 H1 u f1 s1 r1 p1 => ?_
  refine ⟨rfl, ?_⟩
  cases d with
  | non => cases r1; exact p1.here s1.mem _ rfl
  | bl b => cases r1; exact p1.here s1.mem _ rfl
  | int b => cases r1; exact p1.here s1.mem _ rfl
  | str b => cases r1; exact p1.here s1.mem _ rfl
  | tup l => obtain ⟨a, us, e1, _⟩ := r1; subst e1; exact p1.here s1.mem _ rfl
  | lst l => obtain ⟨a, us, e1, _⟩ := r1; subst e1; exact p1.here s1.mem _ rfl
  | fz l => obtain ⟨a, us, e1, _⟩ := r1; subst e1; exact p1.here s1.mem _ rfl
  | ref l => obtain ⟨a, us, e1⟩ := r1; subst e1; exact p1.here s1.mem _ rfl
theorem sn_notN {i pos2} (ha : PE X a (tE G E fa)) : PE X (.Compare a [.IsNot] [.Constant .none i pos2] pos) (tE G E (mUn (oIsN true) fa)) := pe_imp (pe_cmpR op_notN ha pe_non (nomark _)) fun σ H Q ⟨W, env, M, s, p⟩ => by
  refine tE.bind s p fun d m W1 H1 u f1 s1 r1 p1 => ?_
  refine ⟨rfl, ?_⟩
  cases d with
  | non => cases r1; exact p1.here s1.mem _ rfl
  | bl b => cases r1; exact p1.here s1.mem _ rfl
  | int b => cases r1; exact p1.here s1.mem _ rfl
  | str b => cases r1; exact p1.here s1.mem _ rfl
  | tup l => obtain ⟨a, us, e1, _⟩ := r1; subst e1; exact p1.here s1.mem _ rfl
  | lst l => obtain ⟨a, us, e1, _⟩ := r1; subst e1; exact p1.here s1.mem _ rfl
  | fz l => obtain ⟨a, us, e1, _⟩ := r1; subst e1; exact p1.here s1.mem _ rfl
  | ref l => obtain ⟨a, us, e1⟩ := r1; subst e1; exact p1.here s1.mem _ rfl
/-! ### in: a text, a list or tuple of flat things -/
def flatD : D → Bool
  | .non | .bl _ | .int _ | .str _ => true
  | _ => false
def eqF : D → D → Bool
  | .non, .non => true
  | .bl a, .bl b => a == b
  | .bl a, .int b => (if a = true then 1 else 0) == b
  | .int a, .bl b => a == (if b = true then 1 else 0)
  | .int a, .int b => a == b
  | .str a, .str b => a == b
  | _, _ => false
theorem l2s_beq (a b : List Nat) : (l2s a == l2s b) = (a == b) := by
  by_cases h : a = b
  · subst h; simp
  · have h2 : ¬ l2s a = l2s b := fun z => h (l2s_inj z)
    rw [beq_eq_false_iff_ne.mpr h, beq_eq_false_iff_ne.mpr h2]
theorem flat_ok {d : D} {u : V} (r : Rp G W H d u) (h : flatD d = true) : flatV u = true := by
  cases d <;> first
    | (cases r; rfl)
    | cases h
theorem eqF_ok {x y : D} {u v : V} (rx : Rp G W H x u) (ry : Rp G W H y v) (hx : flatD x = true) (hy : flatD y = true) : eqV u v = eqF x y := by
  cases x <;> first
    | (cases hx; done)
    | (cases rx
       cases y <;> first
        | (cases hy; done)
        | (cases ry; first | rfl | exact l2s_beq _ _ | (rename_i p q; cases p <;> rfl) | (rename_i p q; cases q <;> rfl)))
theorem inV_ok {x : D} {u : V} (rx : Rp G W H x u) (hx : flatD x = true) : ∀ {l : List D} {us : List V}, RpL G W H l us → l.all flatD = true → us.all flatV = true ∧ inV u us = l.any fun y => eqF y x
  | [], us, r, h => by have : us = [] := r; subst this; exact ⟨rfl, rfl⟩
  | d :: l, us, r, h => by
    obtain ⟨v, us', e1, r1, r2⟩ := r
    subst e1
    rw [List.all_cons, Bool.and_eq_true] at h
    obtain ⟨k1, k2⟩ := inV_ok rx hx r2 h.2
    refine ⟨by rw [List.all_cons, flat_ok r1 h.1, k1]; rfl, ?_⟩
    have k3 : inV u us' = us'.any fun y => eqV y u := rfl
    show (v :: us').any (fun y => eqV y u) = _
    rw [List.any_cons, List.any_cons, ← k2, k3, eqF_ok r1 rx h.1 hx]
def oInF (neg : Bool) (a b : D) (M : Mem) : R D := match seqOf M b with
  | some l => if flatD a = true ∧ l.all flatD = true then .ok (.bl (if neg = true then !l.any fun y => eqF y a else l.any fun y => eqF y a)) M else .no
  | none => .no
theorem op2_inF {neg : Bool} : Op2 G E (rIn G.K neg) (oInF neg) := fun W H M a b u v Q m ra rb p => by
  simp only [oInF] at p
  split at p
  · rename_i l e1
    split at p
    · rename_i hc
      obtain ⟨p1, us, h1, h2, h3⟩ := seqOf_ok m rb e1
      obtain ⟨k1, k2⟩ := inV_ok ra hc.1 h3 hc.2
      refine ⟨p1, us, h1, h2, flat_ok ra hc.1, k1, ?_⟩
      rw [k2]
      exact p.here m _ rfl
    · exact p.elim
  · exact p.elim
theorem sn_inF (ha : PE X a (tE ⟨X.K, cl⟩ E fa)) (hb : PE X b (tE ⟨X.K, cl⟩ E fb)) (hm : behindInMarks .In b = false := by rfl) : PE X (.Compare a [.In] [b] pos) (tE ⟨X.K, cl⟩ E (mOp (oInF false) fa fb)) := sn_cmp op_in_seq op2_inF hm ha hb
theorem sn_notInF (ha : PE X a (tE ⟨X.K, cl⟩ E fa)) (hb : PE X b (tE ⟨X.K, cl⟩ E fb)) (hm : behindInMarks .NotIn b = false := by rfl) : PE X (.Compare a [.NotIn] [b] pos) (tE ⟨X.K, cl⟩ E (mOp (oInF true) fa fb)) := sn_cmp op_notIn_seq op2_inF hm ha hb
/-- one sign in a text -/
def oInS (neg : Bool) : D → D → Mem → R D
  | .str [c], .str y, M => .ok (.bl (if neg = true then !decide (c ∈ y) else decide (c ∈ y))) M
  | _, _, _ => .no
/-! ### chains -/
def mChain (o o' : D → D → Mem → R D) (fa fb fc : FE) : FE := fun env M => (fa env M).bind fun x m => (fb env m).bind fun y m => (o x y m).bind fun z m => match z with
  | .bl true => (fc env m).bind fun w m => o' y w m
  | .bl false => .ok (.bl false) m
  | _ => .no
theorem chain_reads {r r' : R2} {o o' : D → D → Mem → R D} (hs : Op2 G E r o) (hs' : Op2 G E r' o') (σ : L2.St) (H : Hp) (Q : VK) (h : tE G E (mChain o o' fa fb fc) σ H Q) : tChain r r' (tE G E fa) (tE G E fb) (tE G E fc) σ H Q := by
  obtain ⟨W, env, M, s, p⟩ := h
  refine tE.bind s p fun d m W1 H1 u f1 s1 r1 p1 => ?_
  refine tE.bind s1 p1 fun d2 m2 W2 H2 u2 f2 s2 r2 p2 => ?_
  refine hs W2 H2 m2 d d2 u u2 _ s2.mem (s1.mem.rp f2 r1) r2 (PR.bind p2 fun z m3 W3 H3 f3 mk3 p3 => fun w rw_ => ?_)
  have s3 := s2.fut f3 mk3
  cases z with
  | bl k =>
    cases rw_
    cases k with
    | true =>
      refine ⟨true, rfl, ?_⟩
      rw [if_pos rfl]
      refine tE.bind s3 p3 fun d4 m4 W4 H4 u4 f4 s4 r4 p4 => ?_
      exact hs' W4 H4 m4 d2 d4 u2 u4 Q s4.mem (s3.mem.rp f4 (s2.mem.rp f3 r2)) r4 p4
    | false =>
      refine ⟨false, rfl, ?_⟩
      rw [if_neg Bool.false_ne_true]
      exact p3.here mk3 _ rfl
  | _ => exact p3.elim
theorem sn_chain {op op' : CmpOp} {r r' : R2} {o o' : D → D → Mem → R D} (ho : OpR X (compareOp op) r) (hs : Op2 G E r o) (ho' : OpR X (compareOp op') r') (hs' : Op2 G E r' o') (ha : PE X a (tE G E fa)) (hb : PE X b (tE G E fb)) (hc : PE X c (tE G E fc))
    (hm : lastMarks [op, op'] [b, c] = false := by rfl) : PE X (.Compare a [op, op'] [b, c] pos) (tE G E (mChain o o' fa fb fc)) := pe_imp (pe_chain ho ho' ha hb hc hm) (chain_reads hs hs')
end
/-! ### tests -/
/-- the truth of a value -/
def truD (M : Mem) : D → Option Bool
  | .non => some false
  | .bl b => some b
  | .int i => some (i != 0)
  | .str x => if x.length ≤ 16777216 then some (!x.isEmpty) else none
  | .tup l => some (!l.isEmpty)
  | .lst l => some (!l.isEmpty)
  | .fz l => some (!l.isEmpty)
  | .ref i => match M[i]? with
    | some (.lst l) => some (!l.isEmpty)
    | some (.dk false kvs) => some (!kvs.isEmpty)
    | _ => none
/-- a test that must be a truth -/
def bOf (f : FE) : FT := fun env M => (f env M).bind fun d m => match d with
  | .bl b => .ok b m
  | _ => .no
section
variable {a b c : Expr} {fa fb fc : FE} {ga gb gc : FT} {pos : Pos}
theorem st_val (ha : PE X a (tE G E fa)) (he : ∀ whole, isTrue a X.env whole = (do let v ← whole; standAt a.pos; holding [v] (truthy v)) := by intro _; rfl) : PT X a (tT G E (bOf fa)) := pt_imp (pt_val ha he) fun σ H Q ⟨W, env, M, s, p⟩ => by
  refine tE.bind s p fun d m W1 H1 u f1 s1 r1 p1 => ?_
  cases d with
  | bl k => exact ⟨k, r1, p1.here s1.mem⟩
  | _ => exact p1.elim
/-- any value as a test -/
def tOf (f : FE) : FT := fun env M => (f env M).bind fun d m => match truD m d with
  | some b => .ok b m
  | none => .no
theorem truD_ok (m : MemOk G W H M) {d : D} {u : V} {k : Bool} (r : Rp G W H d u) (e : truD M d = some k) : TruV G.K u H k := by
  cases d with
  | non => cases r; cases e; rfl
  | bl b => cases r; cases e; rfl
  | int b => cases r; cases e; rfl
  | str x =>
    cases r
    simp only [truD] at e
    split at e
    · rename_i hz
      cases e
      refine ⟨by rw [l2s_len, line_eq]; exact hz, ?_⟩
      rw [l2s_len]
      cases x with
      | nil => rfl
      | cons c x => simp; omega
    · cases e
  | tup l =>
    obtain ⟨a, us, e1, s1, r1⟩ := r
    subst e1; cases e
    refine .inr (.inl ⟨us, s1.sq, ?_⟩)
    cases l with
    | nil => have : us = [] := r1; subst this; rfl
    | cons d l => obtain ⟨_, _, e2, _⟩ := r1; subst e2; rfl
  | lst l =>
    obtain ⟨a, us, e1, s1, r1⟩ := r
    subst e1; cases e
    refine .inl ⟨us, .inl (.inl s1.1), ?_⟩
    cases l with
    | nil => have : us = [] := r1; subst this; rfl
    | cons d l => obtain ⟨_, _, e2, _⟩ := r1; subst e2; rfl
  | fz l =>
    obtain ⟨a, us, e1, s1, r1⟩ := lstOf_ok m (d := .fz l) r rfl
    subst e1; cases e
    refine .inl ⟨us, s1, ?_⟩
    cases l with
    | nil => have : us = [] := r1; subst this; rfl
    | cons d l => obtain ⟨_, _, e2, _⟩ := r1; subst e2; rfl
  | ref i =>
    obtain ⟨a, e1, e2⟩ := r
    subst e2
    simp only [truD] at e
    split at e
    · rename_i l hc
      cases e
      obtain ⟨us, h1, r1⟩ := m.cell i _ a hc e1
      refine .inl ⟨us, .inl (.inl h1), ?_⟩
      cases l with
      | nil => have : us = [] := r1; subst this; rfl
      | cons d l => obtain ⟨_, _, e2, _⟩ := r1; subst e2; rfl
    · rename_i kvs hc
      cases e
      obtain ⟨vs, h1, r1⟩ := m.cell i _ a hc e1
      refine .inr (.inr ⟨vs, h1, ?_⟩)
      cases r1 <;> rfl
    · cases e
theorem st_truth (ha : PE X a (tE ⟨X.K, cl⟩ E fa)) (he : ∀ whole, isTrue a X.env whole = (do let v ← whole; standAt a.pos; holding [v] (truthy v)) := by intro _; rfl) : PT X a (tT ⟨X.K, cl⟩ E (tOf fa)) := pt_imp (pt_truth ha he) fun σ H Q ⟨W, env, M, s, p⟩ => by
  refine tE.bind s p fun d m W1 H1 u f1 s1 r1 p1 => ?_
  split at p1
  · rename_i k e
    exact ⟨k, truD_ok s1.mem r1 e, p1.here s1.mem⟩
  · exact p1.elim
def tAndM (f g : FT) : FT := fun env M => (f env M).bind fun b m => if b = true then g env m else .ok false m
def tOrM (f g : FT) : FT := fun env M => (f env M).bind fun b m => if b = true then .ok true m else g env m
def tNotM (f : FT) : FT := fun env M => (f env M).bind fun b m => .ok (!b) m
theorem tT_and {f g : FT} {σ : L2.St} {H : Hp} {Q : Bool → Hp → Prop} (h : tT G E (tAndM f g) σ H Q) : tAnd (tT G E f) (tT G E g) σ H Q := by
  obtain ⟨W, env, M, s, p⟩ := h
  refine tT.bind s p fun b m W1 H1 f1 s1 p1 => ?_
  cases b with
  | true => rw [if_pos rfl] at p1 ⊢; exact ⟨W1, env, m, s1, p1⟩
  | false => rw [if_neg Bool.false_ne_true] at p1 ⊢; exact p1.here s1.mem
theorem tT_or {f g : FT} {σ : L2.St} {H : Hp} {Q : Bool → Hp → Prop} (h : tT G E (tOrM f g) σ H Q) : tOr (tT G E f) (tT G E g) σ H Q := by
  obtain ⟨W, env, M, s, p⟩ := h
  refine tT.bind s p fun b m W1 H1 f1 s1 p1 => ?_
  cases b with
  | true => rw [if_pos rfl] at p1 ⊢; exact p1.here s1.mem
  | false => rw [if_neg Bool.false_ne_true] at p1 ⊢; exact ⟨W1, env, m, s1, p1⟩
theorem sw_and1 (ha : PT X a (tT G E ga)) : PW X (.BoolOp .And [a] pos) (tT G E ga) := pw_and1 ha
theorem sw_or1 (ha : PT X a (tT G E ga)) : PW X (.BoolOp .Or [a] pos) (tT G E ga) := pw_or1 ha
theorem sw_and {rest : List Expr} (ha : PT X a (tT G E ga)) (hb : PW X (.BoolOp .And (b :: rest) pos) (tT G E gb)) : PW X (.BoolOp .And (a :: b :: rest) pos) (tT G E (tAndM ga gb)) := pw_imp (pw_and ha hb) fun _ _ _ h => tT_and h
theorem sw_or {rest : List Expr} (ha : PT X a (tT G E ga)) (hb : PW X (.BoolOp .Or (b :: rest) pos) (tT G E gb)) : PW X (.BoolOp .Or (a :: b :: rest) pos) (tT G E (tOrM ga gb)) := pw_imp (pw_or ha hb) fun _ _ _ h => tT_or h
theorem st_not (ha : PT X a (tT G E ga)) : PT X (.UnaryOp .Not a pos) (tT G E (tNotM ga)) := pt_imp (pt_not ha) fun σ H Q ⟨W, env, M, s, p⟩ => by
  refine tT.bind s p fun b m W1 H1 f1 s1 p1 => ?_
  exact p1.here s1.mem
theorem st_chain {op op' : CmpOp} {r r' : R2} {o o' : D → D → Mem → R D} (ho : OpR X (compareOp op) r) (hs : Op2 G E r o) (ho' : OpR X (compareOp op') r') (hs' : Op2 G E r' o') (ha : PE X a (tE G E fa)) (hb : PE X b (tE G E fb)) (hc : PE X c (tE G E fc))
    (hm : lastMarks [op, op'] [b, c] = false := by rfl) : PT X (.Compare a [op, op'] [b, c] pos) (tT G E (bOf (mChain o o' fa fb fc))) := pt_imp (pt_chain ho ho' ha hb hc hm) fun σ H Q ⟨W, env, M, s, p⟩ => by
  have h : tE G E (mChain o o' fa fb fc) σ H (fun x H' => ∃ k, x = .bl k ∧ Q k H') := tE.bind s p fun d m W1 H1 u f1 s1 r1 p1 => by
    cases d with
    | bl k => exact ⟨k, r1, p1.here s1.mem⟩
    | _ => exact p1.elim
  exact chain_reads hs hs' σ H _ h
/-! ### and, or, not as values (truths) -/
def mAnd (f g : FE) : FE := fun env M => (f env M).bind fun d m => match d with
  | .bl true => g env m
  | .bl false => .ok (.bl false) m
  | _ => .no
def mOr (f g : FE) : FE := fun env M => (f env M).bind fun d m => match d with
  | .bl true => .ok (.bl true) m
  | .bl false => g env m
  | _ => .no
def mNot (f : FE) : FE := fun env M => (f env M).bind fun d m => match d with
  | .bl b => .ok (.bl (!b)) m
  | _ => .no
theorem sn_one {op} (ha : PE X a (tE G E fa)) : PE X (.BoolOp op [a] pos) (tE G E fa) := pe_one ha
theorem sn_and {rest : List Expr} (ha : PE X a (tE G E fa)) (hb : PE X (.BoolOp .And (b :: rest) pos) (tE G E fb)) : PE X (.BoolOp .And (a :: b :: rest) pos) (tE G E (mAnd fa fb)) := pe_imp (pe_and ha hb) fun σ H Q ⟨W, env, M, s, p⟩ => by
  refine tE.bind s p fun d m W1 H1 u f1 s1 r1 p1 => ?_
  cases d with
  | bl k =>
    cases r1
    cases k with
    | true => exact ⟨true, rfl, by rw [if_pos rfl]; exact ⟨W1, env, m, s1, p1⟩⟩
    | false => exact ⟨false, rfl, by rw [if_neg Bool.false_ne_true]; exact p1.here s1.mem _ rfl⟩
  | _ => exact p1.elim
theorem sn_or {rest : List Expr} (ha : PE X a (tE G E fa)) (hb : PE X (.BoolOp .Or (b :: rest) pos) (tE G E fb)) : PE X (.BoolOp .Or (a :: b :: rest) pos) (tE G E (mOr fa fb)) := pe_imp (pe_or ha hb) fun σ H Q ⟨W, env, M, s, p⟩ => by
  refine tE.bind s p fun d m W1 H1 u f1 s1 r1 p1 => ?_
  cases d with
  | bl k =>
    cases r1
    cases k with
    | true => exact ⟨true, rfl, by rw [if_pos rfl]; exact p1.here s1.mem _ rfl⟩
    | false => exact ⟨false, rfl, by rw [if_neg Bool.false_ne_true]; exact ⟨W1, env, m, s1, p1⟩⟩
  | _ => exact p1.elim
theorem sn_not (ha : PE X a (tE G E fa)) : PE X (.UnaryOp .Not a pos) (tE G E (mNot fa)) := pe_imp (pe_not ha) fun σ H Q ⟨W, env, M, s, p⟩ => by
  refine tE.bind s p fun d m W1 H1 u f1 s1 r1 p1 => ?_
  cases d with
  | bl k => exact ⟨k, r1, p1.here s1.mem _ rfl⟩
  | _ => exact p1.elim
def mIf (t : FT) (f g : FE) : FE := fun env M => (t env M).bind fun b m => if b = true then f env m else g env m
theorem sn_if (hc : PT X c (tT G E gc)) (ha : PE X a (tE G E fa)) (hb : PE X b (tE G E fb)) : PE X (.IfExp c a b pos) (tE G E (mIf gc fa fb)) := pe_imp (pe_ifExp hc ha hb) fun σ H Q ⟨W, env, M, s, p⟩ => by
  refine tT.bind s p fun k m W1 H1 f1 s1 p1 => ?_
  cases k with
  | true => rw [if_pos rfl] at p1 ⊢; exact ⟨W1, env, m, s1, p1⟩
  | false => rw [if_neg Bool.false_ne_true] at p1 ⊢; exact ⟨W1, env, m, s1, p1⟩
/-! ### arguments, displays -/
def aNil : FA := fun _ M => .ok [] M
def aCons (f : FE) (g : FA) : FA := fun env M => (f env M).bind fun d m => (g env m).bind fun ds m' => .ok (d :: ds) m'
theorem sa_nil : PA X [] (tA G E aNil) := pa_imp pa_nil fun σ H Q ⟨W, env, M, s, p⟩ => p.here s.mem _ rfl
theorem sa_cons {es : List Expr} {g : FA} (ha : PE X a (tE G E fa)) (hr : PA X es (tA G E g)) (hs : starEach (a :: es) X.env = (false, eval a X.env) :: starEach es X.env := by rfl) : PA X (a :: es) (tA G E (aCons fa g)) := pa_imp (pa_cons ha hr hs) fun σ H Q ⟨W, env, M, s, p⟩ => by
  refine tE.bind s p fun d m W1 H1 u f1 s1 r1 p1 => ?_
  refine tA.bind s1 p1 fun ds m2 W2 H2 us f2 s2 r2 p2 => ?_
  exact p2.here s2.mem _ ⟨u, us, rfl, s1.mem.rp f2 r1, r2⟩
def mTup (g : FA) : FE := fun env M => (g env M).bind fun ds m => if ds.length ≤ 16777216 then .ok (.tup ds) m else .no
def mLst (c : Bool) (g : FA) : FE := fun env M => (g env M).bind fun ds m => if ds.length ≤ 16777216 then mkL c ds m else .no
theorem sn_tup {es : List Expr} {g : FA} {x1} (h : PA X es (tA G E g)) : PE X (.Tuple es x1 pos) (tE G E (mTup g)) := pe_imp (pe_tup h) fun σ H Q ⟨W, env, M, s, p⟩ => by
  refine tA.bind s p fun ds m2 W2 H2 us f2 s2 r2 p2 => ?_
  split at p2
  · rename_i hz
    exact ⟨by rw [r2.len, line_eq]; exact hz, tup_new s2.mem p2 r2⟩
  · exact p2.elim
theorem sn_lst (c : Bool) {es : List Expr} {g : FA} (h : PA X es (tA G E g)) : PE X (.List es pos) (tE G E (mLst c g)) := pe_imp (pe_lst h) fun σ H Q ⟨W, env, M, s, p⟩ => by
  refine tA.bind s p fun ds m2 W2 H2 us f2 s2 r2 p2 => ?_
  split at p2
  · rename_i hz
    exact ⟨by rw [r2.len, line_eq]; exact hz, mkL_new s2.mem p2 r2⟩
  · exact p2.elim
end
end
end Fn

set_option Elab.async false
set_option linter.all false
set_option maxRecDepth 100000
set_option maxHeartbeats 1000000
/-! FnExpr: subscripts, slices, built-in functions, methods. -/
namespace Fn
open PySem PySem.Spec PyProof.Rows L2
section
variable {X : Cx} {G : Gx} {cl : Nat → Addr} {E : XK} {W : Wd} {H : Hp} {M : Mem} {a b c : Expr} {fa fb fc : FE} {pos : Pos}
/-! ### x[i] -/
def oIx : D → D → Mem → R D
  | .str x, .int i, M => if x.length ≤ 16777216 then match atI x i with
    | some c => .ok (.str [c]) M
    | none => .no
    else .no
  | a, .int i, M => match seqOf M a with
    | some l => match atI l i with
      | some d => .ok d M
      | none => .no
    | none => .no
  | _, _, _ => .no
theorem RpL.atI {ds : List D} {us : List V} (r : RpL G W H ds us) {i : Int} {d : D} (e : atI ds i = some d) : ∃ u, L2.atI us i = some u ∧ Rp G W H d u := by
  unfold L2.atI at e ⊢
  rw [r.len]
  cases h : ixN ds.length i with
  | none => rw [h] at e; cases e
  | some j => rw [h] at e; exact r.get e
theorem op2_ix : Op2 G E (rIx G.K) oIx := fun W H M a b u v Q m ra rb p => by
  cases b with
  | int i =>
    cases rb
    have seq : ∀ l, seqOf M a = some l → PR G W H (PV G Q) E (match atI l i with | some d => .ok d M | none => (.no : R D)) → rIx G.K u (.int i) H Q := fun l e1 p => by
      split at p
      · rename_i d e2
        obtain ⟨p1, us, h1, h2, h3⟩ := seqOf_ok m ra e1
        obtain ⟨w, h4, h5⟩ := h3.atI e2
        rcases h2 with h2 | h2
        · exact .inl ⟨p1, us, i, w, h1, rfl, h2, h4, p.here m _ h5⟩
        · exact .inr (.inl ⟨p1, us, i, w, h1, rfl, h2, h4, p.here m _ h5⟩)
      · exact p.elim
    cases a with
    | str x =>
      cases ra
      simp only [oIx] at p
      split at p
      · rename_i hz
        split at p
        · rename_i c e2
          exact .inr (.inr ⟨l2s x, i, c, rfl, rfl, by rw [l2s_len, line_eq]; exact hz, by rw [l2s_toList]; exact e2, p.here m _ rfl⟩)
        · exact p.elim
      · exact p.elim
    | tup l => exact seq l rfl p
    | lst l => exact seq l rfl p
    | fz l => exact seq l rfl p
    | ref j =>
      simp only [oIx] at p
      split at p
      · rename_i l e1
        exact seq l e1 p
      · exact p.elim
    | _ => exact p.elim
  | _ => cases a <;> exact p.elim
theorem sn_ix (ha : PE X a (tE ⟨X.K, cl⟩ E fa)) (hb : PE X b (tE ⟨X.K, cl⟩ E fb)) (hs : PlainIx b := by intro _ _; rfl) : PE X (.Subscript a b pos) (tE ⟨X.K, cl⟩ E (mOp oIx fa fb)) :=
  pe_imp (pe_ix ix_seq ha hb hs) (tE_op op2_ix)
/-! ### x[i:j] -/
def FO := Env → Mem → R (Option Int)
def pNone : FO := fun _ M => .ok none M
def pSome (f : FE) : FO := fun env M => (f env M).bind fun d m => match d with
  | .int i => .ok (some i) m
  | _ => .no
def cutD {α : Type} (xs : List α) (lo hi : Option Int) : List α := (xs.drop (HT.sIx xs.length 0 lo)).take (HT.sIx xs.length xs.length hi - HT.sIx xs.length 0 lo)
def oSl (c : Bool) (d : D) (lo hi : Option Int) (M : Mem) : R D := match d with
  | .str x => if x.length ≤ 16777216 then .ok (.str (cutD x lo hi)) M else .no
  | .tup l => .ok (.tup (cutD l lo hi)) M
  | d => match lstOf M d with
    | some l => mkL c (cutD l lo hi) M
    | none => .no
def mSl (c : Bool) (f : FE) (lo hi : FO) : FE := fun env M => (f env M).bind fun d m => (lo env m).bind fun l m1 => (hi env m1).bind fun h m2 => oSl c d l h m2
def tOO (G : Gx) (E : XK) (f : FO) : L2.St → Hp → (Option Int → Hp → Prop) → Prop := fun σ H Q => ∃ W env M, Sta G W env M σ H ∧ PR G W H (fun o _ _ H' => Q o H') E (f env M)
theorem po_imp {e : Option Expr} {t t' : TO} (h : PO X e t) (i : ∀ σ H Q, t' σ H Q → t σ H Q) : PO X e t' := ⟨fun pins s σ H Q I q => h.run pins s σ H Q I (i σ H Q q)⟩
theorem sp_none : PO X none (tOO G E pNone) := po_imp po_none fun σ H Q ⟨W, env, M, s, p⟩ => p.here s.mem
theorem sp_some (ha : PE X a (tE G E fa)) : PO X (some a) (tOO G E (pSome fa)) := po_imp (po_some ha) fun σ H Q ⟨W, env, M, s, p⟩ => by
  refine tE.bind s p fun d m W1 H1 u f1 s1 r1 p1 => ?_
  cases d with
  | int i => exact ⟨i, r1, p1.here s1.mem⟩
  | _ => exact p1.elim
theorem cut_len {xs : List V} {lo hi : Option Int} : cutV xs lo hi = cutD xs lo hi := rfl
theorem RpL.cut {ds : List D} {us : List V} (r : RpL G W H ds us) (lo hi : Option Int) : RpL G W H (cutD ds lo hi) (cutV us lo hi) := by
  unfold cutD cutV
  rw [r.len]
  exact (r.drop _).take _
theorem sIx_le (n d : Nat) (h : d ≤ n) (o : Option Int) : HT.sIx n d o ≤ n := HT.sIx_le _ _ h _
theorem cutD_whole {α : Type} {xs : List α} {lo hi : Option Int} (h : HT.sIx xs.length 0 lo = 0 ∧ HT.sIx xs.length xs.length hi = xs.length) : cutD xs lo hi = xs := by
  unfold cutD
  rw [h.1, h.2, List.drop_zero, Nat.sub_zero, List.take_length]
theorem sl2 (c : Bool) (d : D) (lo hi : Option Int) (W : Wd) (H : Hp) (M : Mem) (u : V) (Q : VK) (m : MemOk G W H M) (r : Rp G W H d u) (p : PR G W H (PV G Q) E (oSl c d lo hi M)) :
    rSlL G.K u lo hi H Q ∨ rSlA G.K u lo hi H Q ∨ rSlS u lo hi H Q := by
  have seq : ∀ l, lstOf M d = some l → PR G W H (PV G Q) E (mkL c (cutD l lo hi) M) → rSlL G.K u lo hi H Q := fun l e q => by
    obtain ⟨a1, us, h1, h2, h3⟩ := lstOf_ok m r e
    exact ⟨a1, us, h1, h2, mkL_new m q (h3.cut lo hi)⟩
  cases d with
  | str x =>
    cases r
    simp only [oSl] at p
    split at p
    · rename_i hz
      refine .inr (.inr ⟨l2s x, rfl, by rw [l2s_len, line_eq]; exact hz, p.here m _ ?_⟩)
      show V.str _ = V.str _
      unfold cutS cutD
      rw [l2s_len, l2s_toList]
      rfl
    · exact p.elim
  | tup l =>
    obtain ⟨a1, us, h1, h2, h3⟩ := r
    refine .inr (.inl ⟨a1, us, h1, h2.sq, fun hw => p.here m _ ⟨a1, us, rfl, h2.imp id fun z => ⟨by rw [z.1]; simp [cutD], z.2⟩, ?_⟩, fun _ => tup_new m p (h3.cut lo hi)⟩)
    have hw' := hw
    rw [h3.len] at hw'
    rw [cutD_whole hw']
    exact h3
  | lst l => exact .inl (seq l rfl p)
  | fz l => exact .inl (seq l rfl p)
  | ref j =>
    simp only [oSl] at p
    split at p
    · rename_i l e1
      exact .inl (seq l e1 p)
    · exact p.elim
  | _ => exact p.elim
theorem sn_sl (c : Bool) {lo hi : Option Expr} {gl gh : FO} {p2 : Pos} (ha : PE X a (tE ⟨X.K, cl⟩ E fa)) (hl : PO X lo (tOO ⟨X.K, cl⟩ E gl)) (hh : PO X hi (tOO ⟨X.K, cl⟩ E gh)) : PE X (.Subscript a (.Slice lo hi none p2) pos) (tE ⟨X.K, cl⟩ E (mSl c fa gl gh)) :=
  pe_imp (pe_slice (sl_list.or (sl_tupA.or sl_str)) ha hl hh) fun σ H Q ⟨W, env, M, s, p⟩ => by
    refine tE.bind s p fun d m W1 H1 u f1 s1 r1 p1 => ?_
    refine ⟨W1, env, m, s1, PR.bind p1 fun l m2 W2 H2 f2 k2 p2 => ?_⟩
    have s2 := s1.fut f2 k2
    refine ⟨W2, env, m2, s2, PR.bind p2 fun h m3 W3 H3 f3 k3 p3 => ?_⟩
    exact sl2 c d l h W3 H3 m3 u Q k3 (s2.mem.rp f3 (s1.mem.rp f2 r1)) p3
/-! ### built-in functions of values -/
def Fn1 (G : Gx) (E : XK) (r : List V → Hp → VK → Prop) (o : List D → Mem → R D) : Prop := ∀ W H M ds us Q, MemOk G W H M → RpL G W H ds us → PR G W H (PV G Q) E (o ds M) → r us H Q
def mCall (o : List D → Mem → R D) (g : FA) : FE := fun env M => (g env M).bind o
theorem tE_call {r : List V → Hp → VK → Prop} {o : List D → Mem → R D} {g : FA} (hs : Fn1 G E r o) (σ : L2.St) (H : Hp) (Q : VK) (h : tE G E (mCall o g) σ H Q) : tCB r (tA G E g) σ H Q := by
  obtain ⟨W, env, M, s, p⟩ := h
  refine tA.bind s p fun ds m2 W2 H2 us f2 s2 r2 p2 => ?_
  exact hs W2 H2 m2 ds us Q s2.mem r2 p2
def oLen : List D → Mem → R D
  | [.str x], M => if x.length ≤ 16777216 then .ok (.int x.length) M else .no
  | [d], M => match seqOf M d with
    | some l => .ok (.int l.length) M
    | none => .no
  | _, _ => .no
theorem fn_len : Fn1 G E (fun xs H Q => (∃ p ys, xs = [.ref p] ∧ (SqL G.K H p ys ∨ SqT G.K H p ys) ∧ Q (.int ys.length) H) ∨ ∃ z : Str, xs = [.str z] ∧ z.length ≤ sizeLine ∧ Q (.int z.length) H) oLen := fun W H M ds us Q m r p => by
  match ds, r, p with
  | [d], r, p =>
    obtain ⟨u, us', e1, r1, r2⟩ := r
    have : us' = [] := r2
    subst this e1
    have seq : ∀ l, seqOf M d = some l → PR G W H (PV G Q) E (.ok (.int l.length) M) → ∃ p ys, [u] = [V.ref p] ∧ (SqL G.K H p ys ∨ SqT G.K H p ys) ∧ Q (.int ys.length) H := fun l e q => by
      obtain ⟨a1, us, h1, h2, h3⟩ := seqOf_ok m r1 e
      subst h1
      exact ⟨a1, us, rfl, h2, by rw [h3.len]; exact q.here m _ rfl⟩
    cases d with
    | str x =>
      cases r1
      simp only [oLen] at p
      split at p
      · rename_i hz
        exact .inr ⟨_, rfl, by rw [l2s_len, line_eq]; exact hz, by rw [l2s_len]; exact p.here m _ rfl⟩
      · exact p.elim
    | tup l => exact .inl (seq l rfl p)
    | lst l => exact .inl (seq l rfl p)
    | fz l => exact .inl (seq l rfl p)
    | ref j =>
      simp only [oLen] at p
      split at p
      · rename_i l e1
        exact .inl (seq l e1 p)
      · exact p.elim
    | _ => exact p.elim
  | [], r, p => exact p.elim
  | a :: b :: c, r, p => cases a <;> exact p.elim
theorem call_lenA : CallR X (.builtin "len") (fun xs H Q => (∃ p ys, xs = [.ref p] ∧ (SqL X.K H p ys ∨ SqT X.K H p ys) ∧ Q (.int ys.length) H) ∨ ∃ z : Str, xs = [.str z] ∧ z.length ≤ sizeLine ∧ Q (.int z.length) H) := call_len_seq.or call_len_str
def o2I (f : Int → Int → Int) : List D → Mem → R D
  | [.int i, .int j], M => .ok (.int (f i j)) M
  | _, _ => .no
theorem fn_2I {f : Int → Int → Int} : Fn1 G E (fun xs H Q => ∃ i j, xs = [.int i, .int j] ∧ Q (.int (f i j)) H) (o2I f) := fun W H M ds us Q m r p => by
  unfold o2I at p
  split at p
  · obtain ⟨u, us', e1, r1, v, us2, e2, r2, r3⟩ := r
    have : us2 = [] := r3
    subst this e2 e1
    cases r1; cases r2
    exact ⟨_, _, rfl, p.here m _ rfl⟩
  · exact p.elim
def oMax := o2I fun i j => if j > i then j else i
def oMin := o2I fun i j => if j < i then j else i
def oAbs : List D → Mem → R D
  | [.int i], M => .ok (.int (if i < 0 then -i else i)) M
  | _, _ => .no
theorem fn_abs : Fn1 G E (fun xs H Q => ∃ i, xs = [.int i] ∧ Q (.int (if i < 0 then -i else i)) H) oAbs := fun W H M ds us Q m r p => by
  unfold oAbs at p
  split at p
  · obtain ⟨u, us', e1, r1, r3⟩ := r
    have : us' = [] := r3
    subst this e1
    cases r1
    exact ⟨_, rfl, p.here m _ rfl⟩
  · exact p.elim
def oInt : List D → Mem → R D
  | [.int i], M => .ok (.int i) M
  | [.bl k], M => .ok (.int (if k = true then 1 else 0)) M
  | _, _ => .no
theorem fn_int : Fn1 G E (fun xs H Q => (∃ i, xs = [.int i] ∧ Q (.int i) H) ∨ ∃ k, xs = [.bl k] ∧ Q (.int (if k then 1 else 0)) H) oInt := fun W H M ds us Q m r p => by
  unfold oInt at p
  split at p
  · obtain ⟨u, us', e1, r1, r3⟩ := r
    have : us' = [] := r3
    subst this e1
    cases r1
    exact .inl ⟨_, rfl, p.here m _ rfl⟩
  · obtain ⟨u, us', e1, r1, r3⟩ := r
    have : us' = [] := r3
    subst this e1
    cases r1
    exact .inr ⟨_, rfl, p.here m _ rfl⟩
  · exact p.elim
def oList (c : Bool) : List D → Mem → R D
  | [d], M => match seqOf M d with
    | some l => mkL c l M
    | none => .no
  | _, _ => .no
theorem rp_one {d : D} {us : List V} (r : RpL G W H [d] us) : ∃ u, us = [u] ∧ Rp G W H d u := by
  obtain ⟨u, us', e1, r1, r2⟩ := r
  have : us' = [] := r2
  subst this e1
  exact ⟨u, rfl, r1⟩
theorem fn_list {c : Bool} : Fn1 G E (fun xs H Q => ∃ p ys, xs = [.ref p] ∧ (SqL G.K H p ys ∨ SqT G.K H p ys) ∧ ∀ l, H l = none → Q (.ref l) (upd H l (.lst ys))) (oList c) := fun W H M ds us Q m r p => by
  unfold oList at p
  split at p
  · obtain ⟨u, e1, r1⟩ := rp_one r
    subst e1
    split at p
    · rename_i l e1
      obtain ⟨a1, us, h1, h2, h3⟩ := seqOf_ok m r1 e1
      subst h1
      exact ⟨a1, us, rfl, h2, mkL_new m p h3⟩
    · exact p.elim
  · exact p.elim
def oTuple : List D → Mem → R D
  | [.tup l], M => .ok (.tup l) M
  | [d], M => match lstOf M d with
    | some l => .ok (.tup l) M
    | none => .no
  | _, _ => .no
theorem fn_tuple : Fn1 G E (fun xs H Q => ∃ p ys, xs = [.ref p] ∧ ((SqL G.K H p ys ∧ ∀ l, H l = none → Q (.ref l) (upd H l (.tup ys))) ∨ (SqT G.K H p ys ∧ Q (.ref p) H))) oTuple := fun W H M ds us Q m r p => by
  unfold oTuple at p
  split at p
  · obtain ⟨u, e1, r1⟩ := rp_one r
    subst e1
    obtain ⟨a1, us, h1, h2, h3⟩ := r1
    subst h1
    exact ⟨a1, us, rfl, .inr ⟨h2.sq, p.here m _ ⟨a1, us, rfl, h2, h3⟩⟩⟩
  · obtain ⟨u, e1, r1⟩ := rp_one r
    subst e1
    split at p
    · rename_i l e1
      obtain ⟨a1, us, h1, h2, h3⟩ := lstOf_ok m r1 e1
      subst h1
      exact ⟨a1, us, rfl, .inl ⟨h2, tup_new m p h3⟩⟩
    · exact p.elim
  · exact p.elim
/-- all, any of a list of truths -/
def blsOf : List D → Option (List Bool)
  | [] => some []
  | .bl b :: r => (blsOf r).map (b :: ·)
  | _ :: _ => none
theorem blsOf_ok : ∀ {l : List D} {us : List V} {bs : List Bool}, RpL G W H l us → blsOf l = some bs → us = bs.map V.bl
  | [], us, bs, r, e => by have : us = [] := r; subst this; cases e; rfl
  | .bl b :: l, us, bs, r, e => by
    obtain ⟨u, us', e1, r1, r2⟩ := r
    cases r1
    simp only [blsOf] at e
    cases q : blsOf l with
    | none => rw [q] at e; cases e
    | some bs' =>
      rw [q] at e; cases e
      rw [e1, blsOf_ok r2 q]; rfl
  | .non :: _, _, _, _, e => by cases e
  | .int _ :: _, _, _, _, e => by cases e
  | .str _ :: _, _, _, _, e => by cases e
  | .tup _ :: _, _, _, _, e => by cases e
  | .lst _ :: _, _, _, _, e => by cases e
  | .fz _ :: _, _, _, _, e => by cases e
  | .ref _ :: _, _, _, _, e => by cases e
def oAllAny (f : List Bool → Bool) : List D → Mem → R D
  | [d], M => match (lstOf M d).bind blsOf with
    | some bs => .ok (.bl (f bs)) M
    | none => .no
  | _, _ => .no
theorem fn_allany {f : List Bool → Bool} : Fn1 G E (fun vs H Q => ∃ (a : Addr) (bs : List Bool), vs = [V.ref a] ∧ SqL G.K H a (bs.map V.bl) ∧ Q (.bl (f bs)) H) (oAllAny f) := fun W H M ds us Q m r p => by
  unfold oAllAny at p
  split at p
  · obtain ⟨u, e1, r1⟩ := rp_one r
    subst e1
    split at p
    · rename_i bs e1
      cases q : lstOf M _ with
      | none => rw [q] at e1; cases e1
      | some l =>
        rw [q] at e1
        obtain ⟨a1, us, h1, h2, h3⟩ := lstOf_ok m r1 q
        subst h1
        have := blsOf_ok h3 e1
        subst this
        exact ⟨a1, bs, rfl, h2, p.here m _ rfl⟩
    · exact p.elim
  · exact p.elim
def oAll := oAllAny fun bs => bs.all id
def oAny := oAllAny fun bs => bs.any id
/-! ### methods -/
def Mt1 (G : Gx) (E : XK) (r : V → List V → Hp → VK → Prop) (o : D → List D → Mem → R D) : Prop := ∀ W H M a u ds us Q, MemOk G W H M → Rp G W H a u → RpL G W H ds us → PR G W H (PV G Q) E (o a ds M) → r u us H Q
def tyOk (T : String) (M : Mem) : D → Bool
  | .str _ => T == "str"
  | .int _ => T == "int"
  | .lst _ => T == "list"
  | .fz _ => T == "list"
  | .ref i => match M[i]? with
    | some (.lst _) => T == "list"
    | some (.dk false _) => T == "dict"
    | some (.dt false _) => T == "dict"
    | _ => false
  | _ => false
theorem tyOk_ok {T : String} {d : D} {u : V} (m : MemOk G W H M) (r : Rp G W H d u) (e : tyOk T M d = true) : tyV G.K T u H := by
  cases d with
  | str x => cases r; exact eq_of_beq e
  | int x => cases r; exact eq_of_beq e
  | lst l => obtain ⟨a1, us, h1, h2, h3⟩ := lstOf_ok m (d := .lst l) r rfl; subst h1; exact .inl ⟨eq_of_beq e, us, h2⟩
  | fz l => obtain ⟨a1, us, h1, h2, h3⟩ := lstOf_ok m (d := .fz l) r rfl; subst h1; exact .inl ⟨eq_of_beq e, us, h2⟩
  | ref i =>
    obtain ⟨a, e1, e2⟩ := r
    subst e2
    simp only [tyOk] at e
    split at e
    · rename_i l hc
      obtain ⟨us, h1, r1⟩ := m.cell i _ a hc e1
      exact .inl ⟨eq_of_beq e, us, .inl (.inl h1)⟩
    · rename_i kvs hc
      obtain ⟨us, h1, r1⟩ := m.cell i _ a hc e1
      exact .inr (.inr (.inl ⟨eq_of_beq e, .inl ⟨us, h1⟩⟩))
    · rename_i kvs hc
      obtain ⟨us, h1, r1⟩ := m.cell i _ a hc e1
      exact .inr (.inr (.inl ⟨eq_of_beq e, .inr ⟨us, h1⟩⟩))
    · cases e
  | _ => cases e
def mMeth (T : String) (o : D → List D → Mem → R D) (f : FE) (g : FA) : FE := fun env M => (f env M).bind fun a m => if tyOk T m a = true then (g env m).bind fun ds m' => o a ds m' else .no
theorem tE_meth {T : String} {r : V → List V → Hp → VK → Prop} {o : D → List D → Mem → R D} {f : FE} {g : FA} (hs : Mt1 G E r o) (σ : L2.St) (H : Hp) (Q : VK) (h : tE G E (mMeth T o f g) σ H Q) : tBM G.K T r (tE G E f) (tA G E g) σ H Q := by
  obtain ⟨W, env, M, s, p⟩ := h
  refine tE.bind s p fun d m W1 H1 u f1 s1 r1 p1 => ?_
  split at p1
  · rename_i ht
    refine ⟨tyOk_ok s1.mem r1 ht, ?_⟩
    refine tA.bind s1 p1 fun ds m2 W2 H2 us f2 s2 r2 p2 => ?_
    exact hs W2 H2 m2 d u ds us Q s2.mem (s1.mem.rp f2 r1) r2 p2
  · exact p1.elim
theorem tE_meth0 {T : String} {r : V → List V → Hp → VK → Prop} {o : D → List D → Mem → R D} {f : FE} (hs : Mt1 G E r o) (σ : L2.St) (H : Hp) (Q : VK) (h : tE G E (mMeth T o f aNil) σ H Q) : tBM0 G.K T r (tE G E f) σ H Q := by
  obtain ⟨W, env, M, s, p⟩ := h
  refine tE.bind s p fun d m W1 H1 u f1 s1 r1 p1 => ?_
  split at p1
  · rename_i ht
    exact ⟨tyOk_ok s1.mem r1 ht, hs W1 H1 m d u [] [] Q s1.mem r1 rfl p1⟩
  · exact p1.elim
def oAppend : D → List D → Mem → R D
  | .ref i, [d], M => match M[i]? with
    | some (.lst l) => if l.length < 16777216 then .ok .non (M.set i (.lst (l ++ [d]))) else .no
    | _ => .no
  | _, _, _ => .no
theorem mt1_append : Mt1 G E rAppend oAppend := fun W H M a u ds us Q m ra r p => by
  unfold oAppend at p
  split at p
  · obtain ⟨v, e1, r1⟩ := rp_one r
    subst e1
    obtain ⟨a1, e2, e3⟩ := ra
    subst e3
    split at p
    · rename_i l hc
      split at p
      · rename_i hz
        obtain ⟨xs, h1, h2⟩ := m.cell _ _ a1 hc e2
        refine ⟨a1, xs, v, rfl, rfl, h1, by rw [h2.len, line_eq]; exact hz, ?_⟩
        have f := Fut.wrote (W := W) (H := H) (o := .lst (xs ++ [v])) e2
        exact p W _ f (m.wrote e2 ⟨_, upd_same, m.rpL f (h2.append ⟨v, [], rfl, r1, rfl⟩)⟩) _ rfl
      · exact p.elim
    · exact p.elim
  · exact p.elim
def oExtend : D → List D → Mem → R D
  | .ref i, [d], M => match M[i]?, ownOf M d with
    | some (.lst l), some l' => if l.length + l'.length ≤ 16777216 then .ok .non (M.set i (.lst (l ++ l'))) else .no
    | _, _ => .no
  | _, _, _ => .no
theorem mt1_extend : Mt1 G E rExtend oExtend := fun W H M a u ds us Q m ra r p => by
  unfold oExtend at p
  split at p
  · obtain ⟨v, e1, r1⟩ := rp_one r
    subst e1
    obtain ⟨a1, e2, e3⟩ := ra
    subst e3
    split at p
    · rename_i l l' hc hd
      split at p
      · rename_i hz
        obtain ⟨xs, h1, h2⟩ := m.cell _ _ a1 hc e2
        obtain ⟨b1, ys, h4, h5, h6⟩ := ownOf_ok m r1 hd
        subst h4
        refine ⟨a1, b1, xs, ys, rfl, rfl, h1, h5, by rw [h2.len, h6.len, line_eq]; exact hz, ?_⟩
        have f := Fut.wrote (W := W) (H := H) (o := .lst (xs ++ ys)) e2
        exact p W _ f (m.wrote e2 ⟨_, upd_same, m.rpL f (h2.append h6)⟩) _ rfl
      · exact p.elim
    · exact p.elim
  · exact p.elim
def oPop : D → List D → Mem → R D
  | .ref i, [], M => match M[i]? with
    | some (.lst l) => match l[l.length - 1]? with
      | some d => .ok d (M.set i (.lst l.dropLast))
      | none => .no
    | _ => .no
  | _, _, _ => .no
theorem RpL.dropLast {ds : List D} {us : List V} (r : RpL G W H ds us) : RpL G W H ds.dropLast us.dropLast := by
  rw [List.dropLast_eq_take, List.dropLast_eq_take, r.len]
  exact r.take _
theorem mt1_pop : Mt1 G E rPop oPop := fun W H M a u ds us Q m ra r p => by
  unfold oPop at p
  split at p
  · have : us = [] := r
    subst this
    obtain ⟨a1, e2, e3⟩ := ra
    subst e3
    split at p
    · rename_i l hc
      split at p
      · rename_i d hd
        obtain ⟨xs, h1, h2⟩ := m.cell _ _ a1 hc e2
        obtain ⟨w, h3, h4⟩ := h2.get hd
        rw [← h2.len] at h3
        refine ⟨a1, xs, w, rfl, rfl, h1, h3, ?_⟩
        have f := Fut.wrote (W := W) (H := H) (o := .lst xs.dropLast) e2
        exact p W _ f (m.wrote e2 ⟨_, upd_same, m.rpL f h2.dropLast⟩) _ (m.rp f h4)
      · exact p.elim
    · exact p.elim
  · exact p.elim
def oPopAt : D → List D → Mem → R D
  | .ref i, [.int k], M => match M[i]? with
    | some (.lst l) => match ixN l.length k with
      | some j => match l[j]? with
        | some d => if -(2 ^ 63) ≤ k ∧ k < 2 ^ 63 then .ok d (M.set i (.lst (l.eraseIdx j))) else .no
        | none => .no
      | none => .no
    | _ => .no
  | _, _, _ => .no
theorem RpL.eraseIdx : ∀ {ds : List D} {us : List V} (j : Nat), RpL G W H ds us → RpL G W H (ds.eraseIdx j) (us.eraseIdx j)
  | [], us, j, h => by have : us = [] := h; subst this; exact (rfl : ([] : List V) = [])
  | d0 :: ds, us, 0, h => by
    obtain ⟨v, vs, e1, h1, h2⟩ := h
    subst e1
    exact h2
  | d0 :: ds, us, j + 1, h => by
    obtain ⟨v, vs, e1, h1, h2⟩ := h
    subst e1
    exact ⟨v, vs.eraseIdx j, rfl, h1, RpL.eraseIdx j h2⟩
theorem mt1_popAt : Mt1 G E rPopAt oPopAt := fun W H M a u ds us Q m ra r p => by
  unfold oPopAt at p
  split at p
  · obtain ⟨v, e1, r1⟩ := rp_one r
    subst e1
    cases r1
    obtain ⟨a1, e2, e3⟩ := ra
    subst e3
    split at p
    · rename_i l hc
      split at p
      · rename_i j hj
        split at p
        · rename_i d hd
          split at p
          · rename_i hk
            obtain ⟨xs, h1, h2⟩ := m.cell _ _ a1 hc e2
            obtain ⟨w, h3, h4⟩ := h2.get hd
            rw [← h2.len] at hj
            refine ⟨a1, xs, _, j, w, rfl, rfl, h1, hk.1, hk.2, (ixN_seq hj).1, h3, ?_⟩
            have f := Fut.wrote (W := W) (H := H) (o := .lst (xs.eraseIdx j)) e2
            exact p W _ f (m.wrote e2 ⟨_, upd_same, m.rpL f (h2.eraseIdx j)⟩) _ (m.rp f h4)
          · exact p.elim
        · exact p.elim
      · exact p.elim
    · exact p.elim
  · exact p.elim
def strsOf : List D → Option (List (List Nat))
  | [] => some []
  | .str b :: r => (strsOf r).map (b :: ·)
  | _ :: _ => none
theorem strsOf_ok : ∀ {l : List D} {us : List V} {bs : List (List Nat)}, RpL G W H l us → strsOf l = some bs → us = (bs.map l2s).map V.str
  | [], us, bs, r, e => by have : us = [] := r; subst this; cases e; rfl
  | .str b :: l, us, bs, r, e => by
    obtain ⟨u, us', e1, r1, r2⟩ := r
    cases r1
    simp only [strsOf] at e
    cases q : strsOf l with
    | none => rw [q] at e; cases e
    | some bs' =>
      rw [q] at e; cases e
      rw [e1, strsOf_ok r2 q]; rfl
  | .non :: _, _, _, _, e => by cases e
  | .int _ :: _, _, _, _, e => by cases e
  | .bl _ :: _, _, _, _, e => by cases e
  | .tup _ :: _, _, _, _, e => by cases e
  | .lst _ :: _, _, _, _, e => by cases e
  | .fz _ :: _, _, _, _, e => by cases e
  | .ref _ :: _, _, _, _, e => by cases e
def joinL (sep : List Nat) : List (List Nat) → List Nat
  | [] => []
  | [x] => x
  | x :: r => x ++ sep ++ joinL sep r
def oJoin : D → List D → Mem → R D
  | .str sep, [d], M => match (seqOf M d).bind strsOf with
    | some xs => if (xs.map (·.length)).sum + xs.length * sep.length ≤ 16777216 then .ok (.str (joinL sep xs)) M else .no
    | none => .no
  | _, _, _ => .no
end
end Fn

set_option Elab.async false
set_option linter.all false
set_option maxRecDepth 100000
set_option maxHeartbeats 1000000
/-! FnText: texts: join, count of a sign, a sign in a text; isinstance; sorted. -/
namespace Fn
open PySem PySem.Spec PyProof.Rows L2
section
variable {X : Cx} {G : Gx} {cl : Nat → Addr} {E : XK} {W : Wd} {H : Hp} {M : Mem} {a b c : Expr} {fa fb fc : FE} {pos : Pos}
theorem join_l2s (sep : List Nat) : ∀ xs : List (List Nat), Str.join (l2s sep) (xs.map l2s) = l2s (joinL sep xs)
  | [] => rfl
  | [x] => rfl
  | x :: y :: r => by
    show l2s x ++ l2s sep ++ Str.join (l2s sep) ((y :: r).map l2s) = l2s (x ++ sep ++ joinL sep (y :: r))
    rw [join_l2s sep (y :: r), l2s_append, l2s_append]
theorem mt1_join : Mt1 G E (fun x xs H Q => ∃ a p, ∃ ys : List Str, x = .str a ∧ xs = [.ref p] ∧ (SqL G.K H p (ys.map V.str) ∨ SqT G.K H p (ys.map V.str)) ∧
    (ys.map (·.length)).sum + ys.length * a.length ≤ 16777216 ∧ Q (.str (PySem.Txt.join a ys)) H) oJoin := fun W H M a u ds us Q m ra r p => by
  unfold oJoin at p
  split at p
  · obtain ⟨v, e1, r1⟩ := rp_one r
    subst e1
    cases ra
    split at p
    · rename_i xs e1
      cases q : seqOf M _ with
      | none => rw [q] at e1; cases e1
      | some l =>
        rw [q] at e1
        obtain ⟨a1, us, h1, h2, h3⟩ := seqOf_ok m r1 q
        subst h1
        have := strsOf_ok h3 e1
        subst this
        split at p
        · rename_i hz
          refine ⟨_, a1, xs.map l2s, rfl, rfl, h2, ?_, p.here m _ ?_⟩
          · rw [List.map_map, List.length_map, l2s_len]
            rw [show (fun x : Str => x.length) ∘ l2s = (·.length) from funext fun x => l2s_len x]
            exact hz
          · show V.str _ = V.str _
            rw [PySem.Txt.join, PySem.StrLaws.glued_eq_join, join_l2s]
        · exact p.elim
    · exact p.elim
  · exact p.elim
theorem occ_one_run (x : Str) (c : Nat) : ∀ (k j : Nat) (acc : Array Nat) (free : Nat), j + k = x.length + 1 → acc.size ≤ j → free ≤ j →
    (forIn (List.range' j k) (acc, free) (PySem.StrLaws.occBody x ⟨#[c]⟩ x.length (x.length + 1))).run.fst.size = acc.size + (x.cps.toList.drop j).count c
  | 0, j, acc, free, h, _, _ => by
    have : x.cps.toList.drop j = [] := List.drop_eq_nil_of_le (by simp [Str.length] at h ⊢; omega)
    rw [this]; simp
  | k + 1, j, acc, free, h, ha, hf => by
    rw [List.range'_succ, List.forIn_cons]
    unfold PySem.StrLaws.occBody
    have hs := PySem.StrLaws.subAt_one x c j
    by_cases hc : x.cps.toList[j]? = some c
    · have hh := hs.mpr hc
      rw [if_pos ⟨⟨⟨by show acc.size < _; omega, hf⟩, hh.1⟩, hh.2⟩]
      have hlt : j < x.length := by
        have := hh.1
        simp [Str.length] at this ⊢; omega
      have ih := occ_one_run x c k (j + 1) (acc.push j) (j + 1) (by omega) (by simp; omega) (Nat.le_refl _)
      refine Eq.trans ih ?_
      have hd : x.cps.toList.drop j = c :: x.cps.toList.drop (j + 1) := by
        have h2 : j < x.cps.toList.length := by simpa [Str.length] using hlt
        rw [List.drop_eq_getElem_cons h2]
        congr 1
        exact Option.some.inj ((List.getElem?_eq_getElem h2).symm.trans hc)
      rw [hd, List.count_cons_self]
      simp; omega
    · have c2 : ¬ (((((acc, free) : Array Nat × Nat).fst.size < x.length + 1 ∧ ((acc, free) : Array Nat × Nat).snd ≤ j) ∧ j + (⟨#[c]⟩ : Str).length ≤ x.length) ∧ Builtin.Str.subAt x ⟨#[c]⟩ j = true) := fun z => hc (hs.mp ⟨z.1.2, z.2⟩)
      rw [if_neg c2]
      have ih := occ_one_run x c k (j + 1) acc free (by omega) (by omega) (by omega)
      refine Eq.trans ih ?_
      by_cases hl : j < x.cps.toList.length
      · have hd : x.cps.toList.drop j = x.cps.toList[j] :: x.cps.toList.drop (j + 1) := List.drop_eq_getElem_cons hl
        rw [hd, List.count_cons_of_ne]
        intro z
        exact hc (by rw [List.getElem?_eq_getElem hl, z])
      · rw [List.drop_eq_nil_of_le (by omega), List.drop_eq_nil_of_le (by omega)]
theorem count_one (x : Str) (c : Nat) : PySem.Txt.count x ⟨#[c]⟩ = (x.cps.toList.count c : Nat) := by
  unfold PySem.Txt.count
  rw [PySem.StrLaws.occ_eq, Array.length_toList]
  have := occ_one_run x c (x.length + 1 + 0 - 0) 0 #[] 0 (by omega) (by simp) (by omega)
  have e := this
  simp only [List.drop_zero] at e
  simp at e ⊢
  exact congrArg (Nat.cast : Nat → Int) e
/-- how often one sign stands in a text -/
def oCountS : D → List D → Mem → R D
  | .str x, [.str [c]], M => .ok (.int (x.count c)) M
  | _, _, _ => .no
theorem mt1_countS : Mt1 G E (fun x xs H Q => ∃ a b, x = .str a ∧ xs = [.str b] ∧ Q (.int (PySem.Txt.count a b)) H) oCountS := fun W H M a u ds us Q m ra r p => by
  unfold oCountS at p
  split at p
  · rename_i x c
    obtain ⟨v, e1, r1⟩ := rp_one r
    subst e1
    cases ra; cases r1
    refine ⟨_, _, rfl, rfl, p.here m _ ?_⟩
    show V.int _ = V.int _
    rw [show l2s [c] = ⟨#[c]⟩ from rfl, count_one, l2s_toList]
  · exact p.elim
theorem op2_inS : Op2 G E (fun x y H Q => ∃ (c : Nat) (z : Str), x = .str ⟨#[c]⟩ ∧ y = .str z ∧ Q (.bl (decide (c ∈ z.cps.toList))) H) (oInS false) := fun W H M a b u v Q m ra rb p => by
  unfold oInS at p
  split at p
  · cases ra; cases rb
    exact ⟨_, _, rfl, rfl, p.here m _ (by rw [l2s_toList]; rfl)⟩
  · exact p.elim
theorem op2_notInS : Op2 G E (fun x y H Q => ∃ (c : Nat) (z : Str), x = .str ⟨#[c]⟩ ∧ y = .str z ∧ Q (.bl (!decide (c ∈ z.cps.toList))) H) (oInS true) := fun W H M a b u v Q m ra rb p => by
  unfold oInS at p
  split at p
  · cases ra; cases rb
    exact ⟨_, _, rfl, rfl, p.here m _ (by rw [l2s_toList]; rfl)⟩
  · exact p.elim
theorem sn_inS (ha : PE X a (tE G E fa)) (hb : PE X b (tE G E fb)) (hm : behindInMarks .In b = false := by rfl) : PE X (.Compare a [.In] [b] pos) (tE G E (mOp (oInS false) fa fb)) := sn_cmp op_in_sign op2_inS hm ha hb
theorem sn_notInS (ha : PE X a (tE G E fa)) (hb : PE X b (tE G E fb)) (hm : behindInMarks .NotIn b = false := by rfl) : PE X (.Compare a [.NotIn] [b] pos) (tE G E (mOp (oInS true) fa fb)) := sn_cmp op_notIn_sign op2_notInS hm ha hb

/-! ### isinstance(x, T), T a built-in class -/
def tyD (M : Mem) : D → Option String
  | .non => some "NoneType"
  | .bl _ => some "bool"
  | .int _ => some "int"
  | .str _ => some "str"
  | .tup _ => some "tuple"
  | .lst _ => some "list"
  | .fz _ => some "list"
  | .ref i => match M[i]? with
    | some (.lst _) => some "list"
    | _ => none
/-- is a of class b, of the classes of data -/
def isTy (a b : String) : Bool := a == b || (a == "bool" && b == "int")
def isTyOk (b : String) : Bool := b == "bool" || b == "int" || b == "str" || b == "tuple" || b == "list"
theorem kitB_ok {a b : String} (ha : a = "NoneType" ∨ a = "bool" ∨ a = "int" ∨ a = "str" ∨ a = "tuple" ∨ a = "list") (hb : isTyOk b = true) : kitB a b = some (isTy a b) := by
  unfold isTyOk at hb
  simp only [Bool.or_eq_true, beq_iff_eq] at hb
  rcases hb with (((rfl | rfl) | rfl) | rfl) | rfl <;> rcases ha with rfl | rfl | rfl | rfl | rfl | rfl <;> decide +kernel
theorem tyX_lst {xs : List V} {a : Addr} (h : SqL G.K H a xs) : TyX G.K H (.ref a) (.type "list") := by
  rcases h with (h | ⟨o, h⟩) | ⟨o, its, n, h1, h2, _⟩
  · exact .base (.lst h)
  · exact .base (.frz h)
  · exact .kList h1 h2
theorem tyX_tup {xs : List V} {a : Addr} (h : SqT G.K H a xs) : TyX G.K H (.ref a) (.type "tuple") := by
  rcases h with (h | ⟨o, h⟩) | ⟨o, its, n, h1, h2, _⟩
  · exact .base (.tup h)
  · exact .fTuple h
  · exact .kTuple h1 h2
theorem tyD_ok (m : MemOk G W H M) {d : D} {u : V} {t : String} (r : Rp G W H d u) (e : tyD M d = some t) : TyX G.K H u (.type t) ∧ (t = "NoneType" ∨ t = "bool" ∨ t = "int" ∨ t = "str" ∨ t = "tuple" ∨ t = "list") := by
  cases d with
  | non => cases r; cases e; exact ⟨.base .non, .inl rfl⟩
  | bl b => cases r; cases e; exact ⟨.base (.bl b), .inr (.inl rfl)⟩
  | int b => cases r; cases e; exact ⟨.base (.int b), .inr (.inr (.inl rfl))⟩
  | str b => cases r; cases e; exact ⟨.base (.str _), .inr (.inr (.inr (.inl rfl)))⟩
  | tup l => cases e; obtain ⟨a, us, h1, h2, _⟩ := r; subst h1; exact ⟨tyX_tup h2.sq, .inr (.inr (.inr (.inr (.inl rfl))))⟩
  | lst l => cases e; obtain ⟨a, us, h1, h2, _⟩ := lstOf_ok m (d := .lst l) r rfl; subst h1; exact ⟨tyX_lst h2, .inr (.inr (.inr (.inr (.inr rfl))))⟩
  | fz l => cases e; obtain ⟨a, us, h1, h2, _⟩ := lstOf_ok m (d := .fz l) r rfl; subst h1; exact ⟨tyX_lst h2, .inr (.inr (.inr (.inr (.inr rfl))))⟩
  | ref i =>
    obtain ⟨a, e1, e2⟩ := r
    subst e2
    simp only [tyD] at e
    split at e
    · rename_i l hc
      cases e
      obtain ⟨us, h1, h2⟩ := m.cell i _ a hc e1
      exact ⟨.base (.lst h1), .inr (.inr (.inr (.inr (.inr rfl))))⟩
    · cases e
/-- isinstance(e, T) -/
def oIsi (T : String) (d : D) (M : Mem) : R D := match tyD M d with
  | some t => .ok (.bl (isTy t T)) M
  | none => .no
theorem sn_isi {T : String} {x : Str} {p1 p3 : Pos} (hg : Gl X "isinstance") (hm : X.mg "isinstance" = none) (hg2 : Gl X x) (hm2 : X.mg x = none) (hv2 : bootBuiltins x = some (.type T)) (hT : isTyOk T = true) (hn : x ≠ "__name__") (hd : (x == ("__debug__" : Str)) = false) (ha : PE X a (tE ⟨X.K, cl⟩ E fa))
    (hs1 : starEach [.Name x p3] X.env = (false, eval (.Name x p3) X.env) :: starEach [] X.env := by rfl)
    (hs2 : starEach [a, .Name x p3] X.env = (false, eval a X.env) :: starEach [.Name x p3] X.env := by rfl)
    (hpl : (backTo pos (starEach [.Name x p3] X.env)).any (·.1) = false := by rfl) : PE X (.Call (.Name "isinstance" p1) [a, .Name x p3] [] pos) (tE ⟨X.K, cl⟩ E (mUn (oIsi T) fa)) :=
  pe_imp (pe_callB call_isi hg hm (by decide +kernel) (pa_cons ha (pa_cons (pe_bltn (v := .ty T) hg2 hm2 hv2 rfl hn hd) pa_nil hs1) hs2) (by decide) (by decide) hs2 hpl) fun σ H Q ⟨W, env, M, s, p⟩ => by
    refine tE.bind s p fun d m W1 H1 u f1 s1 r1 p1 => ?_
    simp only [oIsi] at p1
    split at p1
    · rename_i t e
      obtain ⟨k1, k2⟩ := tyD_ok s1.mem r1 e
      exact ⟨u, .ty T, .type t, .type T, isTy t T, rfl, .ty T, k1, kit_ty (kitB_ok k2 hT), p1.here s1.mem _ rfl⟩
    · exact p1.elim
end
end Fn

set_option Elab.async false
set_option linter.all false
set_option maxRecDepth 100000
set_option maxHeartbeats 1000000
/-! FnStmt: targets, statements, blocks, if, while, for. -/
namespace Fn
open PySem PySem.Spec PyProof.Rows L2
inductive Flow where
  | nx (env : Env) | bk (env : Env) | ct (env : Env) | rt (d : D)
abbrev FS := Env → Mem → R Flow
abbrev FG := D → Env → Mem → R Env
section
variable {X : Cx} {G : Gx} {cl : Nat → Addr} {E : XK} {W : Wd} {H : Hp} {M : Mem} {a b c : Expr} {fa fb fc : FE} {pos : Pos}
def PFl (G : Gx) (D : Ends) : Flow → Mem → Wd → Hp → Prop
  | .nx env, _, W', H' => ∀ σ', EnvOk G W' H' env σ' → D.nx σ' H'
  | .bk env, _, W', H' => ∀ σ', EnvOk G W' H' env σ' → D.bk σ' H'
  | .ct env, _, W', H' => ∀ σ', EnvOk G W' H' env σ' → D.ct σ' H'
  | .rt d, _, W', H' => ∀ u, Rp G W' H' d u → D.rt u H'
def tS (G : Gx) (E : XK) (f : FS) : TS := fun D σ H => ∃ W env M, Sta G W env M σ H ∧ PR G W H (PFl G D) E (f env M)
/-- slots beside vs stay -/
def PEnv (G : Gx) (vs : List Nat) (σ : L2.St) (Q : L2.St → Hp → Prop) : Env → Mem → Wd → Hp → Prop := fun env _ W' H' => ∀ σ', EnvOk G W' H' env σ' → wipe σ' vs = wipe σ vs → Q σ' H'
def tGt (G : Gx) (E : XK) (vs : List Nat) (f : FG) : TG := fun v σ H Q => ∃ W env M d, Sta G W env M σ H ∧ Rp G W H d v ∧ PR G W H (PEnv G vs σ Q) E (f d env M)
theorem wipe_get (σ : L2.St) (j : Nat) : ∀ vs : List Nat, j ∉ vs → (wipe σ vs)[j]? = σ[j]?
  | [], _ => rfl
  | v :: vs, h => by
    unfold wipe
    rw [List.getElem?_set_ne (fun z => h (by rw [z]; exact List.mem_cons_self ..))]
    exact wipe_get σ j vs fun z => h (List.mem_cons_of_mem _ z)
theorem wipe_in (σ : L2.St) (j : Nat) : ∀ vs : List Nat, j ∈ vs → j < σ.length → (wipe σ vs)[j]? = some none
  | v :: vs, h, hl => by
    unfold wipe
    by_cases e : v = j
    · subst e
      exact List.getElem?_set_self (by rw [wipe_length]; exact hl)
    · rw [List.getElem?_set_ne e]
      exact wipe_in σ j vs ((List.mem_cons.mp h).resolve_left fun z => e z.symm) hl
theorem wipe_ext {σ σ' : L2.St} {vs : List Nat} (hl : σ.length = σ'.length) (h : ∀ j, j ∉ vs → σ[j]? = σ'[j]?) : wipe σ vs = wipe σ' vs := by
  apply List.ext_getElem?
  intro j
  by_cases hj : j ∈ vs
  · by_cases hb : j < σ.length
    · rw [wipe_in σ j vs hj hb, wipe_in σ' j vs hj (by omega)]
    · rw [List.getElem?_eq_none (by rw [wipe_length]; omega), List.getElem?_eq_none (by rw [wipe_length]; omega)]
  · rw [wipe_get σ j vs hj, wipe_get σ' j vs hj, h j hj]
theorem wipe_set {σ : L2.St} {vs : List Nat} {i : Nat} {x : Option V} (hi : i ∈ vs) : wipe (σ.set i x) vs = wipe σ vs :=
  wipe_ext (by simp) fun j hj => List.getElem?_set_ne (fun z => hj (by rw [← z]; exact hi))
theorem pg_imp {e : Expr} {t t' : TG} (h : PG X e t) (i : ∀ v σ H Q, t' v σ H Q → t v σ H Q) : PG X e t' := ⟨fun pins s σ H v u Q I r q => h.run pins s σ H v u Q I r (i v σ H Q q)⟩
theorem EnvOk.set {env : Env} {σ : L2.St} {d : D} {u : V} (h : EnvOk G W H env σ) (i : Nat) (r : Rp G W H d u) : EnvOk G W H (env.set i (some d)) (σ.set i (some u)) := by
  refine ⟨by simp [h.1], fun j d' e => ?_⟩
  by_cases hj : i = j
  · subst hj
    by_cases hl : i < env.length
    · rw [List.getElem?_set_self hl] at e
      cases e
      exact ⟨u, List.getElem?_set_self (by rw [← h.1]; exact hl), r⟩
    · rw [List.set_eq_of_length_le (by omega)] at e
      rw [List.getElem?_eq_none (by omega)] at e
      cases e
  · rw [List.getElem?_set_ne hj] at e ⊢
    exact h.2 j d' e
/-! ### targets -/
def gN (i : Nat) : FG := fun d env M => .ok (env.set i (some d)) M
theorem sg_name {i : Nat} {x : Str} {pos : Pos} {vs : List Nat} (h : PG X (.Name x pos) (gName i)) (hv : i ∈ vs) : PG X (.Name x pos) (tGt G E vs (gN i)) := pg_imp h fun v σ H Q ⟨W, env, M, d, s, r, p⟩ => p.here s.mem _ (s.env.set i r) (wipe_set hv)
abbrev FGs := List D → Env → Mem → R Env
def tGts (G : Gx) (E : XK) (sl : List Nat) (f : FGs) : TGs := fun vs σ H Q => ∃ W env M ds, Sta G W env M σ H ∧ RpL G W H ds vs ∧ PR G W H (PEnv G sl σ Q) E (f ds env M)
theorem pgs_imp {e : List Expr} {t t' : TGs} (h : PGs X e t) (i : ∀ v σ H Q, t' v σ H Q → t v σ H Q) : PGs X e t' := ⟨fun pins s σ H v u Q I r q => h.run pins s σ H v u Q I r (i v σ H Q q)⟩
def gsNil : FGs := fun ds env M => match ds with
  | [] => .ok env M
  | _ => .no
def gsCons (f : FG) (g : FGs) : FGs := fun ds env M => match ds with
  | d :: r => (f d env M).bind fun env' m => g r env' m
  | [] => .no
theorem sgs_nil {vs : List Nat} : PGs X [] (tGts G E vs gsNil) := pgs_imp pgs_nil fun v σ H Q ⟨W, env, M, ds, s, r, p⟩ => by
  unfold gsNil at p
  split at p
  · have : v = [] := r
    subst this
    exact ⟨rfl, p.here s.mem _ s.env rfl⟩
  · exact p.elim
theorem sgs_cons {e : Expr} {es : List Expr} {f : FG} {g : FGs} {sl : List Nat} (h1 : PG X e (tGt G E sl f)) (h2 : PGs X es (tGts G E sl g))
    (hs : (assignEach (e :: es) X.env).map (·.2) = assign e X.env :: (assignEach es X.env).map (·.2) := by rfl) : PGs X (e :: es) (tGts G E sl (gsCons f g)) := pgs_imp (pgs_cons h1 h2 hs) fun v σ H Q ⟨W, env, M, ds, s, r, p⟩ => by
  unfold gsCons at p
  split at p
  · rename_i d r'
    obtain ⟨u, us, e1, r1, r2⟩ := r
    refine ⟨u, us, e1, W, env, M, d, s, r1, PR.bind p fun env' m W1 H1 f1 k1 p1 => fun σ' en ew => ?_⟩
    refine ⟨W1, env', m, r', ⟨k1, en⟩, s.mem.rpL f1 r2, PR.mono p1 fun env2 m2 W2 H2 f2 k2 q σ2 en2 ew2 => q σ2 en2 (ew2.trans ew)⟩
  · exact p.elim
def gT (n : Nat) (g : FGs) : FG := fun d env M => match d with
  | .tup l => if l.length = n then g l env M else .no
  | _ => .no
theorem sg_tup {es : List Expr} {k : Nat} {g : FGs} {n : Nat} {sl : List Nat} (hc : X.calm = true) (h : PGs X es (tGts ⟨X.K, cl⟩ E sl g))
    (hn : (assignEach es X.env).length = n := by rfl) (hst : (assignEach es X.env).findIdx? (·.1) = none := by rfl) : PG X (.Tuple es k pos) (tGt ⟨X.K, cl⟩ E sl (gT n g)) := pg_imp (pg_tup hc h hn hst) fun v σ H Q ⟨W, env, M, d, s, r, p⟩ => by
  unfold gT at p
  split at p
  · rename_i l
    obtain ⟨a1, us, e1, s1, r1⟩ := r
    split at p
    · rename_i hl
      exact ⟨a1, us, e1, s1.sq, by rw [r1.len, hl], W, env, M, l, s, r1, p⟩
    · exact p.elim
  · exact p.elim
/-- x[i] = v of a list -/
def gIx (fo fi : FE) : FG := fun d env M => (fo env M).bind fun o m => (fi env m).bind fun i m' => match o, i with
  | .ref j, .int k => match m'[j]? with
    | some (.lst l) => match ixN l.length k with
      | some n => .ok env (m'.set j (.lst (l.set n d)))
      | none => .no
    | _ => .no
  | _, _ => .no
theorem sg_ix {sl : List Nat} (ha : PE X a (tE G E fa)) (hb : PE X b (tE G E fb)) (hs : ∀ v, assign (.Subscript a b pos) X.env v = (do
      let ov ← holding [v] (eval a X.env)
      let iv ← holding [v, ov] (eval b X.env)
      standAt pos
      holding [v, ov, iv] (setItem ov iv v)
      release [v, ov, iv] []) := by intro _; rfl) : PG X (.Subscript a b pos) (tGt G E sl (gIx fa fb)) := pg_imp (pg_sub ha hb set_list hs) fun v σ H Q ⟨W, env, M, d, s, r, p⟩ => by
  refine tE.bind s p fun o m W1 H1 u1 f1 s1 r1 p1 => ?_
  refine tE.bind s1 p1 fun i m2 W2 H2 u2 f2 s2 r2 p2 => ?_
  split at p2
  · rename_i j k
    split at p2
    · rename_i l hc
      split at p2
      · rename_i n hn
        obtain ⟨a1, e1, e2⟩ := s1.mem.rp f2 r1
        subst e2; cases r2
        obtain ⟨us, h1, h2⟩ := s2.mem.cell _ _ a1 hc e1
        refine ⟨a1, us, k, n, rfl, rfl, h1, by rw [h2.len]; exact hn, ?_⟩
        have f := Fut.wrote (W := W2) (H := H2) (o := .lst (us.set n v)) e1
        exact p2 W2 _ f (s2.mem.wrote e1 ⟨_, upd_same, s2.mem.rpL f (h2.set n (s1.mem.rp f2 (s.mem.rp f1 r)))⟩) _ (s2.env.fut s2.mem f) rfl
      · exact p2.elim
    · exact p2.elim
  · exact p2.elim
/-! ### statements -/
def mSet (i : Nat) (f : FE) : FS := fun env M => (f env M).bind fun d m => .ok (.nx (env.set i (some d))) m
theorem ss_set {i : Nat} {x : Str} {pos' : Pos} (ha : PE X a (tE G E fa)) (hN : X.N.Nodup) (hi : X.N[i]? = some x) (hx : Loc X.env.scope x) (hs : swapsWith a (some (.Name x pos')) pos.line X.env = pure false := by rfl) (hf : X.fn x = true ∨ X.env.scope.names.lookup x = some .local := by first | exact .inl rfl | exact .inr rfl | assumption) :
    PS X (.Assign [.Name x pos'] a pos) (tS G E (mSet i fa)) := ps_imp (ps_set hN hi hx ha hs hf) fun D σ H ⟨W, env, M, s, p⟩ => by
  refine tE.bind s p fun d m W1 H1 u f1 s1 r1 p1 => ?_
  exact p1.here s1.mem _ (s1.env.set i r1)
def mAsg (f : FE) (g : FG) : FS := fun env M => (f env M).bind fun d m => (g d env m).bind fun env' m' => .ok (.nx env') m'
theorem ss_asg {tg : Expr} {g : FG} {sl : List Nat} (ha : PE X a (tE G E fa)) (hg : PG X tg (tGt G E sl g)) (hs : swapsWithSole [tg] a pos.line X.env = pure false := by rfl) (hw : swappedStores [tg] a X.env = pure none := by rfl)
    (h1 : (assignEach [tg] X.env).map (·.2) = [assign tg X.env] := by rfl) : PS X (.Assign [tg] a pos) (tS G E (mAsg fa g)) := ps_imp (ps_asg ha hg hs hw h1) fun D σ H ⟨W, env, M, s, p⟩ => by
  refine tE.bind s p fun d m W1 H1 u f1 s1 r1 p1 => ?_
  refine ⟨W1, env, m, d, s1, r1, PR.bind p1 fun env' m2 W2 H2 f2 k2 p2 => fun σ' en _ => ?_⟩
  exact p2.here k2 _ en
/-- a, b = e, e': no tuple is made -/
def mPar (i j : Nat) (g : FA) : FS := fun env M => (g env M).bind fun ds m => match ds with
  | [d, d'] => .ok (.nx ((env.set i (some d)).set j (some d'))) m
  | _ => .no
theorem ss_par {i j : Nat} {x y : Str} {g : FA} {px py pt : Pos} {kt k2 pt2} (hc : X.calm = true) (hN : X.N.Nodup) (hi : X.N[i]? = some x) (hj : X.N[j]? = some y) (hij : i ≠ j)
    (hx : X.env.scope.names.lookup x = some .local) (hy : X.env.scope.names.lookup y = some .local) (ha : PA X [a, b] (tA G E g))
    (hw : swappedStores [.Tuple [.Name x px, .Name y py] kt pt] (.Tuple [a, b] k2 pt2) X.env = pure (some [x, y]))
    (hs : swapsWithSole [.Tuple [.Name x px, .Name y py] kt pt] (.Tuple [a, b] k2 pt2) pos.line X.env = pure false := by rfl) :
    PS X (.Assign [.Tuple [.Name x px, .Name y py] kt pt] (.Tuple [a, b] k2 pt2) pos) (tS G E (mPar i j g)) := ps_imp (ps_par hc hN hi hj hij hx hy ha hw hs) fun D σ H ⟨W, env, M, s, p⟩ => by
  refine tA.bind s p fun ds m W1 H1 us f1 s1 r1 p1 => ?_
  split at p1
  · rename_i d d'
    obtain ⟨u, us', e1, r2, u', us2, e2, r3, r4⟩ := r1
    have : us2 = [] := r4
    subst this e2 e1
    exact ⟨u, u', rfl, p1.here s1.mem _ ((s1.env.set i r2).set j r3)⟩
  · exact p1.elim
def mExpr (f : FE) : FS := fun env M => (f env M).bind fun _ m => .ok (.nx env) m
theorem ss_expr (ha : PE X a (tE G E fa)) (hs : swapsWith a none pos.line X.env = pure false := by rfl) : PS X (.Expr a pos) (tS G E (mExpr fa)) := ps_imp (ps_expr ha hs) fun D σ H ⟨W, env, M, s, p⟩ => by
  refine tE.bind s p fun d m W1 H1 u f1 s1 r1 p1 => ?_
  exact p1.here s1.mem _ s1.env
def mRet (f : FE) : FS := fun env M => (f env M).bind fun d m => .ok (.rt d) m
theorem ss_ret (ha : PE X a (tE G E fa)) : PS X (.Return (some a) pos) (tS G E (mRet fa)) := ps_imp (ps_ret ha) fun D σ H ⟨W, env, M, s, p⟩ => by
  refine tE.bind s p fun d m W1 H1 u f1 s1 r1 p1 => ?_
  exact p1.here s1.mem _ r1
def mRetN : FS := fun _ M => .ok (.rt .non) M
theorem ss_retN : PS X (.Return none pos) (tS G E mRetN) := ps_imp ps_retN fun D σ H ⟨W, env, M, s, p⟩ => p.here s.mem _ rfl
def mPass : FS := fun env M => .ok (.nx env) M
theorem ss_pass : PS X (.Pass pos) (tS G E mPass) := ps_imp ps_pass fun D σ H ⟨W, env, M, s, p⟩ => p.here s.mem _ s.env
theorem ss_doc {x j p1 p2} : PS X (.Expr (.Constant (.str x) j p1) p2) (tS G E mPass) := ps_imp ps_doc fun D σ H ⟨W, env, M, s, p⟩ => p.here s.mem _ s.env
def mBrk : FS := fun env M => .ok (.bk env) M
theorem ss_break : PS X (.Break pos) (tS G E mBrk) := ps_imp ps_break fun D σ H ⟨W, env, M, s, p⟩ => p.here s.mem _ s.env
def mCt : FS := fun env M => .ok (.ct env) M
theorem ss_continue : PS X (.Continue pos) (tS G E mCt) := ps_imp ps_continue fun D σ H ⟨W, env, M, s, p⟩ => p.here s.mem _ s.env
/-! ### blocks -/
def mSeq (f g : FS) : FS := fun env M => (f env M).bind fun fl m => match fl with
  | .nx env' => g env' m
  | fl => .ok fl m
theorem sb_nil : PSs X [] (tS G E mPass) := pss_imp pss_nil fun D σ H ⟨W, env, M, s, p⟩ => p.here s.mem _ s.env
theorem sb_one {st : Stmt} {f : FS} (h : PS X st (tS G E f)) : PSs X [st] (tS G E f) := pss_one h
theorem sb_cons {st : Stmt} {r : List Stmt} {f g : FS} (h : PS X st (tS G E f)) (h2 : PSs X r (tS G E g)) : PSs X (st :: r) (tS G E (mSeq f g)) := pss_imp (pss_cons h h2) fun D σ H ⟨W, env, M, s, p⟩ => by
  refine ⟨W, env, M, s, PR.bind p fun fl m W1 H1 f1 k1 p1 => ?_⟩
  cases fl with
  | nx env' => exact fun σ' en => ⟨W1, env', m, ⟨k1, en⟩, p1⟩
  | bk env' => exact PR.here (E := E) k1 p1
  | ct env' => exact PR.here (E := E) k1 p1
  | rt d => exact PR.here (E := E) k1 p1
def mIfS (c : FT) (f g : FS) : FS := fun env M => (c env M).bind fun b m => if b = true then f env m else g env m
theorem ss_if {gc : FT} {f g : FS} {st1 st2 : List Stmt} (hc : PT X c (tT G E gc)) (ha : PSs X st1 (tS G E f)) (hb : PSs X st2 (tS G E g)) : PS X (.If c st1 st2 pos) (tS G E (mIfS gc f g)) := ps_imp (ps_if hc ha hb) fun D σ H ⟨W, env, M, s, p⟩ => by
  refine tT.bind s p fun k m W1 H1 f1 s1 p1 => ?_
  cases k with
  | true => rw [if_pos rfl] at p1 ⊢; exact ⟨W1, env, m, s1, p1⟩
  | false => rw [if_neg Bool.false_ne_true] at p1 ⊢; exact ⟨W1, env, m, s1, p1⟩
/-- x op= e of a name: as x = x op e -/
def mAug (i : Nat) (o : D → D → Mem → R D) (f : FE) : FS := fun env M => match env[i]? with
  | some (some x) => (f env M).bind fun d m => (o x d m).bind fun z m' => .ok (.nx (env.set i (some z))) m'
  | _ => .no
def Ip2 (G : Gx) (E : XK) (r : TIp) (o : D → D → Mem → R D) : Prop := ∀ W H M a b u v Q, MemOk G W H M → Rp G W H a u → Rp G W H b v → PR G W H (PV G Q) E (o a b M) → r u v H Q
theorem ss_aug {i : Nat} {x : Str} {op : Operator} {ti : TIp} {o : D → D → Mem → R D} {pos' : Pos} (hi2 : Ip2 G E ti o) (ha : PE X a (tE G E fa)) (ho : PIp X op ti) (hN : X.N.Nodup) (hi : X.N[i]? = some x) (hx : Loc X.env.scope x) (hf : X.fn x = true ∨ X.env.scope.names.lookup x = some .local := by first | exact .inl rfl | exact .inr rfl | assumption) :
    PS X (.AugAssign (.Name x pos') op a pos) (tS G E (mAug i o fa)) := ps_imp (ps_aug hN hi hx ha ho hf) fun D σ H ⟨W, env, M, s, p⟩ => by
  unfold mAug at p
  split at p
  · rename_i d e
    obtain ⟨u, h1, h2⟩ := s.env.2 i d e
    refine ⟨u, h1, ?_⟩
    refine tE.bind s p fun d2 m W1 H1 u2 f1 s1 r1 p1 => ?_
    refine hi2 W1 H1 m d d2 u u2 _ s1.mem (s.mem.rp f1 h2) r1 (PR.bind p1 fun z m2 W2 H2 f2 k2 p2 => fun w rw_ => ?_)
    exact p2.here k2 _ ((s1.env.fut s1.mem f2).set i rw_)
  · exact p.elim
theorem ip2_add : Ip2 G E (ipI fun i j => i + j) (oI fun i j => .int (i + j)) := fun W H M a b u v Q m ra rb p => by
  cases a <;> cases b <;> first
    | exact p.elim
    | exact ⟨_, _, ra, rb, p.here m _ rfl⟩
theorem ip2_sub : Ip2 G E (ipI fun i j => i - j) (oI fun i j => .int (i - j)) := fun W H M a b u v Q m ra rb p => by
  cases a <;> cases b <;> first
    | exact p.elim
    | exact ⟨_, _, ra, rb, p.here m _ rfl⟩
/-! ### while -/
def whileM (c : FT) (body : FS) : Nat → Env → Mem → R Flow
  | 0, _, _ => .no
  | n + 1, env, M => (c env M).bind fun b m => if b = true then (body env m).bind fun fl m' => match fl with
      | .nx env' => whileM c body n env' m'
      | .ct env' => whileM c body n env' m'
      | .bk env' => .ok (.nx env') m'
      | .rt d => .ok (.rt d) m'
    else .ok (.nx env) m
def mWhile (c : FT) (body : FS) : FS := whileM c body 1000000000
theorem ss_while {gc : FT} {f : FS} {st : List Stmt} (hp : PassesOwn (model X.prog X.w) X.A X.env X.xe) (hc : PT X c (tT G E gc)) (hb : PSs X st (tS G E f)) : PS X (.While c st [] pos) (tS G E (mWhile gc f)) := ps_imp (ps_while hp hc hb) fun D σ H ⟨W, env, M, s, p⟩ => by
  refine ⟨fun n σ' H' => ∃ W env M, Sta G W env M σ' H' ∧ PR G W H' (PFl G D) E (whileM gc f n env M), ⟨1000000000, W, env, M, s, p⟩, ?_⟩
  rintro n σ' H' ⟨W, env, M, s, p⟩
  cases n with
  | zero => exact p.elim
  | succ n =>
    refine tT.bind s p fun k m W1 H1 f1 s1 p1 => ?_
    cases k with
    | true =>
      rw [if_pos rfl] at p1 ⊢
      refine ⟨fun σ2 H2 => ∃ W env M, Sta G W env M σ2 H2 ∧ PR G W H2 (PFl G D) E (whileM gc f n env M), fun σ2 H2 h => ⟨n, Nat.lt_succ_self n, h⟩, ?_⟩
      refine ⟨W1, env, m, s1, PR.bind p1 fun fl m2 W2 H2 f2 k2 p2 => ?_⟩
      cases fl with
      | nx env' => exact fun σ3 en => ⟨W2, env', m2, ⟨k2, en⟩, p2⟩
      | ct env' => exact fun σ3 en => ⟨W2, env', m2, ⟨k2, en⟩, p2⟩
      | bk env' => exact PR.here (E := E) k2 p2
      | rt d => exact PR.here (E := E) k2 p2
    | false =>
      rw [if_neg Bool.false_ne_true] at p1 ⊢
      exact p1.here s1.mem _ s1.env
end
end Fn

set_option Elab.async false
set_option linter.all false
set_option maxRecDepth 100000
set_option maxHeartbeats 1000000
/-! FnLoop: what is walked; for; comprehensions. -/
namespace Fn
open PySem PySem.Spec PyProof.Rows L2
/-- what is walked: its items; what must stay true of the memory meanwhile -/
structure Src where
  items : List D
  still : Mem → Prop
abbrev FI := Env → Mem → R Src
section
variable {X : Cx} {G : Gx} {cl : Nat → Addr} {E : XK} {W : Wd} {H : Hp} {M : Mem} {a b c : Expr} {fa fb fc : FE} {pos : Pos}
structure SrcOk (G : Gx) (W0 : Wd) (H0 : Hp) (src : Src) (J : It) : Prop where
  item : ∀ W H M, Kp W0 H0 W H → MemOk G W H M → src.still M → ∀ (i : Nat) d, src.items[i]? = some d → J.go i H ∧ ∀ x H', J.yld i H x H' → Fut W H W H' ∧ MemOk G W H' M ∧ Rp G W H' d x
  stop : ∀ W H M, Kp W0 H0 W H → MemOk G W H M → src.still M → J.stop src.items.length H
def PI' (G : Gx) (Rr : It → Hp → Prop) : Src → Mem → Wd → Hp → Prop := fun src M W H => ∀ J, SrcOk G W H src J → src.still M → Rr J H
def tI (G : Gx) (E : XK) (f : FI) : TI := fun σ H Rr => ∃ W env M, Sta G W env M σ H ∧ PR G W H (PI' G Rr) E (f env M)
theorem pi_imp {tg it : Expr} {t t' : TI} (h : PI X tg it t) (i : ∀ σ H Q, t' σ H Q → t σ H Q) : PI X tg it t' := ⟨fun pins s σ H Q I q => h.run pins s σ H Q I (i σ H Q q)⟩
/-- a list or a tuple -/
def iSeq (K : PySem.W.Frag) (tl : TE) : TI := fun σ H R => tl σ H fun x H1 => ∃ a, x = .ref a ∧ (((∃ xs, SqL K H1 a xs) ∧ R (Itl K a) H1) ∨ ((∃ xs, SqT K H1 a xs) ∧ R (Itt K a) H1))
theorem pi_seq {tg l : Expr} {tl : TE} (hl : PE X l tl) : PI X tg l (iSeq X.K tl) := by
  refine ⟨fun pins s σ H R I h => ?_⟩
  refine thn (hl.run pins s σ H _ I h) fun v s1 ⟨x, H1, I1, r1, q1⟩ => ?_
  obtain ⟨a, e, q⟩ := q1
  subst e
  cases r1
  rcases q with ⟨⟨xs, hq⟩, q⟩ | ⟨⟨xs, hq⟩, q⟩
  · obtain ⟨its, rv, p, hz⟩ := I1.list hq
    refine wpAny_pyIter_list p.isList ?_
    refine ⟨s1.heap.objs.size, [s1.heap.objs.size], _, _, H1, rfl, I1.kept (t' := s1.toks) fun b o e => Heap.get?_push_of_some _ e, turn_list a _, ⟨_, Heap.get?_push_size _ rfl, rfl, rfl⟩, fun b hb => ?_, q⟩
    have e : b = s1.heap.objs.size := by simpa using hb
    subst e
    exact I1.fpOk (Nat.le_refl _) (I1.hok.fresh (Nat.le_refl _))
  · obtain ⟨its, rv, p, hz⟩ := I1.tuple hq
    refine wpAny_pyIter_tuple (show s1.heap.IsTuple a its.toArray from p) ?_
    refine ⟨s1.heap.objs.size, [s1.heap.objs.size], _, _, H1, rfl, I1.kept (t' := s1.toks) fun b o e => Heap.get?_push_of_some _ e, turn_tuple a _, ⟨_, Heap.get?_push_size _ rfl, rfl, rfl⟩, fun b hb => ?_, q⟩
    have e : b = s1.heap.objs.size := by simpa using hb
    subst e
    exact I1.fpOk (Nat.le_refl _) (I1.hok.fresh (Nat.le_refl _))
/-- the items of a list or tuple, walked -/
def srcOf (M : Mem) (d : D) : Option Src := match d with
  | .tup l => some ⟨l, fun _ => True⟩
  | .lst l => some ⟨l, fun _ => True⟩
  | .fz l => some ⟨l, fun _ => True⟩
  | .ref i => match M[i]? with
    | some (.lst l) => some ⟨l, fun M' => M'[i]? = some (.lst l)⟩
    | _ => none
  | _ => none
def iSq (f : FE) : FI := fun env M => (f env M).bind fun d m => match srcOf m d with
  | some s => .ok s m
  | none => .no
theorem src_itl {W0 : Wd} {H0 : Hp} {src : Src} {a : Addr} (h : ∀ W H M, Kp W0 H0 W H → MemOk G W H M → src.still M → ∃ us, SqL G.K H a us ∧ RpL G W H src.items us) : SrcOk G W0 H0 src (Itl G.K a) where
  item := fun W H M f m st i d e => by
    obtain ⟨us, h1, h2⟩ := h W H M f m st
    obtain ⟨u, e2, r2⟩ := h2.get e
    refine ⟨⟨us, u, h1, e2⟩, fun x H' y => ?_⟩
    obtain ⟨rfl, y⟩ := y
    have := y us h1
    rw [e2] at this; cases this
    exact ⟨Fut.rfl', m, r2⟩
  stop := fun W H M f m st => by
    obtain ⟨us, h1, h2⟩ := h W H M f m st
    exact ⟨us, h1, by rw [h2.len]; exact Nat.le_refl _⟩
theorem src_itt {W0 : Wd} {H0 : Hp} {src : Src} {a : Addr} (h : ∀ W H M, Kp W0 H0 W H → MemOk G W H M → src.still M → ∃ us, SqT G.K H a us ∧ RpL G W H src.items us) : SrcOk G W0 H0 src (Itt G.K a) where
  item := fun W H M f m st i d e => by
    obtain ⟨us, h1, h2⟩ := h W H M f m st
    obtain ⟨u, e2, r2⟩ := h2.get e
    refine ⟨⟨us, u, h1, e2⟩, fun x H' y => ?_⟩
    obtain ⟨rfl, y⟩ := y
    have := y us h1
    rw [e2] at this; cases this
    exact ⟨Fut.rfl', m, r2⟩
  stop := fun W H M f m st => by
    obtain ⟨us, h1, h2⟩ := h W H M f m st
    exact ⟨us, h1, by rw [h2.len]; exact Nat.le_refl _⟩
theorem srcOf_ok (m : MemOk G W H M) {d : D} {u : V} {src : Src} (r : Rp G W H d u) (e : srcOf M d = some src) :
    src.still M ∧ ∃ a, u = .ref a ∧ (((∃ xs, SqL G.K H a xs) ∧ SrcOk G W H src (Itl G.K a)) ∨ ((∃ xs, SqT G.K H a xs) ∧ SrcOk G W H src (Itt G.K a))) := by
  cases d with
  | tup l =>
    cases e
    obtain ⟨a, us, e1, s1, r1⟩ := id r
    refine ⟨trivial, a, e1, .inr ⟨⟨us, s1.sq⟩, src_itt fun W2 H2 M2 f2 m2 _ => ?_⟩⟩
    obtain ⟨a', us', e', s', r'⟩ := Rp.kp f2 _ _ r
    rw [e1] at e'; cases e'
    exact ⟨us', s'.sq, r'⟩
  | lst l =>
    cases e
    obtain ⟨a, us, e1, s1, r1⟩ := id r
    refine ⟨trivial, a, e1, .inl ⟨⟨us, .inl (.inl s1.1)⟩, src_itl fun W2 H2 M2 f2 m2 _ => ?_⟩⟩
    obtain ⟨a', us', e', s', r'⟩ := Rp.kp f2 _ _ r
    rw [e1] at e'; cases e'
    exact ⟨us', .inl (.inl s'.1), r'⟩
  | fz l =>
    cases e
    obtain ⟨a, us, e1, s1, r1⟩ := lstOf_ok m (d := .fz l) r rfl
    refine ⟨trivial, a, e1, .inl ⟨⟨us, s1⟩, src_itl fun W2 H2 M2 f2 m2 _ => ?_⟩⟩
    obtain ⟨a', us', e', s', r'⟩ := lstOf_ok m2 (d := .fz l) (Rp.kp f2 _ _ r) rfl
    rw [e1] at e'; cases e'
    exact ⟨us', s', r'⟩
  | ref i =>
    simp only [srcOf] at e
    split at e
    · rename_i l hc
      cases e
      obtain ⟨a, e1, e2⟩ := id r
      obtain ⟨us, h1, h2⟩ := m.cell i _ a hc e1
      refine ⟨hc, a, e2, .inl ⟨⟨us, .inl (.inl h1)⟩, src_itl fun W2 H2 M2 f2 m2 st => ?_⟩⟩
      obtain ⟨us', h1', h2'⟩ := m2.cell i _ a st (f2.get _ _ e1)
      exact ⟨us', .inl (.inl h1'), h2'⟩
    · cases e
  | _ => cases e
theorem si_seq {tg : Expr} (ha : PE X a (tE ⟨X.K, cl⟩ E fa)) : PI X tg a (tI ⟨X.K, cl⟩ E (iSq fa)) := pi_imp (pi_seq ha) fun σ H Rr ⟨W, env, M, s, p⟩ => by
  refine tE.bind s p fun d m W1 H1 u f1 s1 r1 p1 => ?_
  split at p1
  · rename_i src e
    obtain ⟨st, a1, e1, q⟩ := srcOf_ok s1.mem r1 e
    have k := p1.here s1.mem
    refine ⟨a1, e1, ?_⟩
    rcases q with ⟨h1, h2⟩ | ⟨h1, h2⟩
    · exact .inl ⟨h1, k _ h2 st⟩
    · exact .inr ⟨h1, k _ h2 st⟩
  · exact p1.elim
/-- a text, sign by sign -/
def iStrM (f : FE) : FI := fun env M => (f env M).bind fun d m => match d with
  | .str x => .ok ⟨x.map fun c => .str [c], fun _ => True⟩ m
  | _ => .no
theorem si_str {tg : Expr} (ha : PE X a (tE G E fa)) : PI X tg a (tI G E (iStrM fa)) := pi_imp (pi_str ha) fun σ H Rr ⟨W, env, M, s, p⟩ => by
  refine tE.bind s p fun d m W1 H1 u f1 s1 r1 p1 => ?_
  cases d with
  | str x =>
    cases r1
    refine ⟨l2s x, rfl, p1.here s1.mem _ ⟨fun W2 H2 M2 f2 m2 _ i d e => ?_, fun W2 H2 M2 f2 m2 _ => ?_⟩ trivial⟩
    · rw [List.getElem?_map] at e
      cases q : x[i]? with
      | none => rw [q] at e; cases e
      | some c =>
        rw [q] at e; cases e
        have hi : i < x.length := (List.getElem?_eq_some_iff.mp q).1
        refine ⟨?_, fun y H' h => ?_⟩
        · show i < (l2s x).cps.size
          simp [l2s]; exact hi
        · obtain ⟨rfl, c', e1, e2⟩ := h
          have : c' = c := by
            simp [l2s] at e1
            rw [q] at e1; exact (Option.some.inj e1).symm
          subst this
          exact ⟨Fut.rfl', m2, e2⟩
    · show (l2s x).cps.size ≤ _
      simp [l2s]
  | _ => exact p1.elim
def rngItems (lo : Int) (n : Nat) : List D := (List.range n).map fun i : Nat => .int (lo + (i : Int))
theorem src_rng {W0 : Wd} {H0 : Hp} (lo : Int) (n : Nat) : SrcOk G W0 H0 ⟨rngItems lo n, fun _ => True⟩ (Itr lo n) where
  item := fun W H M f m _ i d e => by
    have e' : (rngItems lo n)[i]? = some d := e
    unfold rngItems at e'
    rw [List.getElem?_map] at e'
    cases q : (List.range n)[i]? with
    | none => rw [q] at e'; cases e'
    | some k =>
      rw [q] at e'; cases e'
      obtain ⟨h1, h2⟩ := List.getElem?_eq_some_iff.mp q
      simp at h1 h2
      subst h2
      refine ⟨h1, fun x H' y => ?_⟩
      obtain ⟨rfl, rfl⟩ := y
      exact ⟨Fut.rfl', m, rfl⟩
  stop := fun W H M f m _ => by
    show n ≤ (rngItems lo n).length
    simp [rngItems]
def rngOk (i : Int) : Bool := decide (-(2 ^ 62) ≤ i) && decide (i < 2 ^ 62)
theorem rngOk_ok {i : Int} (h : rngOk i = true) : -(2 ^ 62) ≤ i ∧ i < 2 ^ 62 := by
  unfold rngOk at h
  simp only [Bool.and_eq_true, decide_eq_true_eq] at h
  exact h
def iR1 (g : FA) : FI := fun env M => (g env M).bind fun ds m => match ds with
  | [.int j] => if rngOk j = true then .ok ⟨rngItems 0 j.toNat, fun _ => True⟩ m else .no
  | _ => .no
def iR2 (g : FA) : FI := fun env M => (g env M).bind fun ds m => match ds with
  | [.int i, .int j] => if rngOk i = true ∧ rngOk j = true then .ok ⟨rngItems i (j - i).toNat, fun _ => True⟩ m else .no
  | _ => .no
theorem si_range1 {tg : Expr} {g : FA} {p : Pos} (hg : Gl X "range") (hm : X.mg "range" = none) (ha : PA X [a] (tA G E g)) (hs : starEach [a] X.env = [(false, eval a X.env)] := by rfl) : PI X tg (.Call (.Name "range" p) [a] [] pos) (tI G E (iR1 g)) :=
  pi_imp (pi_range1 hg hm ha hs) fun σ H Rr ⟨W, env, M, s, p⟩ => by
    refine tA.bind s p fun ds m W1 H1 us f1 s1 r1 p1 => ?_
    split at p1
    · rename_i j
      split at p1
      · rename_i hj
        obtain ⟨u, e1, r2⟩ := rp_one r1
        subst e1; cases r2
        exact ⟨j, rfl, (rngOk_ok hj).1, (rngOk_ok hj).2, p1.here s1.mem _ (src_rng 0 j.toNat) trivial⟩
      · exact p1.elim
    · exact p1.elim
theorem si_range2 {tg : Expr} {g : FA} {p : Pos} (hg : Gl X "range") (hm : X.mg "range" = none) (ha : PA X [a, b] (tA G E g)) (hs : starEach [a, b] X.env = [(false, eval a X.env), (false, eval b X.env)] := by rfl) (hs2 : starEach [b] X.env = [(false, eval b X.env)] := by rfl) : PI X tg (.Call (.Name "range" p) [a, b] [] pos) (tI G E (iR2 g)) :=
  pi_imp (pi_range2 hg hm ha hs hs2) fun σ H Rr ⟨W, env, M, s, p⟩ => by
    refine tA.bind s p fun ds m W1 H1 us f1 s1 r1 p1 => ?_
    split at p1
    · rename_i i j
      split at p1
      · rename_i hj
        obtain ⟨u, us', e1, r2, v, us2, e2, r3, r4⟩ := r1
        have : us2 = [] := r4
        subst this e2 e1
        cases r2; cases r3
        exact ⟨i, j, rfl, ⟨(rngOk_ok hj.1).1, (rngOk_ok hj.1).2, (rngOk_ok hj.2).1, (rngOk_ok hj.2).2⟩, p1.here s1.mem _ (src_rng i (j - i).toNat) trivial⟩
      · exact p1.elim
    · exact p1.elim
/-! ### for -/
open Classical in
noncomputable def forL (P : Mem → Prop) (g : FG) (body : FS) : List D → Env → Mem → R Flow
  | [], env, M => if P M then .ok (.nx env) M else .no
  | d :: r, env, M => if P M then (g d env M).bind fun env1 m1 => (body env1 m1).bind fun fl m => match fl with
      | .nx env' => forL P g body r env' m
      | .ct env' => forL P g body r env' m
      | .bk env' => .ok (.nx env') m
      | .rt d => .ok (.rt d) m
    else .no
noncomputable def mFor (f : FI) (g : FG) (body : FS) : FS := fun env M => (f env M).bind fun src m => forL src.still g body src.items env m
theorem ss_for {tg it : Expr} {f : FI} {g : FG} {body : FS} {st : List Stmt} {sl : List Nat} (hp : PassesOwn (model X.prog X.w) X.A X.env X.xe) (hc : X.calm = true) (hi : PI X tg it (tI G E f)) (hg : PG X tg (tGt G E sl g)) (hb : PSs X st (tS G E body))
    (hs : ∀ x, foldedSetIterable it X.env x = pure x := by intro _; rfl) : PS X (.For tg it st [] pos) (tS G E (mFor f g body)) := ps_imp (ps_for hp hc hi hg hb hs) fun D σ H ⟨W, env, M, s, p⟩ => by
  refine ⟨W, env, M, s, PR.bind p fun src m W0 H0 f0 k0 p0 => fun J sj st0 => ?_⟩
  have s0 := s.fut f0 k0
  refine ⟨fun i n σ' H' => n + i = src.items.length ∧ ∃ W env M, Fut W0 H0 W H' ∧ Sta G W env M σ' H' ∧ PR G W H' (PFl G D) E (forL src.still g body (src.items.drop i) env M), ⟨src.items.length, rfl, W0, env, m, Fut.rfl', s0, p0⟩, ?_⟩
  rintro i n σ' H' ⟨hn, W1, env1, M1, f1, s1, p1⟩
  cases hd : src.items.drop i with
  | nil =>
    rw [hd] at p1
    unfold forL at p1
    split at p1
    · rename_i hP
      have hl : src.items.length ≤ i := List.drop_eq_nil_iff.mp hd
      have : i = src.items.length := by omega
      subst this
      exact .inl ⟨sj.stop W1 H' M1 (f1.kp k0) s1.mem hP, p1.here s1.mem _ s1.env⟩
    · exact p1.elim
  | cons d r =>
    rw [hd] at p1
    unfold forL at p1
    split at p1
    · rename_i hP
      have hi' : src.items[i]? = some d := by
        have h0 : (src.items.drop i)[0]? = some d := by rw [hd]; rfl
        rw [List.getElem?_drop] at h0
        simpa using h0
      have hr : src.items.drop (i + 1) = r := by
        rw [← List.tail_drop, hd]; rfl
      have hlt : i < src.items.length := (List.getElem?_eq_some_iff.mp hi').1
      obtain ⟨go, yl⟩ := sj.item W1 H' M1 (f1.kp k0) s1.mem hP i d hi'
      refine .inr ⟨go, fun σ2 H2 => ∃ W env M, Fut W0 H0 W H2 ∧ Sta G W env M σ2 H2 ∧ PR G W H2 (PFl G D) E (forL src.still g body r env M), fun σ2 H2 ⟨W, env, M, q1, q2, q3⟩ => ⟨n - 1, by omega, by omega, W, env, M, q1, q2, by rw [hr]; exact q3⟩, fun x H2 y => ?_⟩
      obtain ⟨f2, k2, rx⟩ := yl x H2 y
      have s2 := s1.fut f2 k2
      refine ⟨W1, env1, M1, d, s2, rx, PR.bind (PR.fut f2 p1) fun env3 m3 W3 H3 f3 k3 p3 => fun σ3 en3 _ => ?_⟩
      refine ⟨W3, env3, m3, ⟨k3, en3⟩, PR.bind p3 fun fl m4 W4 H4 f4 k4 p4 => ?_⟩
      have ff := f1.trans (f2.trans (f3.trans f4))
      cases fl with
      | nx env' => exact fun σ4 en => ⟨W4, env', m4, ff, ⟨k4, en⟩, p4⟩
      | ct env' => exact fun σ4 en => ⟨W4, env', m4, ff, ⟨k4, en⟩, p4⟩
      | bk env' => exact PR.here (E := E) k4 p4
      | rt d => exact PR.here (E := E) k4 p4
    · exact p1.elim
end
end Fn

set_option Elab.async false
set_option linter.all false
set_option maxRecDepth 100000
set_option maxHeartbeats 1000000
/-! FnComp: list comprehensions. -/
namespace Fn
open PySem PySem.Spec PyProof.Rows L2
section
variable {X : Cx} {G : Gx} {cl : Nat → Addr} {E : XK} {W : Wd} {H : Hp} {M : Mem} {a b c : Expr} {fa fb fc : FE} {pos : Pos}
def wipeE (env : Env) : List Nat → Env
  | [] => env
  | v :: vs => (wipeE env vs).set v none
theorem wipeE_ok {env : Env} {σ : L2.St} (h : EnvOk G W H env σ) : ∀ vs, EnvOk G W H (wipeE env vs) (wipe σ vs)
  | [] => h
  | v :: vs => by
    have ih := wipeE_ok h vs
    unfold wipeE wipe
    refine ⟨by simp [ih.1], fun j d e => ?_⟩
    by_cases hj : v = j
    · subst hj
      by_cases hl : v < (wipeE env vs).length
      · rw [List.getElem?_set_self hl] at e; cases e
      · rw [List.getElem?_eq_none (by simp; omega)] at e; cases e
    · rw [List.getElem?_set_ne hj] at e ⊢
      exact ih.2 j d e
/-- the block's tests -/
theorem wipe_wipe (σ : L2.St) (vs : List Nat) : wipe (wipe σ vs) vs = wipe σ vs := wipe_ext (wipe_length σ vs) fun j hj => wipe_get σ j vs hj
def tsYes : FT := fun _ M => .ok true M
open Classical in
noncomputable def compL (P : Mem → Prop) (g : FG) (t : FT) (f : FE) (env : Env) : List D → Mem → R (List D)
  | [], M => if P M then .ok [] M else .no
  | d :: r, M => if P M then (g d env M).bind fun env1 m1 => (t env1 m1).bind fun b m2 => if b = true then (f env1 m2).bind fun y m3 => (compL P g t f env r m3).bind fun ys m4 => .ok (y :: ys) m4 else compL P g t f env r m2
    else .no
/-- a hidden object is written -/
theorem Kp.hidden {D0 : Addr} {xs : List V} {o : HO} (hD : D0 ∈ W.hd) (hx : H D0 = some (.lst xs)) : Kp W H W (upd H D0 o) :=
  ⟨fun _ _ h => h, fun a o' e _ h2 => by rw [upd_ne (fun z => h2 (by rw [z]; exact hD))]; exact e,
   fun a o' e st => by rw [upd_ne fun z => by subst z; rw [hx] at e; cases e; exact st]; exact e, fun _ _ _ h1 h2 => ⟨h1, h2⟩⟩
theorem CellOk.kp {W' : Wd} {H' : Hp} (k : Kp W H W' H') {a : Addr} {c : Cell} (e : H' a = H a) (h : CellOk G W H a c) : CellOk G W' H' a c := by
  have pk : ∀ {κ κ' : Type} {f : κ → κ'} {l : List (κ × D)} {vs : List (κ' × V)}, RpK G W H f l vs → RpK G W' H' f l vs := fun h => Paired.imp (fun _ _ z => ⟨z.1, Rp.kp k _ _ z.2⟩) h
  cases c with
  | lst l => obtain ⟨vs, q, r⟩ := h; exact ⟨vs, by rw [e]; exact q, RpL.kp k _ _ r⟩
  | dk lk kvs => obtain ⟨vs, q, r⟩ := h; exact ⟨vs, by rw [e]; exact q, pk r⟩
  | dt lk kvs => obtain ⟨vs, q, r⟩ := h; exact ⟨vs, by rw [e]; exact q, pk r⟩
  | ins c0 fs => obtain ⟨dx, vs, q, r⟩ := h; exact ⟨dx, vs, by rw [e]; exact q, pk r⟩
theorem MemOk.hidden (m : MemOk G W H M) {D0 : Addr} {xs : List V} {o : HO} (hD : D0 ∈ W.hd) (hx : H D0 = some (.lst xs)) : MemOk G W (upd H D0 o) M where
  len := m.len
  nd := m.nd
  cell := fun i c a e1 e2 => (m.cell i c a e1 e2).kp (Kp.hidden hD hx) (upd_ne fun z => by subst z; exact m.apart _ (List.mem_of_getElem? e2) hD)
  apart := m.apart
  hid := fun b hb => by
    by_cases z : b = D0
    · subst z; exact ⟨_, upd_same⟩
    · obtain ⟨u, hu⟩ := m.hid b hb
      exact ⟨u, by rw [upd_ne z]; exact hu⟩
/-- D0 hidden, and no more -/
theorem Kp.hide {D0 : Addr} {o : HO} (hD : H D0 = none) : Kp W H ⟨W.as, D0 :: W.hd⟩ (upd H D0 o) :=
  ⟨fun _ _ h => h, fun a o' e _ _ => by rw [upd_ne (ne_of_none e hD)]; exact e, fun a o' e _ => by rw [upd_ne (ne_of_none e hD)]; exact e,
   fun a o' e h1 h2 => ⟨h1, fun z => by rcases List.mem_cons.mp z with z | z; · exact ne_of_none e hD z
                                        · exact h2 z⟩⟩
theorem MemOk.hide (m : MemOk G W H M) {D0 : Addr} {o : HO} (hD : H D0 = none) : MemOk G ⟨W.as, D0 :: W.hd⟩ (upd H D0 o) M where
  len := m.len
  nd := m.nd
  cell := fun i c a e1 e2 => by
    have k := m.cell i c a e1 e2
    obtain ⟨u, hu, _⟩ := k.there
    exact k.kp (Kp.hide hD) (upd_ne (ne_of_none hu hD))
  apart := fun a ha z => by
    rcases List.mem_cons.mp z with z | z
    · subst z; exact (m.fresh hD).1 ha
    · exact m.apart a ha z
  hid := fun b hb => by
    rcases List.mem_cons.mp hb with z | z
    · subst z; exact ⟨_, upd_same⟩
    · obtain ⟨u, hu⟩ := m.hid b z
      exact ⟨u, by rw [upd_ne (ne_of_none hu hD)]; exact hu⟩
theorem Kp.show {as hd : List Addr} {D0 : Addr} : Kp ⟨as, D0 :: hd⟩ H ⟨as, hd⟩ H :=
  ⟨fun _ _ h => h, fun _ _ e _ _ => e, fun _ _ e _ => e, fun _ _ _ h1 h2 => ⟨h1, fun z => h2 (List.mem_cons_of_mem _ z)⟩⟩
theorem MemOk.show {as hd : List Addr} {D0 : Addr} (m : MemOk G ⟨as, D0 :: hd⟩ H M) : MemOk G ⟨as, hd⟩ H M where
  len := m.len
  nd := m.nd
  cell := fun i c a e1 e2 => (m.cell i c a e1 e2).kp Kp.show rfl
  apart := fun a ha z => m.apart a ha (List.mem_cons_of_mem _ z)
  hid := fun b hb => m.hid b (List.mem_cons_of_mem _ hb)
theorem Kp.track {as hd : List Addr} {D0 : Addr} : Kp ⟨as, D0 :: hd⟩ H ⟨as ++ [D0], hd⟩ H :=
  ⟨fun i a h => by
    show (as ++ [D0])[i]? = some a
    rw [List.getElem?_append_left (List.getElem?_eq_some_iff.mp h).1]; exact h, fun _ _ e _ _ => e, fun _ _ e _ => e,
   fun a _ _ h1 h2 => ⟨fun z => by
    rcases List.mem_append.mp z with z | z
    · exact h1 z
    · exact h2 (by rw [List.mem_singleton] at z; rw [z]; exact List.mem_cons_self ..), fun z => h2 (List.mem_cons_of_mem _ z)⟩⟩
theorem MemOk.track {as hd : List Addr} {D0 : Addr} {us : List V} {ys : List D} (m : MemOk G ⟨as, D0 :: hd⟩ H M) (hx : H D0 = some (.lst us)) (hn : D0 ∉ hd) (r : RpL G ⟨as, D0 :: hd⟩ H ys us) : MemOk G ⟨as ++ [D0], hd⟩ H (M ++ [.lst ys]) where
  len := by
    have := m.len
    simp at this ⊢
    omega
  nd := by
    show (as ++ [D0]).Nodup
    rw [List.nodup_append]
    refine ⟨m.nd, by simp, fun a ha b hb => ?_⟩
    rw [List.mem_singleton] at hb; subst hb
    intro z; subst z
    exact m.apart a ha (List.mem_cons_self ..)
  cell := fun i c' a e1 e2 => by
    have ml : as.length = M.length := m.len
    have e2' : (as ++ [D0])[i]? = some a := e2
    by_cases hi : i < M.length
    · rw [List.getElem?_append_left hi] at e1
      rw [List.getElem?_append_left (by omega)] at e2'
      exact (m.cell i c' a e1 e2').kp Kp.track rfl
    · rw [List.getElem?_append_right (by omega)] at e1 e2'
      have e3 : i - M.length = 0 := by
        have := (List.getElem?_eq_some_iff.mp e1).1
        simp at this; omega
      rw [e3] at e1
      rw [show i - as.length = 0 by omega] at e2'
      simp at e1 e2'
      subst e1 e2'
      exact ⟨us, hx, RpL.kp Kp.track _ _ r⟩
  apart := fun a ha z => by
    rcases List.mem_append.mp ha with q | q
    · exact m.apart a q (List.mem_cons_of_mem _ z)
    · rw [List.mem_singleton] at q; subst q
      exact hn z
  hid := fun b hb => m.hid b (List.mem_cons_of_mem _ hb)
theorem ifF {A B : Prop} (h : B) : if false = true then A else B := by rw [if_neg Bool.false_ne_true]; exact h
theorem ifT {A B : Prop} (h : A) : if true = true then A else B := by rw [if_pos rfl]; exact h
def R.nox {α : Type} : R α → R α
  | .ok a m => .ok a m
  | _ => .no
@[simp] theorem R.nox_ok {α : Type} (a : α) (m : Mem) : (R.ok a m).nox = .ok a m := rfl
theorem R.bind_eq {α β : Type} {r : R α} {k : α → Mem → R β} {b : β} {m : Mem} (h : r.bind k = .ok b m) : ∃ a m1, r = .ok a m1 ∧ k a m1 = .ok b m := by
  cases r with
  | ok a m1 => exact ⟨a, m1, rfl, h⟩
  | ex c fs m1 => cases h
  | no => cases h
/-- the hidden list becomes the made one -/
theorem mkL_shown {W0 : Wd} {H0 : Hp} {as : List Addr} {D0 : Addr} {us : List V} {c : Bool} {ys : List D} {Q : VK} (f : Fut W0 H0 ⟨as, W0.hd⟩ H) (h0 : H0 D0 = none) (n0 : D0 ∉ W0.as ∧ D0 ∉ W0.hd) (m : MemOk G ⟨as, D0 :: W0.hd⟩ H M) (hx : H D0 = some (.lst us)) (r : RpL G ⟨as, D0 :: W0.hd⟩ H ys us) (p : PR G W0 H0 (PV G Q) E (mkL c ys M)) : Q (.ref D0) H := by
  have nas : D0 ∉ as := fun z => m.apart D0 z (List.mem_cons_self ..)
  unfold mkL at p
  cases c with
  | false =>
    rw [if_neg Bool.false_ne_true] at p
    exact p ⟨as, W0.hd⟩ H f m.show _ ⟨D0, us, rfl, ⟨hx, nas, n0.2⟩, RpL.kp Kp.show _ _ r⟩
  | true =>
    rw [if_pos rfl] at p
    refine p ⟨as ++ [D0], W0.hd⟩ H ⟨?_, rfl, f.keep⟩ (m.track hx n0.2 r) _ ⟨D0, ?_, rfl⟩
    · obtain ⟨nw, e, q⟩ := f.ext
      have e' : as = W0.as ++ nw := e
      refine ⟨nw ++ [D0], by show as ++ [D0] = _; rw [e', List.append_assoc], fun a ha => ?_⟩
      rcases List.mem_append.mp ha with z | z
      · exact q a z
      · rw [List.mem_singleton] at z; subst z
        exact ⟨h0, n0.1⟩
    · have ml : as.length = M.length := m.len
      show (as ++ [D0])[M.length]? = some D0
      rw [← ml]; simp
noncomputable def mLc (c : Bool) (vs : List Nat) (fi : FI) (g : FG) (t : FT) (f : FE) : FE := fun env M => (fi env M).bind fun src m => if src.items.length < 16777216 then (compL src.still g t f (wipeE env vs) src.items m).nox.bind fun ys m' => mkL c ys m' else .no
theorem compL_len {P : Mem → Prop} {g : FG} {t : FT} {f : FE} {env : Env} : ∀ {l : List D} {M M' : Mem} {ys : List D}, compL P g t f env l M = .ok ys M' → ys.length ≤ l.length
  | [], M, M', ys, h => by
    unfold compL at h
    split at h
    · cases h; simp
    · cases h
  | d :: r, M, M', ys, h => by
    unfold compL at h
    split at h
    · obtain ⟨env1, m1, _, h⟩ := R.bind_eq h
      obtain ⟨b, m2, _, h⟩ := R.bind_eq h
      cases b with
      | true =>
        rw [if_pos rfl] at h
        obtain ⟨y, m3, _, h⟩ := R.bind_eq h
        obtain ⟨ys', m4, h3, h⟩ := R.bind_eq h
        cases h
        have := compL_len h3
        simp; omega
      | false =>
        rw [if_neg Bool.false_ne_true] at h
        have := compL_len h
        simp; omega
    · cases h
theorem PR.of_ok {α : Type} {K : α → Mem → Wd → Hp → Prop} {r : R α} {x : α} {m : Mem} (e : r = .ok x m) (h : ∀ W' H', Fut W H W' H' → MemOk G W' H' m → K x m W' H') : PR G W H K E r := by
  subst e; exact h
theorem tLc_of {E' : XK} {c : Bool} {vs : List Nat} {fi : FI} {g : FG} {t : FT} {f : FE} (σ : L2.St) (H : Hp) (Q : VK) (h : tE G E (mLc c vs fi g t f) σ H Q) : tLc (tI G E fi) (tGt G E' vs g) (tT G E' t) (tE G E' f) vs σ H Q := by
  obtain ⟨W, env, M, s, p⟩ := h
  refine ⟨W, env, M, s, PR.bind p fun src m W0 H0 f0 k0 p0 => fun J sj st0 => fun D0 hD0 => ?_⟩
  have s0 := s.fut f0 k0
  split at p0
  · rename_i hz
    obtain ⟨ys, m', hrun⟩ : ∃ ys m', compL src.still g t f (wipeE env vs) src.items m = .ok ys m' := by
      cases hc : compL src.still g t f (wipeE env vs) src.items m with
      | ok ys m' => exact ⟨ys, m', rfl⟩
      | ex c fs m' => rw [hc] at p0; exact p0.elim
      | no => rw [hc] at p0; exact p0.elim
    rw [hrun] at p0
    have q0 : PR G W0 H0 (PV G Q) E (mkL c ys m') := p0
    have n0 := k0.fresh hD0
    refine ⟨fun i n H' => n + i = src.items.length ∧ ∃ as M done rest acc, compL src.still g t f (wipeE env vs) (src.items.drop i) M = .ok rest m' ∧ done ++ rest = ys ∧ done.length ≤ i ∧ Fut W0 H0 ⟨as, W0.hd⟩ H' ∧ Kp W0 H0 ⟨as, D0 :: W0.hd⟩ H' ∧ MemOk G ⟨as, D0 :: W0.hd⟩ H' M ∧ H' D0 = some (.lst acc) ∧ RpL G ⟨as, D0 :: W0.hd⟩ H' done acc, ⟨src.items.length, rfl, W0.as, m, [], ys, [], hrun, rfl, Nat.le_refl _, ⟨⟨[], by simp, by simp⟩, rfl, fun a o e _ => by rw [upd_ne (ne_of_none e hD0)]; exact e⟩, Kp.hide hD0, k0.hide hD0, upd_same, rfl⟩, ?_⟩
    rintro i n H1 ⟨hn, as, M1, done, rest, acc, h1, h2, h3, h4, h4k, h5, h6, h7⟩
    cases hd : src.items.drop i with
    | nil =>
      rw [hd] at h1
      unfold compL at h1
      split at h1
      · rename_i hP
        cases h1
        rw [List.append_nil] at h2
        subst h2
        have hl : src.items.length ≤ i := List.drop_eq_nil_iff.mp hd
        have : i = src.items.length := by omega
        subst this
        exact .inl ⟨sj.stop _ H1 _ h4k h5 hP, mkL_shown h4 hD0 n0 h5 h6 h7 q0⟩
      · cases h1
    | cons d r =>
      rw [hd] at h1
      unfold compL at h1
      split at h1
      · rename_i hP
        have hi' : src.items[i]? = some d := by
          have h0 : (src.items.drop i)[0]? = some d := by rw [hd]; rfl
          rw [List.getElem?_drop] at h0
          simpa using h0
        have hr : src.items.drop (i + 1) = r := by
          rw [← List.tail_drop, hd]; rfl
        have hlt : i < src.items.length := (List.getElem?_eq_some_iff.mp hi').1
        obtain ⟨go, yl⟩ := sj.item _ H1 _ h4k h5 hP i d hi'
        obtain ⟨env1, m1, g1, h1⟩ := R.bind_eq h1
        obtain ⟨b, m2, g2, h1⟩ := R.bind_eq h1
        refine .inr ⟨go, fun H' => ∃ as M done rest acc, compL src.still g t f (wipeE env vs) r M = .ok rest m' ∧ done ++ rest = ys ∧ done.length ≤ i + 1 ∧ Fut W0 H0 ⟨as, W0.hd⟩ H' ∧ Kp W0 H0 ⟨as, D0 :: W0.hd⟩ H' ∧ MemOk G ⟨as, D0 :: W0.hd⟩ H' M ∧ H' D0 = some (.lst acc) ∧ RpL G ⟨as, D0 :: W0.hd⟩ H' done acc, fun H' ⟨as, M, done, rest, acc, k⟩ => ⟨n - 1, by omega, by omega, as, M, done, rest, acc, by rw [hr]; exact k⟩, fun x H2 y => ?_⟩
        obtain ⟨f2, k2, rx⟩ := yl x H2 y
        have en2 : EnvOk G ⟨as, D0 :: W0.hd⟩ H2 env σ := s0.env.kp (h4k.trans (f2.kp h5))
        refine ⟨_, wipeE env vs, M1, d, ⟨k2, wipeE_ok en2 vs⟩, rx, PR.of_ok g1 fun W3 H3 f3 k3 => fun σ3 en3 ew3 => ⟨by rw [ew3]; exact wipe_wipe σ vs, W3, env1, m1, ⟨k3, en3⟩, PR.of_ok g2 fun W4 H4 f4 k4 => ?_⟩⟩
        have f24 := f2.trans (f3.trans f4)
        have a4 := h5.rpL f24 h7
        have hD4 : H4 D0 = some (.lst acc) := f24.keep _ _ h6 fun z => h5.apart D0 z (List.mem_cons_self ..)
        have ft : ∀ {as5 : List Addr} {H5 : Hp}, Fut ⟨as, D0 :: W0.hd⟩ H1 ⟨as5, D0 :: W0.hd⟩ H5 → Fut W0 H0 ⟨as5, W0.hd⟩ H5 := fun f5 => h4.trans ⟨f5.ext, rfl, f5.keep⟩
        cases b with
        | false =>
          rw [if_neg Bool.false_ne_true] at h1
          simp only [PB, Bool.false_eq_true, if_false]
          obtain ⟨as4, hd4⟩ := W4
          obtain rfl : hd4 = D0 :: W0.hd := f24.hd
          exact ⟨as4, m2, done, rest, acc, h1, h2, by omega, ft f24, h4k.trans (f24.kp h5), k4, hD4, a4⟩
        | true =>
          rw [if_pos rfl] at h1
          obtain ⟨y, m3, g3, h1⟩ := R.bind_eq h1
          obtain ⟨ys', m4, g4, h1⟩ := R.bind_eq h1
          cases h1
          simp only [PB, if_true]
          refine ⟨W4, env1, m2, ⟨k4, en3.fut k3 f4⟩, PR.of_ok g3 fun W5 H5 f5 k5 => fun u ru => ?_⟩
          have f25 := f24.trans f5
          obtain ⟨as5, hd5⟩ := W5
          obtain rfl : hd5 = D0 :: W0.hd := f25.hd
          have hD5 : H5 D0 = some (.lst acc) := f25.keep _ _ h6 fun z => h5.apart D0 z (List.mem_cons_self ..)
          have a5 := h5.rpL f25 h7
          have hid : D0 ∈ (⟨as5, D0 :: W0.hd⟩ : Wd).hd := List.mem_cons_self ..
          have kh : Kp ⟨as5, D0 :: W0.hd⟩ H5 ⟨as5, D0 :: W0.hd⟩ (upd H5 D0 (.lst (acc ++ [u]))) := Kp.hidden hid hD5
          refine ⟨acc, hD5, by rw [h7.len, line_eq]; omega, as5, m3, done ++ [y], ys', acc ++ [u], g4, by rw [List.append_assoc]; exact h2, by simp; omega, ?_, h4k.trans ((f25.kp h5).trans kh), k5.hidden hid hD5, upd_same, RpL.kp kh _ _ (a5.append ⟨u, [], rfl, ru, rfl⟩)⟩
          have f5' := ft f25
          exact ⟨f5'.ext, rfl, fun a o e ha => by rw [upd_ne (ne_of_none e hD0)]; exact f5'.keep a o e ha⟩
      · cases h1
  · exact p0.elim
theorem EnvOk.kpp {W' : Wd} {H' : Hp} {env : Env} {σ : L2.St} (h : EnvOk G W H env σ) (k : Kp W H W' H') : EnvOk G W' H' env σ := h.kp k
theorem sn_lc (c : Bool) {elt tg iter : Expr} {ifs : List Expr} {scope : Scope} {own : List (Str × Nat)} {fi : FI} {g : FG} {t : FT} {f : FE} (hc : X.calm = true) (hN : X.N.Nodup) (hi : PI X tg iter (tI G E fi)) (ok : BlkOk X.N X.env.scope scope own)
    (hg : ∀ (s : Shared) (H : Hp) (C : Addr) (cl : List (Str × Addr)) (fp : List Addr), PG (X.blk s H scope (compEnvC scope cl C X.env) fp) tg (tGt G (fun _ _ _ => False) (own.map (·.2)) g)) (ht : ∀ (s : Shared) (H : Hp) (C : Addr) (cl : List (Str × Addr)) (fp : List Addr), PTs (X.blk s H scope (compEnvC scope cl C X.env) fp) ifs (tT G (fun _ _ _ => False) t))
    (he : ∀ (s : Shared) (H : Hp) (C : Addr) (cl : List (Str × Addr)) (fp : List Addr), PE (X.blk s H scope (compEnvC scope cl C X.env) fp) elt (tE G (fun _ _ _ => False) f)) (hs : ∀ x, foldedSetIterable iter X.env x = pure x := by intro _; rfl) :
    PE X (.ListComp elt [⟨tg, iter, ifs, 0⟩] scope pos) (tE G E (mLc c (own.map (·.2)) fi g t f)) := pe_imp (pe_lc hc hN hi ok hg ht he hs) tLc_of
theorem ss_setLc (c : Bool) {i : Nat} {y : Str} {py : Pos} {elt tg iter : Expr} {ifs : List Expr} {scope : Scope} {own : List (Str × Nat)} {spos : Pos} {fi : FI} {g : FG} {t : FT} {f : FE} (hc : X.calm = true) (hN : X.N.Nodup) (hy : X.N[i]? = some y) (hyl : X.env.scope.names.lookup y = some .local)
    (hsw : swapsWith (.ListComp elt [⟨tg, iter, ifs, 0⟩] scope pos) (some (.Name y py)) spos.line X.env = pure true) (hi : PI X tg iter (tI G E fi)) (ok : BlkOk X.N X.env.scope scope own)
    (hg : ∀ (s : Shared) (H : Hp) (C : Addr) (cl : List (Str × Addr)) (fp : List Addr), PG (X.blk s H scope (compEnvC scope cl C X.env) fp) tg (tGt G (fun _ _ _ => False) (own.map (·.2)) g)) (ht : ∀ (s : Shared) (H : Hp) (C : Addr) (cl : List (Str × Addr)) (fp : List Addr), PTs (X.blk s H scope (compEnvC scope cl C X.env) fp) ifs (tT G (fun _ _ _ => False) t))
    (he : ∀ (s : Shared) (H : Hp) (C : Addr) (cl : List (Str × Addr)) (fp : List Addr), PE (X.blk s H scope (compEnvC scope cl C X.env) fp) elt (tE G (fun _ _ _ => False) f)) (hs : ∀ x, foldedSetIterable iter X.env x = pure x := by intro _; rfl) :
    PS X (.Assign [.Name y py] (.ListComp elt [⟨tg, iter, ifs, 0⟩] scope pos) spos) (tS G E (mSet i (mLc c (own.map (·.2)) fi g t f))) := ps_imp (ps_setLc hc hN hy hyl hsw hi ok hg ht he hs) fun D σ H ⟨W, env, M, s, p⟩ => by
  refine tLc_of (c := c) σ H _ ?_
  refine tE.bind s p fun d m W1 H1 u f1 s1 r1 p1 => ?_
  exact p1.here s1.mem _ (s1.env.set i r1)
theorem sts_nil : PTs X [] (tT G E tsYes) := ⟨fun pins s σ H Q I h => pts_nil.run pins s σ H Q I (by obtain ⟨W, env, M, st, p⟩ := h; exact p.here st.mem)⟩
theorem sts_one {t : FT} (h : PT X c (tT G E t)) : PTs X [c] (tT G E t) := pts_one h
end
end Fn

set_option Elab.async false
set_option linter.all false
set_option maxRecDepth 100000
set_option maxHeartbeats 1000000
/-! FnCall: defs and their calls. -/
namespace Fn
open PySem PySem.Spec PyProof.Rows L2
abbrev FD := List D → Mem → R D
section
variable {X : Cx} {G : Gx} {cl : Nat → Addr} {E : XK} {W : Wd} {H : Hp} {M : Mem} {a b c : Expr} {fa fb fc : FE} {pos : Pos}
def spOf (G : Gx) (n : Nat) (g : FD) : Sp := fun vs H Q E => ∃ W M ds, MemOk G W H M ∧ RpL G W H ds vs ∧ ds.length = n ∧ PR G W H (PV G Q) E (g ds M)
theorem passA {X : Cx} {E : XK} : Passes CX0 X E := fun _ _ _ _ _ _ _ h => h.elim
/-- f(..) with the written arguments and the defaults dd -/
def mFun (n : Nat) (g : FD) (dd : List D) (fa : FA) : FE := fun env M => (fa env M).bind fun ds m => if (ds ++ dd).length = n then g (ds ++ dd) m else .no
def Closed (dd : List D) (dvs : List V) : Prop := ∀ (G : Gx) (W : Wd) (H : Hp), RpL G W H dd dvs
theorem closed_nil : Closed [] [] := fun _ _ _ => rfl
section
variable {CX : CXT} {k n : Nat} {f C : Addr} {fd : FuncData} {ps : List Str} {g : FD} {dvs : List V} {dd : List D} {ds : List Value} {x m : Str} {p apos : Pos} {e o : Expr} {es : List Expr} {ga : FA}
theorem fun_reads {E' : XK} (hc : Closed dd dvs) (σ : L2.St) (H : Hp) (Q : VK) (h : tE G E (mFun n g dd ga) σ H Q) : tCall (spOf G n g) dvs E (tA G E ga) σ H Q := by
  obtain ⟨W, env, M, s, p⟩ := h
  refine tA.bind s p fun ds m2 W2 H2 us f2 s2 r2 p2 => ?_
  split at p2
  · rename_i hl
    exact ⟨W2, m2, ds ++ dd, s2.mem, r2.append (hc G W2 H2), hl, p2⟩
  · exact p2.elim
theorem sn_call (F : FnOk X.prog X.w X.K X.mg X.base CX k f fd ps (spOf ⟨X.K, cl⟩ n g)) (hr : Room k X.A) (hg : Gl X x) (hm : X.mg x = some (.ref f)) (hk : PySem.W.keepIn X.K (.ref f) = true) (hb : Binds X.K fd ps ds) (hd : Vals dvs ds) (hc : Closed dd dvs) (hx : Passes CX X E)
    (ha : PA X (e :: es) (tA ⟨X.K, cl⟩ E ga)) (hdb : (x == ("__debug__" : Str)) = false := by decide) (he : starEach (e :: es) X.env = (false, eval e X.env) :: starEach es X.env := by rfl) (hpl : (backTo pos (starEach es X.env)).any (·.1) = false := by rfl) :
    PE X (.Call (.Name x p) (e :: es) [] pos) (tE ⟨X.K, cl⟩ E (mFun n g dd ga)) := pe_imp (pe_call F hr hg hm hk hb hd hx ha hdb he hpl) (fun_reads (E' := E) hc)
theorem sn_call0 (F : FnOk X.prog X.w X.K X.mg X.base CX k f fd ps (spOf ⟨X.K, cl⟩ n g)) (hr : Room k X.A) (hg : Gl X x) (hm : X.mg x = some (.ref f)) (hk : PySem.W.keepIn X.K (.ref f) = true) (hb : Binds X.K fd ps ds) (hd : Vals dvs ds) (hc : Closed dd dvs) (hx : Passes CX X E)
    (hdb : (x == ("__debug__" : Str)) = false := by decide) : PE X (.Call (.Name x p) [] [] pos) (tE ⟨X.K, cl⟩ E (mFun n g dd aNil)) := pe_imp (pe_call0 F hr hg hm hk hb hd hx hdb) fun σ H Q h => by
  obtain ⟨W, env, M, s, p⟩ := h
  have p' : PR ⟨X.K, cl⟩ W H (PV ⟨X.K, cl⟩ Q) E (if ([] ++ dd).length = n then g ([] ++ dd) M else .no) := p
  split at p'
  · rename_i hl
    exact ⟨W, M, [] ++ dd, s.mem, hc _ _ _, hl, p'⟩
  · exact p'.elim
/-- keywords only behind the positional ones: the model's order is given by π (indices into the written ones and the defaults) -/
def mFunK (n : Nat) (g : FD) (gd : List D → List D → List D) (fa fk : FA) : FE := fun env M => (fa env M).bind fun ds m => (fk env m).bind fun zs m2 => if (gd ds zs).length = n then g (gd ds zs) m2 else .no
end
/-! ### a def's body and its model -/
def envStart (N : Nat) (ds : List D) : Env := ds.map some ++ List.replicate (N - ds.length) none
/-- rb, a body's run, does what rg tells -/
def Ref (M : Mem) (rg : R D) (rb : R Flow) : Prop := ∀ (G : Gx) (W : Wd) (H : Hp) (Q : VK) (E : XK), MemOk G W H M → PR G W H (PV G Q) E rg → PR G W H (PFl G { nx := fun _ H' => Q .non H', rt := Q }) E rb
theorem Ref.no {M : Mem} {rb : R Flow} : Ref M .no rb := fun _ _ _ _ _ _ h => h.elim
theorem Ref.ret {M m : Mem} {d : D} : Ref M (.ok d m) (.ok (.rt d) m) := fun _ _ _ _ _ _ h => h
theorem Ref.nx {M m : Mem} {env : Env} : Ref M (.ok .non m) (.ok (.nx env) m) := fun _ _ _ _ _ _ h => fun W' H' f m' σ' _ => h W' H' f m' .non rfl
theorem Ref.ex {M m : Mem} {c : Nat} {fs : List (Str × D)} : Ref M (.ex c fs m) (.ex c fs m) := fun _ _ _ _ _ _ h => h
theorem Ref.of {M : Mem} {rg : R D} {rb rb' : R Flow} (e : rb = rb') (h : Ref M rg rb') : Ref M rg rb := by rw [e]; exact h
theorem envStart_ok {N : List Str} {ds : List D} {vs : List V} (r : RpL G W H ds vs) : EnvOk G W H (envStart N.length ds) (L2.start N vs) := by
  unfold envStart L2.start
  rw [r.len]
  refine ⟨by simp [r.len], fun i d e => ?_⟩
  by_cases hi : i < ds.length
  · rw [List.getElem?_append_left (by simpa using hi), List.getElem?_map] at e
    cases q : ds[i]? with
    | none => rw [q] at e; cases e
    | some d' =>
      rw [q] at e; cases e
      obtain ⟨u, h1, h2⟩ := r.get q
      refine ⟨u, ?_, h2⟩
      rw [List.getElem?_append_left (by simp [r.len]; exact hi), List.getElem?_map, h1]
      rfl
  · rw [List.getElem?_append_right (by simp; omega), List.getElem?_replicate] at e
    split at e <;> cases e
/-- a def's model: its body's run -/
def runB (B : FS) (N : Nat) : FD := fun ds M => match B (envStart N ds) M with
  | .ok (.rt d) m => .ok d m
  | .ok (.nx _) m => .ok .non m
  | .ok _ _ => .no
  | .ex c fs m => .ex c fs m
  | .no => .no
theorem ref_run (B : FS) (N : Nat) (ds : List D) (M : Mem) : Ref M (runB B N ds M) (B (envStart N ds) M) := by
  unfold runB
  split
  · rename_i e; exact Ref.of e Ref.ret
  · rename_i e; exact Ref.of e Ref.nx
  · exact Ref.no
  · rename_i e; exact Ref.of e Ref.ex
  · exact Ref.no
/-! ### what a call leaves behind is forgotten -/
mutual
def bdD (n : Nat) : D → Bool
  | .ref i => decide (i < n)
  | .tup l => bdL n l
  | .lst l => bdL n l
  | .fz l => bdL n l
  | _ => true
def bdL (n : Nat) : List D → Bool
  | [] => true
  | d :: r => bdD n d && bdL n r
end
def bdC (n : Nat) : Cell → Bool
  | .lst l => bdL n l
  | .dk _ kvs => bdL n (kvs.map (·.2))
  | .dt _ kvs => bdL n (kvs.map (·.2))
  | .ins _ fs => bdL n (fs.map (·.2))
mutual
def frzD (m : Mem) (n : Nat) : D → D
  | .ref i => if i < n then .ref i else match m[i]? with
    | some (.lst l) => .lst l
    | _ => .ref i
  | .tup l => .tup (frzL m n l)
  | .lst l => .lst (frzL m n l)
  | .fz l => .fz (frzL m n l)
  | d => d
def frzL (m : Mem) (n : Nat) : List D → List D
  | [] => []
  | d :: r => frzD m n d :: frzL m n r
end
/-- may the memory be cut to its first cells -/
def cutOk (M m : Mem) (d : D) : Prop := M.length ≤ m.length ∧ bdD M.length d = true ∧ ∀ (j : Nat) (c : Cell), j < M.length → m[j]? = some c → M[j]? = some c ∨ bdC M.length c = true
open Classical in
noncomputable def gcR (M : Mem) (r : R D) : R D := match r with
  | .ok d m => if cutOk M m (frzD m M.length d) then .ok (frzD m M.length d) (m.take M.length) else .ok d m
  | r => r
noncomputable def gcB (B : FS) (N : Nat) : FD := fun ds M => gcR M (runB B N ds M)
mutual
theorem Rp.bd {n : Nat} (hn : n = W.as.length) : ∀ (d : D) (u : V), Rp G W H d u → bdD n d = true
  | .non, u, h => rfl
  | .bl b, u, h => rfl
  | .int i, u, h => rfl
  | .str x, u, h => rfl
  | .tup l, u, h => by obtain ⟨a, us, e, s, r⟩ := h; exact RpL.bd hn l us r
  | .lst l, u, h => by obtain ⟨a, us, e, s, r⟩ := h; exact RpL.bd hn l us r
  | .fz l, u, h => by obtain ⟨a, us, e, s, r⟩ := h; exact RpL.bd hn l us r
  | .ref i, u, h => by
    obtain ⟨a, e, r⟩ := h
    simp only [bdD, decide_eq_true_eq, hn]
    exact (List.getElem?_eq_some_iff.mp e).1
theorem RpL.bd {n : Nat} (hn : n = W.as.length) : ∀ (l : List D) (us : List V), RpL G W H l us → bdL n l = true
  | [], us, h => rfl
  | d :: r, us, h => by
    obtain ⟨u, us', e, h1, h2⟩ := h
    simp only [bdL, Rp.bd hn d u h1, RpL.bd hn r us' h2, Bool.and_self]
end
/-- the world cut to its first cells -/
def cutW (W : Wd) (n : Nat) : Wd := ⟨W.as.take n, W.hd⟩
theorem mem_take {α : Type} {l : List α} {n : Nat} {a : α} (h : a ∈ l.take n) : a ∈ l := List.mem_of_mem_take h
mutual
theorem Rp.trim {n : Nat} (hn : n ≤ W.as.length) : ∀ (d : D) (u : V), bdD n d = true → Rp G W H d u → Rp G (cutW W n) H d u
  | .non, u, b, h => h
  | .bl _, u, b, h => h
  | .int i, u, b, h => h
  | .str x, u, b, h => h
  | .tup l, u, b, h => by obtain ⟨a, us, e, s, r⟩ := h; exact ⟨a, us, e, s, RpL.trim hn l us b r⟩
  | .lst l, u, b, h => by obtain ⟨a, us, e, s, r⟩ := h; exact ⟨a, us, e, ⟨s.1, fun z => s.2.1 (mem_take z), s.2.2⟩, RpL.trim hn l us b r⟩
  | .fz l, u, b, h => by obtain ⟨a, us, e, s, r⟩ := h; exact ⟨a, us, e, s, RpL.trim hn l us b r⟩
  | .ref i, u, b, h => by
    obtain ⟨a, e, r⟩ := h
    refine ⟨a, ?_, r⟩
    simp only [bdD, decide_eq_true_eq] at b
    show (W.as.take n)[i]? = some a
    rw [List.getElem?_take, if_pos b]
    exact e
theorem RpL.trim {n : Nat} (hn : n ≤ W.as.length) : ∀ (l : List D) (us : List V), bdL n l = true → RpL G W H l us → RpL G (cutW W n) H l us
  | [], us, b, h => h
  | d :: r, us, b, h => by
    obtain ⟨u, us', e, h1, h2⟩ := h
    simp only [bdL, Bool.and_eq_true] at b
    exact ⟨u, us', e, Rp.trim hn d u b.1 h1, RpL.trim hn r us' b.2 h2⟩
end
mutual
theorem Rp.frz {m : Mem} {n : Nat} (k : MemOk G W H m) (hn : n ≤ W.as.length) : ∀ (d : D) (u : V), bdD n (frzD m n d) = true → Rp G W H d u → Rp G (cutW W n) H (frzD m n d) u
  | .non, u, b, h => h
  | .bl _, u, b, h => h
  | .int i, u, b, h => h
  | .str x, u, b, h => h
  | .tup l, u, b, h => by obtain ⟨a, us, e, s, r⟩ := h; exact ⟨a, us, e, s.imp id fun z => ⟨by rw [z.1]; rfl, z.2⟩, RpL.frz k hn l us b r⟩
  | .lst l, u, b, h => by obtain ⟨a, us, e, s, r⟩ := h; exact ⟨a, us, e, ⟨s.1, fun z => s.2.1 (mem_take z), s.2.2⟩, RpL.frz k hn l us b r⟩
  | .fz l, u, b, h => by obtain ⟨a, us, e, s, r⟩ := h; exact ⟨a, us, e, s, RpL.frz k hn l us b r⟩
  | .ref i, u, b, h => by
    simp only [frzD] at b ⊢
    split at b
    · rename_i hi
      rw [if_pos hi]
      exact Rp.trim hn (.ref i) u (by simp only [bdD, decide_eq_true_eq]; exact hi) h
    · rename_i hi
      rw [if_neg hi]
      split at b
      · rename_i l hc
        obtain ⟨a, e, rfl⟩ := h
        obtain ⟨us, h1, h2⟩ := k.cell i _ a hc e
        refine ⟨a, us, rfl, ⟨h1, fun z => ?_, k.apart a (List.mem_of_getElem? e)⟩, RpL.trim hn l us b h2⟩
        obtain ⟨j, hj⟩ := List.getElem?_of_mem z
        have hj' : (W.as.take n)[j]? = some a := hj
        rw [List.getElem?_take] at hj'
        split at hj'
        · rename_i hjn
          have := (List.getElem?_inj (List.getElem?_eq_some_iff.mp hj').1 k.nd).mp (hj'.trans e.symm)
          omega
        · cases hj'
      · simp only [bdD, decide_eq_true_eq] at b
        exact absurd b hi
theorem RpL.frz {m : Mem} {n : Nat} (k : MemOk G W H m) (hn : n ≤ W.as.length) : ∀ (l : List D) (us : List V), bdL n (frzL m n l) = true → RpL G W H l us → RpL G (cutW W n) H (frzL m n l) us
  | [], us, b, h => h
  | d :: r, us, b, h => by
    obtain ⟨u, us', e, h1, h2⟩ := h
    simp only [frzL, bdL, Bool.and_eq_true] at b
    exact ⟨u, us', e, Rp.frz k hn d u b.1 h1, RpL.frz k hn r us' b.2 h2⟩
end
theorem rpk_vals {κ κ' : Type} {f : κ → κ'} : ∀ {l : List (κ × D)} {vs : List (κ' × V)}, RpK G W H f l vs → RpL G W H (l.map (·.2)) (vs.map (·.2))
  | _, _, .nil => (rfl : ([] : List V) = [])
  | _, _, .cons h t => ⟨_, _, rfl, h.2, rpk_vals t⟩
theorem CellOk.bd {n : Nat} (hn : n = W.as.length) {a : Addr} {c : Cell} (h : CellOk G W H a c) : bdC n c = true := by
  cases c with
  | lst l => obtain ⟨us, _, r⟩ := h; exact RpL.bd hn l us r
  | dk lk kvs => obtain ⟨us, _, r⟩ := h; exact RpL.bd hn _ _ (rpk_vals r)
  | dt lk kvs => obtain ⟨us, _, r⟩ := h; exact RpL.bd hn _ _ (rpk_vals r)
  | ins c0 fs => obtain ⟨dx, us, _, r⟩ := h; exact RpL.bd hn _ _ (rpk_vals r)
theorem rpk_cut {n : Nat} (hn : n ≤ W.as.length) {κ κ' : Type} {f : κ → κ'} : ∀ {l : List (κ × D)} {vs : List (κ' × V)}, bdL n (l.map (·.2)) = true → RpK G W H f l vs → RpK G (cutW W n) H f l vs
  | _, _, _, .nil => .nil
  | _, _, b, .cons h t => by
    simp only [List.map_cons, bdL, Bool.and_eq_true] at b
    exact .cons ⟨h.1, Rp.trim hn _ _ b.1 h.2⟩ (rpk_cut hn b.2 t)
theorem CellOk.trim {n : Nat} (hn : n ≤ W.as.length) {a : Addr} {c : Cell} (b : bdC n c = true) (h : CellOk G W H a c) : CellOk G (cutW W n) H a c := by
  cases c with
  | lst l => obtain ⟨us, q, r⟩ := h; exact ⟨us, q, RpL.trim hn l us b r⟩
  | dk lk kvs => obtain ⟨us, q, r⟩ := h; exact ⟨us, q, rpk_cut hn b r⟩
  | dt lk kvs => obtain ⟨us, q, r⟩ := h; exact ⟨us, q, rpk_cut hn b r⟩
  | ins c0 fs => obtain ⟨dx, us, q, r⟩ := h; exact ⟨dx, us, q, rpk_cut hn b r⟩
theorem MemOk.bd (k : MemOk G W H M) {j : Nat} {c : Cell} (h : M[j]? = some c) : bdC M.length c = true := by
  have hl : j < W.as.length := by rw [k.len]; exact (List.getElem?_eq_some_iff.mp h).1
  exact (k.cell j c _ h (List.getElem?_eq_getElem hl)).bd k.len.symm
theorem MemOk.trim {m : Mem} (k0 : MemOk G W H M) {W' : Wd} {H' : Hp} (k : MemOk G W' H' m) (hl : M.length ≤ m.length) (hb : ∀ (j : Nat) (c : Cell), j < M.length → m[j]? = some c → M[j]? = some c ∨ bdC M.length c = true) : MemOk G (cutW W' M.length) H' (m.take M.length) where
  len := by
    show (W'.as.take M.length).length = _
    rw [List.length_take, List.length_take, k.len]
  nd := k.nd.sublist (List.take_sublist ..)
  cell := fun i c a e1 e2 => by
    have e2' : (W'.as.take M.length)[i]? = some a := e2
    rw [List.getElem?_take] at e1 e2'
    split at e1
    · rename_i hi
      rw [if_pos hi] at e2'
      have hn : M.length ≤ W'.as.length := by rw [k.len]; exact hl
      refine (k.cell i c a e1 e2').trim hn ?_
      rcases hb i c hi e1 with z | z
      · exact k0.bd z
      · exact z
    · cases e1
  apart := fun a ha => k.apart a (mem_take ha)
  hid := k.hid
theorem Fut.trim {W' : Wd} {H' : Hp} (k0 : MemOk G W H M) (f : Fut W H W' H') : Fut W H (cutW W' M.length) H' := by
  refine ⟨⟨[], ?_, by simp⟩, f.hd, f.keep⟩
  obtain ⟨nw, e, _⟩ := f.ext
  show W'.as.take M.length = _
  rw [e, ← k0.len, List.append_nil, List.take_left']
  rfl
theorem ref_gc (B : FS) (N : Nat) (ds : List D) (M : Mem) : Ref M (gcB B N ds M) (B (envStart N ds) M) := by
  intro G W H Q E m p
  refine ref_run B N ds M G W H Q E m ?_
  unfold gcB at p
  cases hr : runB B N ds M with
  | ex c fs m' => rw [hr] at p; exact p
  | no => rw [hr] at p; exact p
  | ok d m' =>
    rw [hr] at p
    simp only [gcR] at p
    split at p
    · rename_i hc
      refine fun W' H' f k u ru => p (cutW W' M.length) H' (Fut.trim m f) (MemOk.trim m k hc.1 hc.2.2) u ?_
      exact Rp.frz k (by rw [k.len]; exact hc.1) d u hc.2.1 ru
    · exact p
/-- the usual ends: cells ahead as they were, or one written -/
theorem cut_id {M junk : Mem} {d : D} (hd : bdD M.length d = true) : cutOk M (M ++ junk) d := ⟨by simp, hd, fun j c hj e => .inl (by rw [List.getElem?_append_left hj] at e; exact e)⟩
theorem cut_set {M junk : Mem} {d : D} {i : Nat} {c : Cell} (hd : bdD M.length d = true) (hc : bdC M.length c = true) : cutOk M (M.set i c ++ junk) d := ⟨by simp, hd, fun j c' hj e => by
  rw [List.getElem?_append_left (by simpa using hj)] at e
  by_cases hij : i = j
  · subst hij
    rw [List.getElem?_set_self hj] at e
    cases e
    exact .inr hc
  · rw [List.getElem?_set_ne hij] at e
    exact .inl e⟩
section
variable {P : Program} {w : World} {K : PySem.W.Frag} {mg : Str → Option Value} {base : Heap}
/-- THE RULE: a def's body by its model, the model by what is said of it -/
theorem fn_def {x qual : Str} {st : Stmt} {f : Addr} {fd : FuncData} {N ps : List Str} {k : Nat} {g : FD} {B : FS} {cl : Nat → Addr} (F : Fun K x qual st f fd) (S : FnScope N ps (defScope st))
    (hbody : ∀ (cdv : Value) (A : Around) (outer : List PySem.Env) (s : Shared) (H : Hp) (E : XK), Room k (A.deeper (envOfC qual (defScope st) s.heap.objs.size f cdv)) →
      PSs (cxOf CX0 P w K mg base N qual (defScope st) f cdv A outer s H E).nox (defBody st) (tS ⟨K, cl⟩ E B))
    (href : ∀ ds M, ds.length = ps.length → Ref M (g ds M) (B (envStart N.length ds) M)) : FnOk P w K mg base CX0 (k + 1) f fd ps (spOf ⟨K, cl⟩ ps.length g) := by
  refine F.ok S (fun vs H Q E ⟨W, M, ds, m, r, hl, _⟩ => by rw [r.len, hl]) fun cdv A outer s H vs Q E hr ⟨W, M, ds, m, r, hl, p⟩ => ?_
  exact ⟨_, hbody cdv A outer s H E hr, W, envStart N.length ds, M, ⟨m, envStart_ok r⟩, href ds M hl _ W H Q E m p⟩
end
end
end Fn

set_option Elab.async false
set_option linter.all false
set_option maxRecDepth 100000
set_option maxHeartbeats 1000000
/-! FnAll: the rules in the form that gen.py prints; keywords; sorted; the end. -/
namespace Fn
open PySem PySem.Spec PyProof.Rows L2
section
variable {X : Cx} {G : Gx} {cl : Nat → Addr} {E : XK} {W : Wd} {H : Hp} {M : Mem} {a b c : Expr} {fa fb fc : FE} {pos : Pos}
theorem huE {k : Nat} {A : Around} (hr : Room k A) : A.units + 64 < cLine := hr.units
theorem hu1E {k : Nat} {A : Around} (hr : Room k A) : A.units + 65 < cLine := by have := hr.un; omega
theorem sn_strL {x : Str} {l : List Nat} {j : Nat} (h : s2l x = l) : PE X (.Constant (.str x) j pos) (tE G E (mC (.str l))) := by subst h; exact sn_str
theorem sn_glob {x : Str} {v : V} {u : Value} {d : D} (hg : Gl X x) (hm : X.mg x = some u) (r : RelV v u) (hc : ∀ W H, Rp G W H d v) (hd : (x == ("__debug__" : Str)) = false := by decide) : PE X (.Name x pos) (tE G E (mC d)) :=
  pe_imp (pe_glob hg hm r hd) fun σ H Q ⟨W, env, M, s, p⟩ => p W H Fut.rfl' s.mem _ (hc W H)
section
variable {id T : String} {r : List V → Hp → VK → Prop} {o : List D → Mem → R D} {x : Str} {p : Pos} {e : Expr} {es : List Expr} {g : FA}
theorem sn_callB (hc : CallR X (.builtin id) r) (hs : Fn1 ⟨X.K, cl⟩ E r o) (hg : Gl X x) (hm : X.mg x = none) (hv : bootBuiltins x = some (.builtin id)) (ha : PA X (e :: es) (tA ⟨X.K, cl⟩ E g)) (hn : x ≠ "__name__" := by decide) (hdb : (x == ("__debug__" : Str)) = false := by decide)
    (he : starEach (e :: es) X.env = (false, eval e X.env) :: starEach es X.env := by rfl) (hpl : (backTo pos (starEach es X.env)).any (·.1) = false := by rfl) : PE X (.Call (.Name x p) (e :: es) [] pos) (tE ⟨X.K, cl⟩ E (mCall o g)) :=
  pe_imp (pe_callB hc hg hm hv ha hn hdb he hpl) (tE_call hs)
theorem sn_callTy (hc : CallR X (.type T) r) (hs : Fn1 ⟨X.K, cl⟩ E r o) (hg : Gl X x) (hm : X.mg x = none) (hv : bootBuiltins x = some (.type T)) (ha : PA X (e :: es) (tA ⟨X.K, cl⟩ E g)) (hn : x ≠ "__name__" := by decide) (hdb : (x == ("__debug__" : Str)) = false := by decide)
    (he : starEach (e :: es) X.env = (false, eval e X.env) :: starEach es X.env := by rfl) (hpl : (backTo pos (starEach es X.env)).any (·.1) = false := by rfl) : PE X (.Call (.Name x p) (e :: es) [] pos) (tE ⟨X.K, cl⟩ E (mCall o g)) :=
  pe_imp (pe_callTy hc hg hm hv ha hn hdb he hpl) (tE_call hs)
end
section
variable {id T : String} {r : V → List V → Hp → VK → Prop} {o : D → List D → Mem → R D} {name : Str} {apos cpos : Pos} {rc e : Expr} {es : List Expr} {f : FE} {g : FA}
theorem sn_meth (pa : PlainAttrs T) (slot : Slot T name id) (hty : typeOf (.builtin id) = pure (.type "method_descriptor")) (hm : MtR X id r) (hs : Mt1 ⟨X.K, cl⟩ E r o) (ho : PE X rc (tE ⟨X.K, cl⟩ E f)) (ha : PA X (e :: es) (tA ⟨X.K, cl⟩ E g))
    (hbase : attributeBase rc name X.env (eval rc X.env) = eval rc X.env := by rfl)
    (hfew : ((backTo cpos (starEach (e :: es) X.env)).all (fun x => !x.1) && (backToKw cpos (keywordEach [] X.env)).all (fun x => x.1.isSome)
      && decide ((e :: es).length + ([] : List Keyword).length + (if ([] : List Keyword).isEmpty then 0 else 1) < 30)) = true := by rfl)
    (hline : (apos.endLine == cpos.line) = true := by rfl) (hs1 : starEach (e :: es) X.env = (false, eval e X.env) :: starEach es X.env := by rfl) (hplain : (backTo cpos (starEach es X.env)).any (·.1) = false := by rfl) :
    PE X (.Call (.Attribute rc name apos) (e :: es) [] cpos) (tE ⟨X.K, cl⟩ E (mMeth T o f g)) := pe_imp (pe_bm pa slot hty hm ho ha hbase hfew hline hs1 hplain) (tE_meth hs)
theorem sn_meth0 (pa : PlainAttrs T) (slot : Slot T name id) (hty : typeOf (.builtin id) = pure (.type "method_descriptor")) (hm : MtR X id r) (hs : Mt1 ⟨X.K, cl⟩ E r o) (ho : PE X rc (tE ⟨X.K, cl⟩ E f))
    (hbase : attributeBase rc name X.env (eval rc X.env) = eval rc X.env := by rfl) (hline : (apos.endLine == cpos.line) = true := by rfl) :
    PE X (.Call (.Attribute rc name apos) [] [] cpos) (tE ⟨X.K, cl⟩ E (mMeth T o f aNil)) := pe_imp (pe_bm0 pa slot hty hm ho hbase hline) (tE_meth0 hs)
end
/-! ### comparisons as tests -/
theorem test_of {f : FE} {t : TE} (h : ∀ σ H Q, tE G E f σ H Q → t σ H Q) (σ : L2.St) (H : Hp) (Q : Bool → Hp → Prop) (q : tT G E (bOf f) σ H Q) : tTest t σ H Q := by
  obtain ⟨W, env, M, s, p⟩ := q
  refine h σ H _ (tE.bind s p fun d m W1 H1 u f1 s1 r1 p1 => ?_)
  cases d with
  | bl k => exact ⟨k, r1, p1.here s1.mem⟩
  | _ => exact p1.elim
theorem st_cmp {op : CmpOp} {r : R2} {o : D → D → Mem → R D} (ho : OpR X (compareOp op) r) (hs : Op2 G E r o) (hm : behindInMarks op b = false) (ha : PE X a (tE G E fa)) (hb : PE X b (tE G E fb)) : PT X (.Compare a [op] [b] pos) (tT G E (bOf (mOp o fa fb))) :=
  pt_imp (pt_cmpR ho ha hb hm) (test_of (tE_op hs))
theorem isN_reads {neg : Bool} (σ : L2.St) (H : Hp) (Q : VK) (h : tE G E (mUn (oIsN neg) fa) σ H Q) : tOp (fun x y H Q => y = .non ∧ Q (.bl (if neg = true then !decide (x = .non) else decide (x = .non))) H) (tE G E fa) (tC .non) σ H Q := by
  obtain ⟨W, env, M, s, p⟩ := h
  refine tE.bind s p fun d m W1 H1 u f1 s1 r1 p1 => ?_
  refine ⟨rfl, ?_⟩
  cases d with
  | non => cases r1; cases neg <;> exact p1.here s1.mem _ rfl
  | bl b => cases r1; cases neg <;> exact p1.here s1.mem _ rfl
  | int b => cases r1; cases neg <;> exact p1.here s1.mem _ rfl
  | str b => cases r1; cases neg <;> exact p1.here s1.mem _ rfl
  | tup l => obtain ⟨a, us, e1, _⟩ := r1; subst e1; cases neg <;> exact p1.here s1.mem _ rfl
  | lst l => obtain ⟨a, us, e1, _⟩ := r1; subst e1; cases neg <;> exact p1.here s1.mem _ rfl
  | fz l => obtain ⟨a, us, e1, _⟩ := r1; subst e1; cases neg <;> exact p1.here s1.mem _ rfl
  | ref l => obtain ⟨a, us, e1⟩ := r1; subst e1; cases neg <;> exact p1.here s1.mem _ rfl
theorem st_isN {i pos2} (ha : PE X a (tE G E fa)) : PT X (.Compare a [.Is] [.Constant .none i pos2] pos) (tT G E (bOf (mUn (oIsN false) fa))) := pt_imp (pt_cmpR op_isN ha pe_non (nomark _)) (test_of fun σ H Q h => isN_reads (neg := false) σ H Q h)
theorem st_notN {i pos2} (ha : PE X a (tE G E fa)) : PT X (.Compare a [.IsNot] [.Constant .none i pos2] pos) (tT G E (bOf (mUn (oIsN true) fa))) := pt_imp (pt_cmpR op_notN ha pe_non (nomark _)) (test_of fun σ H Q h => isN_reads (neg := true) σ H Q h)
/-! ### keywords -/
theorem pk_imp {kws : List Keyword} {t t' : TA} (h : PK X kws t) (i : ∀ σ H Q, t' σ H Q → t σ H Q) : PK X kws t' := ⟨fun pos pins s σ H Q I q => h.run pos pins s σ H Q I (i σ H Q q)⟩
theorem sk_nil : PK X [] (tA G E aNil) := pk_imp pk_nil fun σ H Q ⟨W, env, M, s, p⟩ => p.here s.mem _ rfl
theorem sk_cons {kws : List Keyword} {g : FA} {nm : Option Str} {kpos : Pos} (ha : PE X a (tE G E fa)) (hr : PK X kws (tA G E g)) : PK X (⟨nm, a, kpos⟩ :: kws) (tA G E (aCons fa g)) := pk_imp (pk_cons ha hr) fun σ H Q ⟨W, env, M, s, p⟩ => by
  refine tE.bind s p fun d m W1 H1 u f1 s1 r1 p1 => ?_
  refine tA.bind s1 p1 fun ds m2 W2 H2 us f2 s2 r2 p2 => ?_
  exact p2.here s2.mem _ ⟨u, us, rfl, s1.mem.rp f2 r1, r2⟩
/-- the parameters from the positional ones and the keywords' values: pi over any values -/
structure Perm2 where
  on : {α : Type} → List α → List α → List α
def piApp : Perm2 := ⟨fun ds zs => ds ++ zs⟩
structure KwB (K : PySem.W.Frag) (fd : FuncData) (ps : List Str) (n : Nat) (ks : List Str) (π : Perm2) (dd : List D) (dvs : List V) : Prop where
  kb : ∃ (g : List Value → List Value → List Value) (gV : List V → List V → List V), KBn K fd ps n ks g gV ∧ ∀ (G : Gx) (W : Wd) (H : Hp) (ds zs : List D) (vs ws : List V), RpL G W H ds vs → RpL G W H zs ws → RpL G W H (π.on ds (zs ++ dd)) (gV vs ws)
def mFunKw (n m np : Nat) (π : Perm2) (dd : List D) (g : FD) (fa fk : FA) : FE := fun env M => (fa env M).bind fun ds m1 => (fk env m1).bind fun zs m2 => if ds.length = n ∧ zs.length = m ∧ (π.on ds (zs ++ dd)).length = np then g (π.on ds (zs ++ dd)) m2 else .no
section
variable {CX : CXT} {k n np nk : Nat} {f : Addr} {fd : FuncData} {ps ks : List Str} {g : FD} {dvs : List V} {dd : List D} {π : Perm2} {x : Str} {p : Pos} {e : Expr} {es : List Expr} {kws : List Keyword} {ga gk : FA}
theorem pe_callN0 {sp : Sp} {tk : TA} {gg : List Value → List Value → List Value} {gV : List V → List V → List V} (F : FnOk X.prog X.w X.K X.mg X.base CX k f fd ps sp) (hr : Room k X.A) (hg : Gl X x) (hm : X.mg x = some (.ref f)) (hk : PySem.W.keepIn X.K (.ref f) = true) (hb : KBn X.K fd ps 0 ks gg gV) (hx : Passes CX X E)
    (hkw : PK X kws tk) (hall : (backToKw pos (keywordEach kws X.env)).all (·.1.isSome) = true := by rfl) (hks : (backToKw pos (keywordEach kws X.env)).filterMap (·.1) = ks := by rfl)
    (hdb : (x == ("__debug__" : Str)) = false := by decide)
    (hpl : ((backTo pos (starEach [] X.env)).any (·.1) || (backToKw pos (keywordEach kws X.env)).any (·.1.isNone)) = false := by rfl) :
    PE X (.Call (.Name x p) [] kws pos) (tCallN 0 ks.length sp gV E tNil tk) := by
  refine ⟨fun pins s σ H Q I h => ?_⟩
  refine wpAny_Call_Name_kw (ld_glob I hg hm ?_ hdb)
  refine PySem.W.callWith_KW0 (h₀ := X.base) I.ok.mod.kin hk hall ?_ hpl
  refine thn (hkw.run pos pins s σ H _ I h) fun ws s2 ⟨zs, H2, I2, rz, l1, l2, q2⟩ => ⟨I2.kIn, ?_⟩
  rw [hks]
  exact run_fnN (us := []) (vs := []) F hr hb hx I2 .nil rz rfl l2 q2
theorem sn_callKw0 (F : FnOk X.prog X.w X.K X.mg X.base CX k f fd ps (spOf ⟨X.K, cl⟩ np g)) (hr : Room k X.A) (hg : Gl X x) (hm : X.mg x = some (.ref f)) (hk : PySem.W.keepIn X.K (.ref f) = true) (hb : KwB X.K fd ps 0 ks π dd dvs) (hx : Passes CX X E)
    (hkw : PK X kws (tA ⟨X.K, cl⟩ E gk)) (hall : (backToKw pos (keywordEach kws X.env)).all (·.1.isSome) = true := by rfl) (hks : (backToKw pos (keywordEach kws X.env)).filterMap (·.1) = ks := by rfl)
    (hdb : (x == ("__debug__" : Str)) = false := by decide)
    (hpl : ((backTo pos (starEach [] X.env)).any (·.1) || (backToKw pos (keywordEach kws X.env)).any (·.1.isNone)) = false := by rfl) (hkn : ks.length = nk := by rfl) :
    PE X (.Call (.Name x p) [] kws pos) (tE ⟨X.K, cl⟩ E (mFunKw 0 nk np π dd g aNil gk)) := by
  subst hkn
  obtain ⟨gg, gV, hb1, hb2⟩ := hb.kb
  refine pe_imp (pe_callN0 F hr hg hm hk hb1 hx hkw hall hks hdb hpl) fun σ H Q ⟨W, env, M, s, p⟩ => ?_
  have p' : PR ⟨X.K, cl⟩ W H (PV ⟨X.K, cl⟩ Q) E ((gk env M).bind fun zs m2 => if 0 = 0 ∧ zs.length = ks.length ∧ (π.on [] (zs ++ dd)).length = np then g (π.on [] (zs ++ dd)) m2 else .no) := p
  show tA ⟨X.K, cl⟩ E gk σ H _
  refine tA.bind s p' fun zs m2 W2 H2 us f2 s2 r2 p2 => ?_
  split at p2
  · rename_i hl
    exact ⟨rfl, by rw [r2.len, hl.2.1], W2, m2, _, s2.mem, hb2 ⟨X.K, cl⟩ W2 H2 [] zs [] us (rfl : ([] : List V) = []) r2, hl.2.2, p2⟩
  · exact p2.elim
theorem sn_callKw (F : FnOk X.prog X.w X.K X.mg X.base CX k f fd ps (spOf ⟨X.K, cl⟩ np g)) (hr : Room k X.A) (hg : Gl X x) (hm : X.mg x = some (.ref f)) (hk : PySem.W.keepIn X.K (.ref f) = true) (hb : KwB X.K fd ps n ks π dd dvs) (hx : Passes CX X E)
    (ha : PA X (e :: es) (tA ⟨X.K, cl⟩ E ga)) (hkw : PK X kws (tA ⟨X.K, cl⟩ E gk)) (hall : (backToKw pos (keywordEach kws X.env)).all (·.1.isSome) = true := by rfl) (hks : (backToKw pos (keywordEach kws X.env)).filterMap (·.1) = ks := by rfl)
    (hdb : (x == ("__debug__" : Str)) = false := by decide) (he : starEach (e :: es) X.env = (false, eval e X.env) :: starEach es X.env := by rfl)
    (hpl : ((backTo pos (starEach (e :: es) X.env)).any (·.1) || (backToKw pos (keywordEach kws X.env)).any (·.1.isNone)) = false := by rfl) (hkn : ks.length = nk := by rfl) :
    PE X (.Call (.Name x p) (e :: es) kws pos) (tE ⟨X.K, cl⟩ E (mFunKw n nk np π dd g ga gk)) := by
  subst hkn
  obtain ⟨gg, gV, hb1, hb2⟩ := hb.kb
  refine pe_imp (pe_callN F hr hg hm hk hb1 hx ha hkw hall hks hdb he hpl) fun σ H Q ⟨W, env, M, s, p⟩ => ?_
  refine tA.bind s p fun ds m1 W1 H1 vs f1 s1 r1 p1 => ?_
  refine tA.bind s1 p1 fun zs m2 W2 H2 us f2 s2 r2 p2 => ?_
  split at p2
  · rename_i hl
    exact ⟨by rw [r1.len, hl.1], by rw [r2.len, hl.2.1], W2, m2, _, s2.mem, hb2 _ _ _ _ _ _ _ (s1.mem.rpL f2 r1) r2, hl.2.2, p2⟩
  · exact p2.elim
end
/-! ### the end -/
theorem law_end {K : PySem.W.Frag} {cl : Nat → Addr} {g : FD} (h : ∀ ns : List Int, ns.length ≤ 63 → ∃ m, g [.fz (ns.map .int)] [] = .ok (.bl true) m) {H : Hp} {a : Addr} {ns : List Int} (hl : ns.length ≤ 63) (ho : Only H) (hS : SqL K H a (ns.map V.int)) :
    spOf ⟨K, cl⟩ 1 g [.ref a] H (fun v _ => v = .bl true) fun _ _ _ => False := by
  obtain ⟨m, e⟩ := h ns hl
  have hints : ∀ ns : List Int, RpL ⟨K, cl⟩ ⟨[], []⟩ H (ns.map .int) (ns.map V.int) := fun ns => by
    induction ns with
    | nil => exact (rfl : ([] : List V) = [])
    | cons n r ih => exact ⟨_, _, rfl, rfl, ih⟩
  refine ⟨⟨[], []⟩, [], [.fz (ns.map .int)], ⟨rfl, List.nodup_nil, fun i c a e => by simp at e, by simp, by simp⟩, ⟨_, [], rfl, ⟨a, _, rfl, ?_, hints ns⟩, rfl⟩, rfl, ?_⟩
  · rcases hS with (h1 | ⟨o, h1⟩) | h1
    · rcases ho a with z | ⟨o, xs, z⟩
      · rw [h1] at z; cases z
      · rw [h1] at z; cases z
    · exact .inl ⟨o, h1⟩
    · exact .inr h1
  · rw [e]
    exact fun W' H' f m' u hu => hu
end
end Fn

set_option Elab.async false
set_option linter.all false
set_option maxRecDepth 100000
set_option maxHeartbeats 1000000
/-! FnData: sorted, count over data; three names stored at once. -/
namespace Fn
open PySem PySem.Spec PyProof.Rows L2
section
variable {X : Cx} {G : Gx} {cl : Nat → Addr} {E : XK} {W : Wd} {H : Hp} {M : Mem} {a b c : Expr} {fa fb fc : FE} {pos : Pos}
/-! ### sorted -/
def encD (d : D) : PyData := (pyD d).getD .none
def leD (a b : D) : Bool := PySem.W.dataLe false encD a b
def sortD (l : List D) : List D := l.mergeSort leD
def isTupD : D → Bool
  | .tup (_ :: _) => true
  | _ => false
def isOneD : D → Bool
  | .non => false
  | .tup _ => false
  | .ref _ => false
  | _ => true
/-- may these be sorted: all alike data, tuples with an item or no tuples -/
def sortOk (l : List D) : Prop := (∀ d ∈ l, (pyD d).isSome = true ∧ (encD d).depth ≤ 60) ∧ (∀ d ∈ l, ∀ d' ∈ l, PySem.W.alike (encD d) (encD d') = true) ∧ ((∀ d ∈ l, isTupD d = true) ∨ ∀ d ∈ l, isOneD d = true)
open Classical in
noncomputable def oSorted (c : Bool) : List D → Mem → R D
  | [d], M => match lstOf M d with
    | some l => if sortOk l then mkL c (sortD l) M else .no
    | none => .no
  | _, _ => .no
theorem eachIs_rp {h : Heap} : ∀ {ds : List D} {us : List V} {vs : List Value}, RpL G W H ds us → Vals us vs → PySem.W.EachIs (fun v d => ∃ u, Rp G W H d u ∧ RelV u v) vs ds
  | [], us, vs, r, k => by
    have : us = [] := r
    subst this
    cases k
    exact .nil
  | d :: r, us, vs, h1, k => by
    obtain ⟨u, us', e, h2, h3⟩ := h1
    subst e
    cases k with
    | cons k1 k2 => exact .cons ⟨u, h2, k1⟩ (eachIs_rp (h := h) h3 k2)
theorem eachIs_back : ∀ {ds : List D} {vs : List Value}, PySem.W.EachIs (fun v d => ∃ u, Rp G W H d u ∧ RelV u v) vs ds → ∃ us, RpL G W H ds us ∧ Vals us vs
  | _, _, .nil => ⟨[], (rfl : ([] : List V) = []), .nil⟩
  | _, _, .cons h t => by
    obtain ⟨u, h1, h2⟩ := h
    obtain ⟨us, h3, h4⟩ := eachIs_back t
    exact ⟨u :: us, ⟨u, us, rfl, h1, h3⟩, .cons h2 h4⟩
theorem eachIs_mono {α β : Type} {R R' : α → β → Prop} : ∀ {as : List α} {bs : List β}, PySem.W.EachIs R as bs → (∀ a b, b ∈ bs → R a b → R' a b) → PySem.W.EachIs R' as bs
  | _, _, .nil, _ => .nil
  | _, _, .cons h t, k => .cons (k _ _ (List.mem_cons_self ..) h) (eachIs_mono t fun a b hb => k a b (List.mem_cons_of_mem _ hb))
/-- sorted(xs) -/
def rSortD (G : Gx) : List V → Hp → VK → Prop := fun vs H Q => ∃ (W : Wd) (a : Addr) (us : List V) (ds : List D), vs = [V.ref a] ∧ SqL G.K H a us ∧ RpL G W H ds us ∧ sortOk ds ∧ ∀ us' p, RpL G W H (sortD ds) us' → H p = none → Q (.ref p) (upd H p (.lst us'))
theorem cr_sortedD (hu : X.A.units + 64 < cLine) : CallR X (.builtin "sorted") (rSortD ⟨X.K, cl⟩) := by
  intro pins s σ H vs us Q I r h
  obtain ⟨W, a, vs', ds, rfl, hs, hr, hk, q⟩ := h
  obtain ⟨its, rv, hl, hz⟩ := I.list hs
  rw [Vals.ref1 r]
  have e := eachIs_rp (h := s.heap) hr rv
  have er : PySem.W.EachIs (fun v d => ∃ as, Reads s.heap v (encD d) as) its ds := eachIs_mono e fun v d hd ⟨u, h1, h2⟩ => by
    obtain ⟨hp, _⟩ := hk.1 d hd
    cases hpd : pyD d with
    | none => rw [hpd] at hp; cases hp
    | some p =>
      have : encD d = p := by unfold encD; rw [hpd]; rfl
      rw [this]
      exact Dp.reads I p u v (pyD_ok h1 hpd) h2
  have hlen : its.length = ds.length := by rw [← rv.length, hr.len]
  have hL : ds.length ≤ sizeLine := by rw [← hr.len]; exact hz
  refine PySem.W.sorted_data hl.isList e er (fun p hp p' hp' => ?_) ?_ hL (fun d hd => ?_) fun out ho eo => ?_
  · obtain ⟨d, hd, rfl⟩ := List.mem_map.mp hp
    obtain ⟨d', hd', rfl⟩ := List.mem_map.mp hp'
    exact hk.2.1 d hd d' hd'
  · rcases hk.2.2 with z | z
    · refine .inl fun p hp => ?_
      obtain ⟨d, hd, rfl⟩ := List.mem_map.mp hp
      have h1 := z d hd
      have h2 := (hk.1 d hd).1
      cases d with
      | tup l =>
        cases l with
        | nil => cases h1
        | cons x r =>
          unfold encD
          cases hq : pyD (.tup (x :: r)) with
          | none => rw [hq] at h2; cases h2
          | some p =>
            simp only [pyD] at hq
            cases hq2 : pyL (x :: r) with
            | none => rw [hq2] at hq; cases hq
            | some ps =>
              rw [hq2] at hq; cases hq
              simp only [pyL] at hq2
              split at hq2
              · cases hq2; exact ⟨_, _, rfl⟩
              · cases hq2
      | _ => cases h1
    · refine .inr fun p hp => ?_
      obtain ⟨d, hd, rfl⟩ := List.mem_map.mp hp
      have h1 := z d hd
      have h2 := (hk.1 d hd).1
      cases d with
      | non => cases h1
      | tup l => cases h1
      | ref l => cases h1
      | bl b => exact ⟨(by intro z; cases z), (by intro xs z; cases z)⟩
      | int b => exact ⟨(by intro z; cases z), (by intro xs z; cases z)⟩
      | str b => exact ⟨(by intro z; cases z), (by intro xs z; cases z)⟩
      | lst l =>
        unfold encD
        simp only [pyD] at h2 ⊢
        cases hq2 : pyL l with
        | none => rw [hq2] at h2; cases h2
        | some ps => exact ⟨(by intro z; cases z), (by intro xs z; cases z)⟩
      | fz l =>
        unfold encD
        simp only [pyD] at h2 ⊢
        cases hq2 : pyL l with
        | none => rw [hq2] at h2; cases h2
        | some ps => exact ⟨(by intro z; cases z), (by intro xs z; cases z)⟩
  · have := (hk.1 d hd).2
    omega
  · obtain ⟨us', h1, h2⟩ := eachIs_back eo
    obtain ⟨ep, he'⟩ := PyProof.Rows.sortedAll_at s.heap its out.toArray
    have hlen' : us'.length ≤ sizeLine := by rw [h2.length, ho]; exact hL
    exact ⟨.ref _, upd H (s.heap.objs.size + 1) (.lst us'), I.laid (t' := s.toks) (fun _ _ => PyProof.Rows.sortedAll_old) (Nat.le_succ _) ⟨hlen', out, ep, h2, he'⟩, rfl, q us' _ h1 (I.hok.fresh (Nat.le_succ _))⟩
theorem fn_sorted {c : Bool} : Fn1 G E (rSortD G) (oSorted c) := fun W H M ds us Q m r p => by
  unfold oSorted at p
  split at p
  · obtain ⟨u, e1, r1⟩ := rp_one r
    subst e1
    split at p
    · rename_i l e1
      split at p
      · rename_i hk
        obtain ⟨a1, us, h1, h2, h3⟩ := lstOf_ok m r1 e1
        subst h1
        exact ⟨W, a1, us, l, rfl, h2, h3, hk, fun us' p' hr hp => mkL_new m p hr p' hp⟩
      · exact p.elim
    · exact p.elim
  · exact p.elim
theorem sortD_perm (l : List D) : (sortD l).Perm l := List.mergeSort_perm l leD
/-! ### three names at once -/
def mPar3 (i j l : Nat) (g : FA) : FS := fun env M => (g env M).bind fun ds m => match ds with
  | [d, d', d''] => .ok (.nx (((env.set i (some d)).set j (some d')).set l (some d''))) m
  | _ => .no
theorem ss_par3 {i j l : Nat} {x y z : Str} {g : FA} {px py pz pt : Pos} {kt k2 pt2} (hc : X.calm = true) (hN : X.N.Nodup) (hi : X.N[i]? = some x) (hj : X.N[j]? = some y) (hl : X.N[l]? = some z) (hij : i ≠ j) (hil : i ≠ l) (hjl : j ≠ l)
    (hx : X.env.scope.names.lookup x = some .local) (hy : X.env.scope.names.lookup y = some .local) (hz : X.env.scope.names.lookup z = some .local) (ha : PA X [a, b, c] (tA G E g))
    (hw : swappedStores [.Tuple [.Name x px, .Name y py, .Name z pz] kt pt] (.Tuple [a, b, c] k2 pt2) X.env = pure (some [x, y, z]))
    (hs : swapsWithSole [.Tuple [.Name x px, .Name y py, .Name z pz] kt pt] (.Tuple [a, b, c] k2 pt2) pos.line X.env = pure false := by rfl) :
    PS X (.Assign [.Tuple [.Name x px, .Name y py, .Name z pz] kt pt] (.Tuple [a, b, c] k2 pt2) pos) (tS G E (mPar3 i j l g)) := ps_imp (ps_par3 hc hN hi hj hl hij hil hjl hx hy hz ha hw hs) fun D σ H ⟨W, env, M, s, p⟩ => by
  refine tA.bind s p fun ds m W1 H1 us f1 s1 r1 p1 => ?_
  split at p1
  · obtain ⟨u, us', e1, r2, u', us2, e2, r3, u'', us3, e3, r4, r5⟩ := r1
    have : us3 = [] := r5
    subst this e3 e2 e1
    exact ⟨u, u', u'', rfl, p1.here s1.mem _ (((s1.env.set i r2).set j r3).set l r4)⟩
  · exact p1.elim
/-! ### x.count(e) of a tuple -/
def oCountT : D → D → Mem → R D
  | .tup l, d, M => match pyL l, pyD d with
    | some ps, some p => if min (PyData.depthAll ps) p.depth ≤ 60 then .ok (.int ((ps.countP fun y => PyData.eqv y p : Nat) : Int)) M else .no
    | _, _ => .no
  | _, _, _ => .no
end
end Fn

set_option Elab.async false
set_option linter.all false
set_option maxRecDepth 100000
set_option maxHeartbeats 4000000
/-! FnLaw: the helpers that the laws share: cells, flows, draws. -/
namespace Fn
open PySem PySem.Spec PyProof.Rows L2
/-! ### evaluation lemmas -/
section
variable {env : Env} {M : Mem}
theorem mVar_eq (i : Nat) : mVar i env M = match env[i]? with | some (some d) => .ok d M | _ => .no := rfl
theorem mC_eq (d : D) : mC d env M = .ok d M := rfl
theorem mOp_eq (o : D → D → Mem → R D) (fa fb : FE) : mOp o fa fb env M = (fa env M).bind fun a m => (fb env m).bind fun b m' => o a b m' := rfl
theorem mUn_eq (o : D → Mem → R D) (fa : FE) : mUn o fa env M = (fa env M).bind fun a m => o a m := rfl
theorem mSeq_eq (f g : FS) : mSeq f g env M = (f env M).bind fun fl m => match fl with | .nx env' => g env' m | fl => .ok fl m := rfl
theorem mSet_eq (i : Nat) (f : FE) : mSet i f env M = (f env M).bind fun d m => .ok (.nx (env.set i (some d))) m := rfl
theorem mRet_eq (f : FE) : mRet f env M = (f env M).bind fun d m => .ok (.rt d) m := rfl
theorem mExpr_eq (f : FE) : mExpr f env M = (f env M).bind fun _ m => .ok (.nx env) m := rfl
theorem mIfS_eq (c : FT) (f g : FS) : mIfS c f g env M = (c env M).bind fun b m => if b = true then f env m else g env m := rfl
theorem mPass_eq : mPass env M = .ok (.nx env) M := rfl
theorem mAsg_eq (f : FE) (g : FG) : mAsg f g env M = (f env M).bind fun d m => (g d env m).bind fun env' m' => .ok (.nx env') m' := rfl
theorem mCall_eq (o : List D → Mem → R D) (g : FA) : mCall o g env M = (g env M).bind o := rfl
theorem mFun_eq (n : Nat) (g : FD) (dd : List D) (fa : FA) : mFun n g dd fa env M = (fa env M).bind fun ds m => if (ds ++ dd).length = n then g (ds ++ dd) m else .no := rfl
theorem aNil_eq : aNil env M = .ok [] M := rfl
theorem aCons_eq (f : FE) (g : FA) : aCons f g env M = (f env M).bind fun d m => (g env m).bind fun ds m' => .ok (d :: ds) m' := rfl
theorem mTup_eq (g : FA) : mTup g env M = (g env M).bind fun ds m => if ds.length ≤ 16777216 then .ok (.tup ds) m else .no := rfl
theorem mLst_eq (c : Bool) (g : FA) : mLst c g env M = (g env M).bind fun ds m => if ds.length ≤ 16777216 then mkL c ds m else .no := rfl
theorem bOf_eq (f : FE) : bOf f env M = (f env M).bind fun d m => match d with | .bl b => .ok b m | _ => .no := rfl
theorem mkL_t (ds : List D) : mkL true ds M = .ok (.ref M.length) (M ++ [.lst ds]) := rfl
theorem mkL_f (ds : List D) : mkL false ds M = .ok (.lst ds) M := rfl
theorem mMeth_eq (T : String) (o : D → List D → Mem → R D) (f : FE) (g : FA) : mMeth T o f g env M = (f env M).bind fun a m => if tyOk T m a = true then (g env m).bind fun ds m' => o a ds m' else .no := rfl
theorem oIx_fz (l : List D) (i : Int) : oIx (.fz l) (.int i) M = match atI l i with | some d => .ok d M | none => .no := rfl
theorem oIx_lst (l : List D) (i : Int) : oIx (.lst l) (.int i) M = match atI l i with | some d => .ok d M | none => .no := rfl
theorem oIx_tup (l : List D) (i : Int) : oIx (.tup l) (.int i) M = match atI l i with | some d => .ok d M | none => .no := rfl
theorem oAdd_int (c : Bool) (i j : Int) : oAdd c (.int i) (.int j) M = .ok (.int (i + j)) M := rfl
theorem oSub_int (i j : Int) : oSub (.int i) (.int j) M = .ok (.int (i - j)) M := rfl
theorem oMul_int (c : Bool) (i j : Int) (h : mulOk i j = true) : oMul c (.int i) (.int j) M = .ok (.int (i * j)) M := by
  show (if mulOk i j = true then _ else _) = _
  rw [if_pos h]
theorem oMod_int (i j : Int) (h : 0 < j) : oMod (.int i) (.int j) M = .ok (.int (i % j)) M := by
  show (if decide (0 < j) = true then _ else _) = _
  rw [if_pos (decide_eq_true h)]
theorem oDiv_int (i j : Int) (h : divOk i j = true) : oDiv (.int i) (.int j) M = .ok (.int (i / j)) M := by
  show (if divOk i j = true then _ else _) = _
  rw [if_pos h]
theorem oLt_int (i j : Int) : oLt (.int i) (.int j) M = .ok (.bl (decide (i < j))) M := rfl
theorem oLe_int (i j : Int) : oLe (.int i) (.int j) M = .ok (.bl (decide (i ≤ j))) M := rfl
theorem oGt_int (i j : Int) : oGt (.int i) (.int j) M = .ok (.bl (decide (j < i))) M := rfl
theorem oGe_int (i j : Int) : oGe (.int i) (.int j) M = .ok (.bl (decide (j ≤ i))) M := rfl
theorem oLen_fz (l : List D) : oLen [.fz l] M = .ok (.int l.length) M := rfl
theorem oLen_lst (l : List D) : oLen [.lst l] M = .ok (.int l.length) M := rfl
theorem oLen_tup (l : List D) : oLen [.tup l] M = .ok (.int l.length) M := rfl
theorem oLen_str (l : List Nat) (h : l.length ≤ 16777216) : oLen [.str l] M = .ok (.int l.length) M := by
  show (if l.length ≤ 16777216 then _ else _) = _
  rw [if_pos h]
theorem mRetN_eq : mRetN env M = .ok (.rt .non) M := rfl
theorem mPar_eq (i j : Nat) (g : FA) : mPar i j g env M = (g env M).bind fun ds m => match ds with | [d, d'] => .ok (.nx ((env.set i (some d)).set j (some d'))) m | _ => .no := rfl
theorem mAug_eq (i : Nat) (o : D → D → Mem → R D) (f : FE) : mAug i o f env M = match env[i]? with | some (some x) => (f env M).bind fun d m => (o x d m).bind fun z m' => .ok (.nx (env.set i (some z))) m' | _ => .no := rfl
theorem tOf_eq (f : FE) : tOf f env M = (f env M).bind fun d m => match truD m d with | some b => .ok b m | none => .no := rfl
theorem tAndM_eq (f g : FT) : tAndM f g env M = (f env M).bind fun b m => if b = true then g env m else .ok false m := rfl
theorem tOrM_eq (f g : FT) : tOrM f g env M = (f env M).bind fun b m => if b = true then .ok true m else g env m := rfl
theorem tNotM_eq (f : FT) : tNotM f env M = (f env M).bind fun b m => .ok (!b) m := rfl
theorem tsYes_eq : tsYes env M = .ok true M := rfl
theorem mFunKw_eq (n m np : Nat) (π : Perm2) (dd : List D) (g : FD) (fa fk : FA) : mFunKw n m np π dd g fa fk env M = (fa env M).bind fun ds m1 => (fk env m1).bind fun zs m2 => if ds.length = n ∧ zs.length = m ∧ (π.on ds (zs ++ dd)).length = np then g (π.on ds (zs ++ dd)) m2 else .no := rfl
theorem piApp_on {α : Type} (a b : List α) : piApp.on a b = a ++ b := rfl
theorem mAnd_eq (f g : FE) : mAnd f g env M = (f env M).bind fun d m => match d with | .bl true => g env m | .bl false => .ok (.bl false) m | _ => .no := rfl
theorem mOr_eq (f g : FE) : mOr f g env M = (f env M).bind fun d m => match d with | .bl true => .ok (.bl true) m | .bl false => g env m | _ => .no := rfl
theorem mNot_eq (f : FE) : mNot f env M = (f env M).bind fun d m => match d with | .bl b => .ok (.bl (!b)) m | _ => .no := rfl
theorem mIf_eq (t : FT) (f g : FE) : mIf t f g env M = (t env M).bind fun b m => if b = true then f env m else g env m := rfl
theorem mChain_eq (o o' : D → D → Mem → R D) (fa fb fc : FE) : mChain o o' fa fb fc env M = (fa env M).bind fun x m => (fb env m).bind fun y m => (o x y m).bind fun z m => match z with | .bl true => (fc env m).bind fun w m => o' y w m | .bl false => .ok (.bl false) m | _ => .no := rfl
theorem mSl_eq (c : Bool) (f : FE) (lo hi : FO) : mSl c f lo hi env M = (f env M).bind fun d m => (lo env m).bind fun l m1 => (hi env m1).bind fun h m2 => oSl c d l h m2 := rfl
theorem pNone_eq : pNone env M = .ok none M := rfl
theorem pSome_eq (f : FE) : pSome f env M = (f env M).bind fun d m => match d with | .int i => .ok (some i) m | _ => .no := rfl
theorem gN_eq (i : Nat) (d : D) : gN i d env M = .ok (env.set i (some d)) M := rfl
theorem gT_eq (n : Nat) (g : FGs) (d : D) : gT n g d env M = match d with | .tup l => if l.length = n then g l env M else .no | _ => .no := rfl
theorem gsNil_eq (ds : List D) : gsNil ds env M = match ds with | [] => .ok env M | _ => .no := rfl
theorem gsCons_eq (f : FG) (g : FGs) (ds : List D) : gsCons f g ds env M = match ds with | d :: r => (f d env M).bind fun env' m => g r env' m | [] => .no := rfl
theorem oMax_int (i j : Int) : oMax [.int i, .int j] M = .ok (.int (if j > i then j else i)) M := rfl
theorem oMin_int (i j : Int) : oMin [.int i, .int j] M = .ok (.int (if j < i then j else i)) M := rfl
theorem oInt_bl (b : Bool) : oInt [.bl b] M = .ok (.int (if b = true then 1 else 0)) M := rfl
theorem oInt_int (b : Int) : oInt [.int b] M = .ok (.int b) M := rfl
theorem oIsi_bl (b : Bool) (T : String) : oIsi T (.bl b) M = .ok (.bl (isTy "bool" T)) M := rfl
theorem oNeg_int (i : Int) : oNeg (.int i) M = .ok (.int (-i)) M := rfl
theorem oTuple_lst (l : List D) : oTuple [.lst l] M = .ok (.tup l) M := rfl
theorem oTuple_tup (l : List D) : oTuple [.tup l] M = .ok (.tup l) M := rfl
theorem iR1_eq (g : FA) : iR1 g env M = (g env M).bind fun ds m => match ds with | [.int j] => if rngOk j = true then .ok ⟨rngItems 0 j.toNat, fun _ => True⟩ m else .no | _ => .no := rfl
theorem iR2_eq (g : FA) : iR2 g env M = (g env M).bind fun ds m => match ds with | [.int i, .int j] => if rngOk i = true ∧ rngOk j = true then .ok ⟨rngItems i (j - i).toNat, fun _ => True⟩ m else .no | _ => .no := rfl
theorem iSq_eq (f : FE) : iSq f env M = (f env M).bind fun d m => match srcOf m d with | some s => .ok s m | none => .no := rfl
theorem iStrM_eq (f : FE) : iStrM f env M = (f env M).bind fun d m => match d with | .str x => .ok ⟨x.map fun c => .str [c], fun _ => True⟩ m | _ => .no := rfl
theorem srcOf_tup (l : List D) : srcOf M (.tup l) = some ⟨l, fun _ => True⟩ := rfl
theorem srcOf_lst (l : List D) : srcOf M (.lst l) = some ⟨l, fun _ => True⟩ := rfl
theorem srcOf_fz (l : List D) : srcOf M (.fz l) = some ⟨l, fun _ => True⟩ := rfl
end
theorem p64 : (2 : Int) ^ 64 = 18446744073709551616 := by decide +kernel
theorem mul_small {i j : Int} (h1 : -18446744073709551616 < j) (h2 : j < 18446744073709551616) : mulOk i j = true := by
  unfold mulOk
  rw [p64]
  simp only [Bool.or_eq_true, decide_eq_true_eq]
  exact Or.inl (Or.inr ⟨h1, h2⟩)
theorem mul_smallL {i j : Int} (h1 : -18446744073709551616 < i) (h2 : i < 18446744073709551616) : mulOk i j = true := by
  unfold mulOk
  rw [p64]
  simp only [Bool.or_eq_true, decide_eq_true_eq]
  exact Or.inl (Or.inl ⟨h1, h2⟩)
theorem oMul_r (c : Bool) (i j : Int) {M : Mem} (h1 : -18446744073709551616 < j) (h2 : j < 18446744073709551616) : oMul c (.int i) (.int j) M = .ok (.int (i * j)) M := oMul_int c i j (mul_small h1 h2)
theorem oMul_l (c : Bool) (i j : Int) {M : Mem} (h1 : -18446744073709551616 < i) (h2 : i < 18446744073709551616) : oMul c (.int i) (.int j) M = .ok (.int (i * j)) M := oMul_int c i j (mul_smallL h1 h2)
theorem i1 : -18446744073709551616 < (7919 : Int) := by omega
theorem i2 : (7919 : Int) < 18446744073709551616 := by omega
theorem i3 : -18446744073709551616 < (7 : Int) := by omega
theorem i4 : (7 : Int) < 18446744073709551616 := by omega
theorem i5 : (0 : Int) < 2147483629 := by omega
theorem i6 : -18446744073709551616 < (48271 : Int) := by omega
theorem i7 : (48271 : Int) < 18446744073709551616 := by omega
theorem i8 : (0 : Int) < 2147483647 := by omega
theorem i9 : -18446744073709551616 < (31 : Int) := by omega
theorem i10 : (31 : Int) < 18446744073709551616 := by omega
theorem i11 : -18446744073709551616 < (40692 : Int) := by omega
theorem i12 : (40692 : Int) < 18446744073709551616 := by omega
theorem i13 : -18446744073709551616 < (2 : Int) := by omega
theorem i14 : (2 : Int) < 18446744073709551616 := by omega
theorem i15 : (0 : Int) < 2147483587 := by omega
theorem i16 : (0 : Int) < 2147483579 := by omega
theorem i17 : (0 : Int) < 31 := by omega
theorem i18 : (31 : Int) < 1000000000000000000000000 := by omega
/-! ### cells -/
def intsD (ns : List Int) : List D := ns.map .int
def cellV (ns : List Int) (k : Nat) : Int :=
  if h : k < ns.length then ns[k] else
  if 0 < ns.length then (ns.getD (k * 7 % ns.length) 0 % 2147483629 * 48271 + k * 7919) % 2147483647 * 31 else ((k : Int) * 7919 + 5) % 2147483647 * 31
/-- the body of _law_cell -/
def cellB : FS := (mSeq (mIfS (bOf (mOp oLt (mVar 1) (mCall oLen (aCons (mVar 0) aNil)))) (mRet (mOp oIx (mVar 0) (mVar 1))) mPass) (mSeq (mSet 2 (mOp (oAdd false) (mOp (oMul false) (mVar 1) (mC (.int 7919))) (mC (.int 5)))) (mSeq (mIfS (bOf (mOp oGt (mCall oLen (aCons (mVar 0) aNil)) (mC (.int 0)))) (mSet 2 (mOp (oAdd false) (mOp (oMul false) (mOp oMod (mOp oIx (mVar 0) (mOp oMod (mOp (oMul false) (mVar 1) (mC (.int 7))) (mCall oLen (aCons (mVar 0) aNil)))) (mC (.int 2147483629))) (mC (.int 48271))) (mOp (oMul false) (mVar 1) (mC (.int 7919))))) mPass) (mRet (mOp (oMul false) (mOp oMod (mVar 2) (mC (.int 2147483647))) (mC (.int 31)))))))
theorem cell_run (ns : List Int) (k : Nat) (M : Mem) : cellB [some (.fz (intsD ns)), some (.int k), none] M = .ok (.rt (.int (cellV ns k))) M := by
  by_cases h : k < ns.length
  · have h' : decide ((k : Int) < (ns.length : Int)) = true := decide_eq_true (by omega)
    have hat : atI (ns.map D.int) (k : Int) = some (.int ns[k]) := atI_nat (by simp [h])
    simp -implicitDefEqProofs only [mSeq_eq, mIfS_eq, mSet_eq, mRet_eq, mRetN_eq, mExpr_eq, mPass_eq, mAsg_eq, mPar_eq, mAug_eq, bOf_eq, tOf_eq, tAndM_eq, tOrM_eq, tNotM_eq, tsYes_eq, mOp_eq, mUn_eq, mVar_eq, mC_eq, mCall_eq, mFun_eq, mFunKw_eq, mMeth_eq, mAnd_eq, mOr_eq, mNot_eq, mIf_eq, mChain_eq, mSl_eq, pNone_eq, pSome_eq, aCons_eq, aNil_eq, mTup_eq, mLst_eq, gN_eq, gT_eq, gsNil_eq, gsCons_eq, mkL_t, mkL_f, R.bind_ok, R.bind_no, R.nox_ok, List.getElem?_cons_zero, List.getElem?_cons_succ, List.set_cons_zero, List.set_cons_succ, List.length_cons, List.length_nil, List.append_nil, List.nil_append, List.cons_append, piApp_on, oLen_fz, oLen_lst, oLen_tup, oLt_int, oLe_int, oGt_int, oGe_int, oAdd_int, oSub_int, oIx_fz, oIx_lst, oIx_tup, oMax_int, oMin_int, oInt_bl, oInt_int, oIsi_bl, oNeg_int, oTuple_lst, oTuple_tup, iR1_eq, iR2_eq, iSq_eq, iStrM_eq, srcOf_tup, srcOf_lst, srcOf_fz, if_true, if_false, Bool.false_eq_true, Bool.true_eq_false, reduceIte, Nat.reduceAdd, Nat.reduceLeDiff, Nat.reduceEqDiff, decide_true, decide_false, and_self, and_true, true_and, cellB, intsD, List.length_map, h', hat]
    simp [cellV, h]
  · have h' : decide ((k : Int) < (ns.length : Int)) = false := decide_eq_false (by omega)
    by_cases h0 : 0 < ns.length
    · have h0' : decide ((0 : Int) < (ns.length : Int)) = true := decide_eq_true (by omega)
      have hk : ((k : Int) * 7) % (ns.length : Int) = ((k * 7 % ns.length : Nat) : Int) := by simp
      have hl : k * 7 % ns.length < ns.length := Nat.mod_lt _ h0
      have hat : atI (ns.map D.int) ((k * 7 % ns.length : Nat) : Int) = some (.int (ns.getD (k * 7 % ns.length) 0)) := atI_nat (by
        rw [List.getElem?_map, List.getElem?_eq_getElem hl]
        simp [List.getD, List.getElem?_eq_getElem hl])
      simp -implicitDefEqProofs only [mSeq_eq, mIfS_eq, mSet_eq, mRet_eq, mRetN_eq, mExpr_eq, mPass_eq, mAsg_eq, mPar_eq, mAug_eq, bOf_eq, tOf_eq, tAndM_eq, tOrM_eq, tNotM_eq, tsYes_eq, mOp_eq, mUn_eq, mVar_eq, mC_eq, mCall_eq, mFun_eq, mFunKw_eq, mMeth_eq, mAnd_eq, mOr_eq, mNot_eq, mIf_eq, mChain_eq, mSl_eq, pNone_eq, pSome_eq, aCons_eq, aNil_eq, mTup_eq, mLst_eq, gN_eq, gT_eq, gsNil_eq, gsCons_eq, mkL_t, mkL_f, R.bind_ok, R.bind_no, R.nox_ok, List.getElem?_cons_zero, List.getElem?_cons_succ, List.set_cons_zero, List.set_cons_succ, List.length_cons, List.length_nil, List.append_nil, List.nil_append, List.cons_append, piApp_on, oLen_fz, oLen_lst, oLen_tup, oLt_int, oLe_int, oGt_int, oGe_int, oAdd_int, oSub_int, oIx_fz, oIx_lst, oIx_tup, oMax_int, oMin_int, oInt_bl, oInt_int, oIsi_bl, oNeg_int, oTuple_lst, oTuple_tup, iR1_eq, iR2_eq, iSq_eq, iStrM_eq, srcOf_tup, srcOf_lst, srcOf_fz, if_true, if_false, Bool.false_eq_true, Bool.true_eq_false, reduceIte, Nat.reduceAdd, Nat.reduceLeDiff, Nat.reduceEqDiff, decide_true, decide_false, and_self, and_true, true_and, cellB, intsD, List.length_map, h', h0', oMul_r _ _ 7919 i1 i2, oMul_r _ _ 7 i3 i4, oMod_int _ (ns.length : Int) (by omega), hk, hat, oMod_int _ 2147483629 i5, oMul_r _ _ 48271 i6 i7, oMod_int _ 2147483647 i8, oMul_r _ _ 31 i9 i10]
      simp only [cellV, dif_neg h, if_pos h0]
    · have h0' : decide ((0 : Int) < (ns.length : Int)) = false := decide_eq_false (by omega)
      simp -implicitDefEqProofs only [mSeq_eq, mIfS_eq, mSet_eq, mRet_eq, mRetN_eq, mExpr_eq, mPass_eq, mAsg_eq, mPar_eq, mAug_eq, bOf_eq, tOf_eq, tAndM_eq, tOrM_eq, tNotM_eq, tsYes_eq, mOp_eq, mUn_eq, mVar_eq, mC_eq, mCall_eq, mFun_eq, mFunKw_eq, mMeth_eq, mAnd_eq, mOr_eq, mNot_eq, mIf_eq, mChain_eq, mSl_eq, pNone_eq, pSome_eq, aCons_eq, aNil_eq, mTup_eq, mLst_eq, gN_eq, gT_eq, gsNil_eq, gsCons_eq, mkL_t, mkL_f, R.bind_ok, R.bind_no, R.nox_ok, List.getElem?_cons_zero, List.getElem?_cons_succ, List.set_cons_zero, List.set_cons_succ, List.length_cons, List.length_nil, List.append_nil, List.nil_append, List.cons_append, piApp_on, oLen_fz, oLen_lst, oLen_tup, oLt_int, oLe_int, oGt_int, oGe_int, oAdd_int, oSub_int, oIx_fz, oIx_lst, oIx_tup, oMax_int, oMin_int, oInt_bl, oInt_int, oIsi_bl, oNeg_int, oTuple_lst, oTuple_tup, iR1_eq, iR2_eq, iSq_eq, iStrM_eq, srcOf_tup, srcOf_lst, srcOf_fz, if_true, if_false, Bool.false_eq_true, Bool.true_eq_false, reduceIte, Nat.reduceAdd, Nat.reduceLeDiff, Nat.reduceEqDiff, decide_true, decide_false, and_self, and_true, true_and, cellB, intsD, List.length_map, h', h0', oMul_r _ _ 7919 i1 i2, oMod_int _ 2147483647 i8, oMul_r _ _ 31 i9 i10]
      simp only [cellV, dif_neg h, if_neg h0]
/-! ### flows -/
structure Fl where
  own : Int
  cnt : Int
  seed : Int
def Fl.c (s : Fl) : Cell := .lst [.int s.own, .int s.cnt, .int s.seed]
/-- a flow that may be drawn of -/
def Fl.ok (s : Fl) : Prop := -9223372036854775808 < s.seed ∧ s.seed < 9223372036854775808
/-- the body of _law_flow, by the model of _law_cell -/
def flowB (g : FD) : FS := (mSeq (mSet 2 (mFun 2 g [] (aCons (mVar 0) (aCons (mVar 1) aNil)))) (mSeq (mSet 3 (mC (.int 0))) (mSeq (mIfS (bOf (mOp oGe (mVar 2) (mOp oPow (mC (.int 10)) (mC (.int 18))))) (mSet 3 (mVar 2)) mPass) (mRet (mLst true (aCons (mVar 3) (aCons (mC (.int 0)) (aCons (mOp (oAdd false) (mOp oMod (mVar 2) (mC (.int 2147483629))) (mOp (oMul false) (mC (.int 40692)) (mVar 1))) aNil))))))))
theorem pow_10_18 {M : Mem} : oPow (.int 10) (.int 18) M = .ok (.int 1000000000000000000) M := by
  have h : powOk 10 18 = true := by decide +kernel
  have e : (10 : Int) ^ (18 : Int).toNat = 1000000000000000000 := by decide +kernel
  simp only [oPow, oIC, h, if_true, e]
theorem flow_run (g : FD) (ns : List Int) (k : Nat) (M : Mem) (hk : k < 1000) (hg : g [.fz (intsD ns), .int k] M = .ok (.int (cellV ns k)) M) :
    ∃ s : Fl, s.ok ∧ flowB g [some (.fz (intsD ns)), some (.int k), none, none] M = .ok (.rt (.ref M.length)) (M ++ [s.c]) := by
  have h1 : 0 ≤ cellV ns k % 2147483629 := Int.emod_nonneg _ (by omega)
  have h2 : cellV ns k % 2147483629 < 2147483629 := Int.emod_lt_of_pos _ (by omega)
  by_cases h : 1000000000000000000 ≤ cellV ns k
  · refine ⟨⟨cellV ns k, 0, cellV ns k % 2147483629 + 40692 * k⟩, ⟨by show _ < _ + _; omega, by show _ + _ < _; omega⟩, ?_⟩
    simp -implicitDefEqProofs only [mSeq_eq, mIfS_eq, mSet_eq, mRet_eq, mRetN_eq, mExpr_eq, mPass_eq, mAsg_eq, mPar_eq, mAug_eq, bOf_eq, tOf_eq, tAndM_eq, tOrM_eq, tNotM_eq, tsYes_eq, mOp_eq, mUn_eq, mVar_eq, mC_eq, mCall_eq, mFun_eq, mFunKw_eq, mMeth_eq, mAnd_eq, mOr_eq, mNot_eq, mIf_eq, mChain_eq, mSl_eq, pNone_eq, pSome_eq, aCons_eq, aNil_eq, mTup_eq, mLst_eq, gN_eq, gT_eq, gsNil_eq, gsCons_eq, mkL_t, mkL_f, R.bind_ok, R.bind_no, R.nox_ok, List.getElem?_cons_zero, List.getElem?_cons_succ, List.set_cons_zero, List.set_cons_succ, List.length_cons, List.length_nil, List.append_nil, List.nil_append, List.cons_append, piApp_on, oLen_fz, oLen_lst, oLen_tup, oLt_int, oLe_int, oGt_int, oGe_int, oAdd_int, oSub_int, oIx_fz, oIx_lst, oIx_tup, oMax_int, oMin_int, oInt_bl, oInt_int, oIsi_bl, oNeg_int, oTuple_lst, oTuple_tup, iR1_eq, iR2_eq, iSq_eq, iStrM_eq, srcOf_tup, srcOf_lst, srcOf_fz, if_true, if_false, Bool.false_eq_true, Bool.true_eq_false, reduceIte, Nat.reduceAdd, Nat.reduceLeDiff, Nat.reduceEqDiff, decide_true, decide_false, and_self, and_true, true_and, flowB, hg, pow_10_18, decide_eq_true h, oMod_int _ 2147483629 i5, oMul_l _ 40692 _ i11 i12]
    rfl
  · refine ⟨⟨0, 0, cellV ns k % 2147483629 + 40692 * k⟩, ⟨by show _ < _ + _; omega, by show _ + _ < _; omega⟩, ?_⟩
    simp -implicitDefEqProofs only [mSeq_eq, mIfS_eq, mSet_eq, mRet_eq, mRetN_eq, mExpr_eq, mPass_eq, mAsg_eq, mPar_eq, mAug_eq, bOf_eq, tOf_eq, tAndM_eq, tOrM_eq, tNotM_eq, tsYes_eq, mOp_eq, mUn_eq, mVar_eq, mC_eq, mCall_eq, mFun_eq, mFunKw_eq, mMeth_eq, mAnd_eq, mOr_eq, mNot_eq, mIf_eq, mChain_eq, mSl_eq, pNone_eq, pSome_eq, aCons_eq, aNil_eq, mTup_eq, mLst_eq, gN_eq, gT_eq, gsNil_eq, gsCons_eq, mkL_t, mkL_f, R.bind_ok, R.bind_no, R.nox_ok, List.getElem?_cons_zero, List.getElem?_cons_succ, List.set_cons_zero, List.set_cons_succ, List.length_cons, List.length_nil, List.append_nil, List.nil_append, List.cons_append, piApp_on, oLen_fz, oLen_lst, oLen_tup, oLt_int, oLe_int, oGt_int, oGe_int, oAdd_int, oSub_int, oIx_fz, oIx_lst, oIx_tup, oMax_int, oMin_int, oInt_bl, oInt_int, oIsi_bl, oNeg_int, oTuple_lst, oTuple_tup, iR1_eq, iR2_eq, iSq_eq, iStrM_eq, srcOf_tup, srcOf_lst, srcOf_fz, if_true, if_false, Bool.false_eq_true, Bool.true_eq_false, reduceIte, Nat.reduceAdd, Nat.reduceLeDiff, Nat.reduceEqDiff, decide_true, decide_false, and_self, and_true, true_and, flowB, hg, pow_10_18, decide_eq_false h, oMod_int _ 2147483629 i5, oMul_l _ 40692 _ i11 i12]
    rfl
/-- the body of _law_draw -/
def drawB : FS := (mSeq (mIfS (bOf (mOp oGt (mOp oIx (mVar 0) (mC (.int 0))) (mC (.int 0)))) (mSeq (mSet 2 (mOp oMod (mOp oIx (mVar 0) (mC (.int 0))) (mVar 1))) (mSeq (mAsg (mOp oDiv (mOp oIx (mVar 0) (mC (.int 0))) (mVar 1)) (gIx (mVar 0) (mC (.int 0)))) (mRet (mVar 2)))) mPass) (mSeq (mAsg (mOp (oAdd false) (mOp oIx (mVar 0) (mC (.int 1))) (mC (.int 1))) (gIx (mVar 0) (mC (.int 1)))) (mSeq (mSet 3 (mOp oMod (mOp (oAdd false) (mOp (oAdd false) (mOp (oMul false) (mOp oIx (mVar 0) (mC (.int 2))) (mOp (oAdd false) (mC (.int 48271)) (mOp (oMul false) (mC (.int 2)) (mOp oIx (mVar 0) (mC (.int 1)))))) (mOp (oMul false) (mC (.int 7919)) (mOp oIx (mVar 0) (mC (.int 1))))) (mC (.int 1))) (mC (.int 2147483629)))) (mSeq (mSet 3 (mOp oMod (mOp (oMul false) (mVar 3) (mVar 3)) (mC (.int 2147483587)))) (mRet (mOp oMod (mOp oDiv (mOp oMod (mOp (oMul false) (mOp (oAdd false) (mVar 3) (mC (.int 5))) (mOp (oAdd false) (mVar 3) (mC (.int 40692)))) (mC (.int 2147483579))) (mC (.int 31))) (mVar 1)))))))
theorem oIx_ref {M : Mem} {i : Nat} {l : List D} (h : M[i]? = some (.lst l)) (k : Int) : oIx (.ref i) (.int k) M = match atI l k with | some d => .ok d M | none => .no := by
  simp only [oIx, seqOf, lstOf, h]
  all_goals rfl
theorem at0 {α : Type} (a b c : α) : atI [a, b, c] 0 = some a := rfl
theorem at1 {α : Type} (a b c : α) : atI [a, b, c] 1 = some b := rfl
theorem at2 {α : Type} (a b c : α) : atI [a, b, c] 2 = some c := rfl
theorem gIx_eq (fo fi : FE) (d : D) {env : Env} {M : Mem} : gIx fo fi d env M = (fo env M).bind fun o m => (fi env m).bind fun i m' => match o, i with
  | .ref j, .int k => match m'[j]? with
    | some (.lst l) => match ixN l.length k with
      | some n => .ok env (m'.set j (.lst (l.set n d)))
      | none => .no
    | _ => .no
  | _, _ => .no := rfl
theorem ix30 : ixN 3 0 = some 0 := rfl
theorem ix31 : ixN 3 1 = some 1 := rfl
theorem div_ok {many : Int} (h : 0 < many) (h2 : many < 1000000000000000000000000) (i : Int) : divOk i many = true := by
  unfold divOk
  simp only [Bool.and_eq_true, decide_eq_true_eq]
  refine ⟨h, ?_⟩
  have : many.natAbs < 2 ^ 80 := by
    have : (2 : Nat) ^ 80 = 1208925819614629174706176 := by decide +kernel
    omega
  exact Nat.lt_of_lt_of_le (PySem.Flt.log2_lt_of (by decide) this) (by decide)
theorem draw_run (s : Fl) (hs : s.ok) (i : Nat) (M : Mem) (many : Int) (h0 : 0 < many) (h1 : many < 1000000000000000000000000) (hM : M[i]? = some s.c) :
    ∃ (v : Int) (s' : Fl), 0 ≤ v ∧ v < many ∧ s'.ok ∧ drawB [some (.ref i), some (.int many), none, none] M = .ok (.rt (.int v)) (M.set i s'.c) := by
  have hi : i < M.length := (List.getElem?_eq_some_iff.mp hM).1
  have hM' : M[i]? = some (.lst [.int s.own, .int s.cnt, .int s.seed]) := hM
  by_cases h : 0 < s.own
  · refine ⟨s.own % many, ⟨s.own / many, s.cnt, s.seed⟩, Int.emod_nonneg _ (by omega), Int.emod_lt_of_pos _ h0, hs, ?_⟩
    simp -implicitDefEqProofs only [mSeq_eq, mIfS_eq, mSet_eq, mRet_eq, mRetN_eq, mExpr_eq, mPass_eq, mAsg_eq, mPar_eq, mAug_eq, bOf_eq, tOf_eq, tAndM_eq, tOrM_eq, tNotM_eq, tsYes_eq, mOp_eq, mUn_eq, mVar_eq, mC_eq, mCall_eq, mFun_eq, mFunKw_eq, mMeth_eq, mAnd_eq, mOr_eq, mNot_eq, mIf_eq, mChain_eq, mSl_eq, pNone_eq, pSome_eq, aCons_eq, aNil_eq, mTup_eq, mLst_eq, gN_eq, gT_eq, gsNil_eq, gsCons_eq, mkL_t, mkL_f, R.bind_ok, R.bind_no, R.nox_ok, List.getElem?_cons_zero, List.getElem?_cons_succ, List.set_cons_zero, List.set_cons_succ, List.length_cons, List.length_nil, List.append_nil, List.nil_append, List.cons_append, piApp_on, oLen_fz, oLen_lst, oLen_tup, oLt_int, oLe_int, oGt_int, oGe_int, oAdd_int, oSub_int, oIx_fz, oIx_lst, oIx_tup, oMax_int, oMin_int, oInt_bl, oInt_int, oIsi_bl, oNeg_int, oTuple_lst, oTuple_tup, iR1_eq, iR2_eq, iSq_eq, iStrM_eq, srcOf_tup, srcOf_lst, srcOf_fz, if_true, if_false, Bool.false_eq_true, Bool.true_eq_false, reduceIte, Nat.reduceAdd, Nat.reduceLeDiff, Nat.reduceEqDiff, decide_true, decide_false, and_self, and_true, true_and, drawB, oIx_ref hM', at0, decide_eq_true h, oMod_int _ many h0, oDiv_int _ many (div_ok h0 h1 _), gIx_eq, hM', ix30]
    rfl
  · have hset : (M.set i (.lst [.int s.own, .int (s.cnt + 1), .int s.seed]))[i]? = some (.lst [.int s.own, .int (s.cnt + 1), .int s.seed]) := List.getElem?_set_self hi
    let n1 : Int := (s.seed * (48271 + 2 * (s.cnt + 1)) + 7919 * (s.cnt + 1) + 1) % 2147483629
    let n2 : Int := n1 * n1 % 2147483587
    have b1 : 0 ≤ n1 := Int.emod_nonneg _ (by omega)
    have b2 : n1 < 2147483629 := Int.emod_lt_of_pos _ (by omega)
    have b3 : 0 ≤ n2 := Int.emod_nonneg _ (by omega)
    have b4 : n2 < 2147483587 := Int.emod_lt_of_pos _ (by omega)
    refine ⟨(n2 + 5) * (n2 + 40692) % 2147483579 / 31 % many, ⟨s.own, s.cnt + 1, s.seed⟩, Int.emod_nonneg _ (by omega), Int.emod_lt_of_pos _ h0, hs, ?_⟩
    simp -implicitDefEqProofs only [mSeq_eq, mIfS_eq, mSet_eq, mRet_eq, mRetN_eq, mExpr_eq, mPass_eq, mAsg_eq, mPar_eq, mAug_eq, bOf_eq, tOf_eq, tAndM_eq, tOrM_eq, tNotM_eq, tsYes_eq, mOp_eq, mUn_eq, mVar_eq, mC_eq, mCall_eq, mFun_eq, mFunKw_eq, mMeth_eq, mAnd_eq, mOr_eq, mNot_eq, mIf_eq, mChain_eq, mSl_eq, pNone_eq, pSome_eq, aCons_eq, aNil_eq, mTup_eq, mLst_eq, gN_eq, gT_eq, gsNil_eq, gsCons_eq, mkL_t, mkL_f, R.bind_ok, R.bind_no, R.nox_ok, List.getElem?_cons_zero, List.getElem?_cons_succ, List.set_cons_zero, List.set_cons_succ, List.length_cons, List.length_nil, List.append_nil, List.nil_append, List.cons_append, piApp_on, oLen_fz, oLen_lst, oLen_tup, oLt_int, oLe_int, oGt_int, oGe_int, oAdd_int, oSub_int, oIx_fz, oIx_lst, oIx_tup, oMax_int, oMin_int, oInt_bl, oInt_int, oIsi_bl, oNeg_int, oTuple_lst, oTuple_tup, iR1_eq, iR2_eq, iSq_eq, iStrM_eq, srcOf_tup, srcOf_lst, srcOf_fz, if_true, if_false, Bool.false_eq_true, Bool.true_eq_false, reduceIte, Nat.reduceAdd, Nat.reduceLeDiff, Nat.reduceEqDiff, decide_true, decide_false, and_self, and_true, true_and, drawB, oIx_ref hM', at0, at1, decide_eq_false h, gIx_eq, hM', ix31, oIx_ref hset, at2, oMul_l _ 2 _ i13 i14, oMul_l _ 7919 _ i1 i2, oMul_l _ s.seed _ (by have := hs.1; omega) (by have := hs.2; omega), oMod_int _ 2147483629 i5]
    have e1 : (s.seed * (48271 + 2 * (s.cnt + 1)) + 7919 * (s.cnt + 1) + 1) % 2147483629 = n1 := rfl
    simp -implicitDefEqProofs only [mSeq_eq, mIfS_eq, mSet_eq, mRet_eq, mRetN_eq, mExpr_eq, mPass_eq, mAsg_eq, mPar_eq, mAug_eq, bOf_eq, tOf_eq, tAndM_eq, tOrM_eq, tNotM_eq, tsYes_eq, mOp_eq, mUn_eq, mVar_eq, mC_eq, mCall_eq, mFun_eq, mFunKw_eq, mMeth_eq, mAnd_eq, mOr_eq, mNot_eq, mIf_eq, mChain_eq, mSl_eq, pNone_eq, pSome_eq, aCons_eq, aNil_eq, mTup_eq, mLst_eq, gN_eq, gT_eq, gsNil_eq, gsCons_eq, mkL_t, mkL_f, R.bind_ok, R.bind_no, R.nox_ok, List.getElem?_cons_zero, List.getElem?_cons_succ, List.set_cons_zero, List.set_cons_succ, List.length_cons, List.length_nil, List.append_nil, List.nil_append, List.cons_append, piApp_on, oLen_fz, oLen_lst, oLen_tup, oLt_int, oLe_int, oGt_int, oGe_int, oAdd_int, oSub_int, oIx_fz, oIx_lst, oIx_tup, oMax_int, oMin_int, oInt_bl, oInt_int, oIsi_bl, oNeg_int, oTuple_lst, oTuple_tup, iR1_eq, iR2_eq, iSq_eq, iStrM_eq, srcOf_tup, srcOf_lst, srcOf_fz, if_true, if_false, Bool.false_eq_true, Bool.true_eq_false, reduceIte, Nat.reduceAdd, Nat.reduceLeDiff, Nat.reduceEqDiff, decide_true, decide_false, and_self, and_true, true_and, e1, oMul_l _ n1 _ (by omega) (by omega), oMod_int _ 2147483587 i15]
    have e2 : n1 * n1 % 2147483587 = n2 := rfl
    simp -implicitDefEqProofs only [mSeq_eq, mIfS_eq, mSet_eq, mRet_eq, mRetN_eq, mExpr_eq, mPass_eq, mAsg_eq, mPar_eq, mAug_eq, bOf_eq, tOf_eq, tAndM_eq, tOrM_eq, tNotM_eq, tsYes_eq, mOp_eq, mUn_eq, mVar_eq, mC_eq, mCall_eq, mFun_eq, mFunKw_eq, mMeth_eq, mAnd_eq, mOr_eq, mNot_eq, mIf_eq, mChain_eq, mSl_eq, pNone_eq, pSome_eq, aCons_eq, aNil_eq, mTup_eq, mLst_eq, gN_eq, gT_eq, gsNil_eq, gsCons_eq, mkL_t, mkL_f, R.bind_ok, R.bind_no, R.nox_ok, List.getElem?_cons_zero, List.getElem?_cons_succ, List.set_cons_zero, List.set_cons_succ, List.length_cons, List.length_nil, List.append_nil, List.nil_append, List.cons_append, piApp_on, oLen_fz, oLen_lst, oLen_tup, oLt_int, oLe_int, oGt_int, oGe_int, oAdd_int, oSub_int, oIx_fz, oIx_lst, oIx_tup, oMax_int, oMin_int, oInt_bl, oInt_int, oIsi_bl, oNeg_int, oTuple_lst, oTuple_tup, iR1_eq, iR2_eq, iSq_eq, iStrM_eq, srcOf_tup, srcOf_lst, srcOf_fz, if_true, if_false, Bool.false_eq_true, Bool.true_eq_false, reduceIte, Nat.reduceAdd, Nat.reduceLeDiff, Nat.reduceEqDiff, decide_true, decide_false, and_self, and_true, true_and, e2, oMul_l _ (n2 + 5) _ (by omega) (by omega), oMod_int _ 2147483579 i16, oDiv_int _ 31 (div_ok i17 i18 _), oMod_int _ many h0]
    rfl
/-! ### loops by an invariant -/
theorem forL_nil {g : FG} {body : FS} {env : Env} {M : Mem} : forL (fun _ => True) g body [] env M = .ok (.nx env) M := by
  unfold forL; rw [if_pos trivial]
theorem forL_cons {g : FG} {body : FS} {d : D} {r : List D} {env : Env} {M : Mem} : forL (fun _ => True) g body (d :: r) env M = (g d env M).bind fun env1 m1 => (body env1 m1).bind fun fl m => match fl with
      | .nx env' => forL (fun _ => True) g body r env' m
      | .ct env' => forL (fun _ => True) g body r env' m
      | .bk env' => .ok (.nx env') m
      | .rt d => .ok (.rt d) m := by
  conv => lhs; unfold forL
  rw [if_pos trivial]
  all_goals rfl
theorem forL_inv {g : FG} {body : FS} (P : Nat → Env → Mem → Prop) : ∀ (items : List D) (k0 : Nat) (env : Env) (M : Mem), P k0 env M →
    (∀ (k : Nat) d env M, items[k]? = some d → P (k0 + k) env M → ∃ env' m', ((g d env M).bind fun e1 m1 => body e1 m1) = .ok (.nx env') m' ∧ P (k0 + k + 1) env' m') →
    ∃ env' m', forL (fun _ => True) g body items env M = .ok (.nx env') m' ∧ P (k0 + items.length) env' m'
  | [], k0, env, M, h0, _ => ⟨env, M, forL_nil, h0⟩
  | d :: r, k0, env, M, h0, hs => by
    obtain ⟨env1, m1, e1, h1⟩ := hs 0 d env M rfl h0
    obtain ⟨env2, m2, e2, h2⟩ := forL_inv P r (k0 + 1) env1 m1 h1 fun k d' env' M' hk hp => by
      have := hs (k + 1) d' env' M' (by simpa using hk) (by rw [show k0 + (k + 1) = k0 + 1 + k by omega]; exact hp)
      rw [show k0 + (k + 1) + 1 = k0 + 1 + k + 1 by omega] at this
      exact this
    refine ⟨env2, m2, ?_, by rw [show k0 + (d :: r).length = k0 + 1 + r.length by simp; omega]; exact h2⟩
    rw [forL_cons]
    obtain ⟨ea, ma, ea1, ea2⟩ := R.bind_eq e1
    rw [ea1, R.bind_ok, ea2, R.bind_ok]
    exact e2
theorem compL_nil {g : FG} {t : FT} {f : FE} {env : Env} {M : Mem} : compL (fun _ => True) g t f env [] M = .ok [] M := by
  unfold compL; rw [if_pos trivial]
theorem compL_cons {g : FG} {t : FT} {f : FE} {env : Env} {d : D} {r : List D} {M : Mem} : compL (fun _ => True) g t f env (d :: r) M = (g d env M).bind fun env1 m1 => (t env1 m1).bind fun b m2 => if b = true then (f env1 m2).bind fun y m3 => (compL (fun _ => True) g t f env r m3).bind fun ys m4 => .ok (y :: ys) m4 else compL (fun _ => True) g t f env r m2 := by
  conv => lhs; unfold compL
  rw [if_pos trivial]
/-- a comprehension without tests, its elements each by the memory as it is -/
theorem compL_inv {g : FG} {f : FE} {env : Env} (P : Nat → Mem → Prop) (Y : Nat → D → D → Prop) : ∀ (items : List D) (k0 : Nat) (M : Mem), P k0 M →
    (∀ (k : Nat) d M, items[k]? = some d → P (k0 + k) M → ∃ y m', ((g d env M).bind fun e1 m1 => f e1 m1) = .ok y m' ∧ Y (k0 + k) d y ∧ P (k0 + k + 1) m') →
    ∃ ys m', compL (fun _ => True) g tsYes f env items M = .ok ys m' ∧ ys.length = items.length ∧ (∀ (k : Nat) d y, items[k]? = some d → ys[k]? = some y → Y (k0 + k) d y) ∧ P (k0 + items.length) m'
  | [], k0, M, h0, _ => ⟨[], M, compL_nil, rfl, fun k d y e => by simp at e, h0⟩
  | d :: r, k0, M, h0, hs => by
    obtain ⟨y, m1, e1, y1, h1⟩ := hs 0 d M rfl h0
    obtain ⟨ys, m2, e2, l2, y2, h2⟩ := compL_inv P Y r (k0 + 1) m1 h1 fun k d' M' hk hp => by
      have := hs (k + 1) d' M' (by simpa using hk) (by rw [show k0 + (k + 1) = k0 + 1 + k by omega]; exact hp)
      rw [show k0 + (k + 1) + 1 = k0 + 1 + k + 1 by omega, show k0 + (k + 1) = k0 + 1 + k by omega] at this
      exact this
    refine ⟨y :: ys, m2, ?_, by simp [l2], fun k d' y' hk hy => ?_, by rw [show k0 + (d :: r).length = k0 + 1 + r.length by simp; omega]; exact h2⟩
    · rw [compL_cons]
      obtain ⟨ea, ma, ea1, ea2⟩ := R.bind_eq e1
      rw [ea1, R.bind_ok, tsYes_eq, R.bind_ok, if_pos rfl, ea2, R.bind_ok, e2, R.bind_ok]
    · cases k with
      | zero => simp at hk hy; subst hk hy; exact y1
      | succ k => rw [show k0 + (k + 1) = k0 + 1 + k by omega]; exact y2 k d' y' (by simpa using hk) (by simpa using hy)
/-- a comprehension of values: no memory, any test -/
theorem compL_pure {g : FG} {t : FT} {f : FE} {env : Env} {M : Mem} (T : D → Bool) (F : D → D) : ∀ (items : List D), (∀ d ∈ items, ∃ env1, g d env M = .ok env1 M ∧ t env1 M = .ok (T d) M ∧ (T d = true → f env1 M = .ok (F d) M)) →
    compL (fun _ => True) g t f env items M = .ok ((items.filter T).map F) M
  | [], _ => compL_nil
  | d :: r, h => by
    obtain ⟨env1, h1, h2, h3⟩ := h d (List.mem_cons_self ..)
    have ih := compL_pure T F r fun d' hd => h d' (List.mem_cons_of_mem _ hd)
    rw [compL_cons, h1, R.bind_ok, h2, R.bind_ok]
    cases ht : T d with
    | true => rw [if_pos rfl, h3 ht, R.bind_ok, ih, R.bind_ok, List.filter_cons_of_pos ht, List.map_cons]
    | false => rw [if_neg Bool.false_ne_true, ih, List.filter_cons_of_neg (by simp [ht])]
theorem mLc_eq (c : Bool) (vs : List Nat) (fi : FI) (g : FG) (t : FT) (f : FE) {env : Env} {M : Mem} : mLc c vs fi g t f env M = (fi env M).bind fun src m => if src.items.length < 16777216 then (compL src.still g t f (wipeE env vs) src.items m).nox.bind fun ys m' => mkL c ys m' else .no := rfl
theorem mFor_eq (f : FI) (g : FG) (body : FS) {env : Env} {M : Mem} : mFor f g body env M = (f env M).bind fun src m => forL src.still g body src.items env m := rfl
theorem runB_rt {B : FS} {N : Nat} {ds : List D} {M m : Mem} {d : D} (h : B (envStart N ds) M = .ok (.rt d) m) : runB B N ds M = .ok d m := by
  unfold runB; rw [h]
theorem runB_nx {B : FS} {N : Nat} {ds : List D} {M m : Mem} {env : Env} (h : B (envStart N ds) M = .ok (.nx env) m) : runB B N ds M = .ok .non m := by
  unfold runB; rw [h]
theorem set_twice {M : Mem} {i : Nat} {a b : Cell} : (M.set i a).set i b = M.set i b := List.set_set ..
/-- the memory bears a flow at i, else as M0 -/
structure FlAt (M0 : Mem) (i : Nat) (M : Mem) : Prop where
  at_ : ∃ s : Fl, s.ok ∧ M = M0.set i s.c
  lt : i < M0.length
theorem FlAt.get {M0 M : Mem} {i : Nat} (h : FlAt M0 i M) : ∃ s : Fl, s.ok ∧ M[i]? = some s.c ∧ ∀ s' : Fl, s'.ok → FlAt M0 i (M.set i s'.c) := by
  obtain ⟨s, h1, h2⟩ := h.at_
  refine ⟨s, h1, by rw [h2]; exact List.getElem?_set_self h.lt, fun s' hs => ⟨⟨s', hs, by rw [h2, set_twice]⟩, h.lt⟩⟩
theorem FlAt.start {M : Mem} {i : Nat} {s : Fl} (hs : s.ok) (h : M[i]? = some s.c) : FlAt M i M := by
  obtain ⟨h1, h2⟩ := List.getElem?_eq_some_iff.mp h
  exact ⟨⟨s, hs, by rw [← h2, List.set_getElem_self]⟩, h1⟩
theorem FlAt.len {M0 M : Mem} {i : Nat} (h : FlAt M0 i M) : M.length = M0.length := by
  obtain ⟨s, _, h2⟩ := h.at_
  rw [h2, List.length_set]
theorem FlAt.other {M0 M : Mem} {i j : Nat} (h : FlAt M0 i M) (hj : i ≠ j) : M[j]? = M0[j]? := by
  obtain ⟨s, _, e⟩ := h.at_
  rw [e, List.getElem?_set_ne hj]
theorem rngItems_get {lo : Int} {n k : Nat} {d : D} (h : (rngItems lo n)[k]? = some d) : d = .int (lo + (k : Int)) ∧ k < n := by
  unfold rngItems at h
  rw [List.getElem?_map] at h
  cases q : (List.range n)[k]? with
  | none => rw [q] at h; cases h
  | some j =>
    rw [q] at h; cases h
    obtain ⟨h1, h2⟩ := List.getElem?_eq_some_iff.mp q
    simp at h1 h2
    subst h2
    exact ⟨rfl, h1⟩
theorem rngItems_len {lo : Int} {n : Nat} : (rngItems lo n).length = n := by simp [rngItems]
theorem rngOk_of {i : Int} (h1 : 0 ≤ i) (h2 : i < 4611686018427387904) : rngOk i = true := by
  unfold rngOk
  have e : (2 : Int) ^ 62 = 4611686018427387904 := by decide +kernel
  rw [e]
  simp only [Bool.and_eq_true, decide_eq_true_eq]
  omega
theorem oSl_str {c : Bool} {x : List Nat} {lo hi : Option Int} {M : Mem} (h : x.length ≤ 16777216) : oSl c (.str x) lo hi M = .ok (.str (cutD x lo hi)) M := by
  simp only [oSl, h, if_true]
theorem oSl_tup {c : Bool} {x : List D} {lo hi : Option Int} {M : Mem} : oSl c (.tup x) lo hi M = .ok (.tup (cutD x lo hi)) M := rfl
theorem oSl_lst {x : List D} {lo hi : Option Int} {M : Mem} : oSl false (.lst x) lo hi M = .ok (.lst (cutD x lo hi)) M := rfl
theorem oSl_fz {x : List D} {lo hi : Option Int} {M : Mem} : oSl false (.fz x) lo hi M = .ok (.lst (cutD x lo hi)) M := rfl
theorem cutD_len {α : Type} (xs : List α) (lo hi : Option Int) : (cutD xs lo hi).length ≤ xs.length := by
  unfold cutD
  rw [List.length_take, List.length_drop]
  omega
theorem cutD_take {α : Type} (xs : List α) (k : Nat) : cutD xs none (some (k : Int)) = xs.take k := by
  unfold cutD
  rw [HT.sIx_none, HT.sIx_nat, List.drop_zero, Nat.sub_zero]
  by_cases h : k ≤ xs.length
  · rw [Nat.min_eq_left h]
  · rw [Nat.min_eq_right (by omega), List.take_of_length_le (Nat.le_refl _), List.take_of_length_le (by omega)]
theorem cutD_drop {α : Type} (xs : List α) (k : Nat) : cutD xs (some (k : Int)) none = xs.drop k := by
  unfold cutD
  rw [HT.sIx_none, HT.sIx_nat]
  by_cases h : k ≤ xs.length
  · rw [Nat.min_eq_left h, List.take_of_length_le]
    rw [List.length_drop]
    omega
  · rw [Nat.min_eq_right (by omega), List.drop_eq_nil_of_le (Nat.le_refl _), List.drop_eq_nil_of_le (by omega)]
    simp
theorem oIx_str {x : List Nat} {i : Int} {c : Nat} {M : Mem} (h : x.length ≤ 16777216) (e : atI x i = some c) : oIx (.str x) (.int i) M = .ok (.str [c]) M := by
  simp only [oIx, h, if_true, e]
theorem atI_some {α : Type} {xs : List α} {i : Int} (h0 : 0 ≤ i) (h1 : i < xs.length) : ∃ v, atI xs i = some v ∧ v ∈ xs := by
  obtain ⟨j, rfl⟩ : ∃ j : Nat, i = (j : Int) := ⟨i.toNat, by omega⟩
  have hj : j < xs.length := by omega
  exact ⟨xs[j], atI_nat (List.getElem?_eq_getElem hj), List.getElem_mem hj⟩
theorem oAdd_str {c : Bool} {a b : List Nat} {M : Mem} (h : a.length + b.length ≤ 16777216) : oAdd c (.str a) (.str b) M = .ok (.str (a ++ b)) M := by
  show oAddS (.str a) (.str b) M = _
  simp only [oAddS, h, if_true]
theorem oEq_bl (ne a b : Bool) {M : Mem} : oEq ne (.bl a) (.bl b) M = .ok (.bl (if ne = true then !(a == b) else (a == b))) M := by
  cases ne <;> rfl
theorem oEq_int (ne : Bool) (a b : Int) {M : Mem} : oEq ne (.int a) (.int b) M = .ok (.bl (if ne = true then !(a == b) else (a == b))) M := by
  cases ne <;> rfl
end Fn

set_option Elab.async false
set_option linter.all false
set_option maxRecDepth 100000
set_option maxHeartbeats 1000000
/-! FnCls: instances of own classes: attributes, methods, new ones. -/
namespace Fn
open PySem PySem.Spec PyProof.Rows L2
section
variable {X : Cx} {G : Gx} {cl : Nat → Addr} {E : XK} {W : Wd} {H : Hp} {M : Mem} {a b c : Expr} {fa fb fc : FE} {pos : Pos}
def putD (f : Str) (v : D) : List (Str × D) → List (Str × D)
  | [] => [(f, v)]
  | (g, x) :: r => if g = f then (g, v) :: r else (g, x) :: putD f v r
theorem rpk_nil {fs : List (Str × V)} (h : RpK G W H id ([] : List (Str × D)) fs) : fs = [] := by cases h; rfl
theorem rpk_put {f : Str} {d : D} {u : V} (r : Rp G W H d u) : ∀ {fs : List (Str × D)} {vs : List (Str × V)}, RpK G W H id fs vs → RpK G W H id (putD f d fs) (putF f u vs)
  | _, _, .nil => .cons ⟨rfl, r⟩ .nil
  | (g, x) :: fs, (g', x') :: vs, .cons h t => by
    have e : g = g' := h.1
    subst e
    show RpK G W H id (if g = f then _ else _) (if g = f then _ else _)
    by_cases q : g = f
    · rw [if_pos q, if_pos q]
      exact .cons ⟨rfl, r⟩ t
    · rw [if_neg q, if_neg q]
      exact .cons h (rpk_put r t)
theorem rpk_get {f : Str} {d : D} : ∀ {fs : List (Str × D)} {vs : List (Str × V)}, RpK G W H id fs vs → fs.lookup f = some d → ∃ u, vs.lookup f = some u ∧ Rp G W H d u
  | _, _, .nil, e => by cases e
  | (g, x) :: fs, (g', x') :: vs, .cons h t, e => by
    have q : g = g' := h.1
    subst q
    simp only [List.lookup] at e ⊢
    cases k : f == g with
    | true => rw [k] at e; cases e; exact ⟨x', rfl, h.2⟩
    | false => rw [k] at e; exact rpk_get t e
theorem rpk_none {f : Str} : ∀ {fs : List (Str × D)} {vs : List (Str × V)}, RpK G W H id fs vs → fs.lookup f = none → vs.lookup f = none
  | _, _, .nil, e => rfl
  | (g, x) :: fs, (g', x') :: vs, .cons h t, e => by
    have q : g = g' := h.1
    subst q
    simp only [List.lookup] at e ⊢
    cases k : f == g with
    | true => rw [k] at e; cases e
    | false => rw [k] at e; exact rpk_none t e
theorem rpk_len {fs : List (Str × D)} {vs : List (Str × V)} (h : RpK G W H id fs vs) : vs.length = fs.length := by
  induction h with
  | nil => rfl
  | cons _ _ ih => simp [ih]
/-- the attributes of an instance of the class c0 -/
def insOf (c0 : Nat) (M : Mem) : D → Option (Nat × List (Str × D))
  | .ref i => match M[i]? with
    | some (.ins c fs) => if c = c0 then some (i, fs) else none
    | _ => none
  | _ => none
theorem insOf_ok {c0 : Nat} (m : MemOk G W H M) {d : D} {u : V} {i : Nat} {fs : List (Str × D)} (r : Rp G W H d u) (e : insOf c0 M d = some (i, fs)) : d = .ref i ∧ ∃ a dx vs, u = .ref a ∧ W.as[i]? = some a ∧ H a = some (.ins (G.cl c0) dx vs) ∧ RpK G W H id fs vs := by
  unfold insOf at e
  split at e
  · rename_i j
    split at e
    · rename_i c fs' hc
      split at e
      · rename_i hcc
        subst hcc
        cases e
        obtain ⟨a, e1, e2⟩ := r
        obtain ⟨dx, vs, h1, h2⟩ := m.cell _ _ a hc e1
        exact ⟨rfl, a, dx, vs, e2, e1, h1, h2⟩
      · cases e
    · cases e
  · cases e
/-- e.f -/
def mFld (c0 : Nat) (f : Str) (fa : FE) : FE := fun env M => (fa env M).bind fun d m => match insOf c0 m d with
  | some (_, fs) => match fs.lookup f with
    | some v => .ok v m
    | none => .no
  | none => .no
theorem sn_fld {f : Str} {c0 : Nat} (hc : Cls X.K (cl c0)) (hn : NoAttr X.K (cl c0) f) (ha : PE X a (tE ⟨X.K, cl⟩ E fa)) (hb : attributeBase a f X.env (eval a X.env) = eval a X.env := by rfl) : PE X (.Attribute a f pos) (tE ⟨X.K, cl⟩ E (mFld c0 f fa)) := pe_imp (pe_fld ha hb) fun σ H Q ⟨W, env, M, s, p⟩ => by
  refine tE.bind s p fun d m W1 H1 u f1 s1 r1 p1 => ?_
  split at p1
  · rename_i i fs e
    split at p1
    · rename_i v hv
      obtain ⟨_, a1, dx, vs, e2, e3, h1, h2⟩ := insOf_ok s1.mem r1 e
      obtain ⟨w, h3, h4⟩ := rpk_get h2 hv
      exact ⟨a1, _, dx, vs, w, e2, h1, hc, hn, h3, p1.here s1.mem _ h4⟩
    · exact p1.elim
  · exact p1.elim
/-- e.f = v -/
def mFldSet (c0 : Nat) (f : Str) (fa fv : FE) : FS := fun env M => (fv env M).bind fun v m => (fa env m).bind fun d m2 => match insOf c0 m2 d with
  | some (i, fs) => if fs.length < 1000 then .ok (.nx env) (m2.set i (.ins c0 (putD f v fs))) else .no
  | none => .no
theorem ss_fld {f : Str} {c0 : Nat} {pos' : Pos} (hc : Cls X.K (cl c0)) (hn : NoAttr X.K (cl c0) f) (ha : PE X a (tE ⟨X.K, cl⟩ E fa)) (hb : PE X b (tE ⟨X.K, cl⟩ E fb)) (hs : swapsWith b (some (.Attribute a f pos')) pos.line X.env = pure false := by rfl) : PS X (.Assign [.Attribute a f pos'] b pos) (tS ⟨X.K, cl⟩ E (mFldSet c0 f fa fb)) := ps_imp (ps_fld ha hb hs) fun D σ H ⟨W, env, M, s, p⟩ => by
  refine tE.bind s p fun v m W1 H1 u f1 s1 r1 p1 => ?_
  refine tE.bind s1 p1 fun d m2 W2 H2 u2 f2 s2 r2 p2 => ?_
  split at p2
  · rename_i i fs e
    split at p2
    · rename_i hl
      obtain ⟨_, a1, dx, vs, e2, e3, h1, h2⟩ := insOf_ok s2.mem r2 e
      refine ⟨a1, _, dx, vs, e2, h1, hc, hn, by rw [rpk_len h2]; exact hl, ?_⟩
      have f3 := Fut.wrote (W := W2) (H := H2) (o := .ins (cl c0) dx (putF f u vs)) e3
      exact p2 W2 _ f3 (s2.mem.wrote e3 ⟨dx, _, upd_same, rpk_put (s2.mem.rp f3 (s1.mem.rp f2 r1)) (h2.fut s2.mem f3)⟩) _ (s2.env.fut s2.mem f3)
    · exact p2.elim
  · exact p2.elim
/-- e.f += v, ints -/
def mFldAug (c0 : Nat) (f : Str) (g : Int → Int → Int) (fa fv : FE) : FS := fun env M => (fa env M).bind fun d m => match insOf c0 m d with
  | some (i, fs) => match fs.lookup f with
    | some (.int x) => (fv env m).bind fun v m2 => match v, insOf c0 m2 d with
      | .int y, some (_, fs') => if fs'.length < 1000 then .ok (.nx env) (m2.set i (.ins c0 (putD f (.int (g x y)) fs'))) else .no
      | _, _ => .no
    | _ => .no
  | none => .no
theorem ss_fldAug {f : Str} {c0 : Nat} {pos' : Pos} {op : Operator} {g : Int → Int → Int} (ho : InOp X op fun x y H Q => ∃ i j, x = .int i ∧ y = .int j ∧ Q (.int (g i j)) H) (hc : Cls X.K (cl c0)) (hn : NoAttr X.K (cl c0) f) (ha : PE X a (tE ⟨X.K, cl⟩ E fa)) (hb : PE X b (tE ⟨X.K, cl⟩ E fb)) :
    PS X (.AugAssign (.Attribute a f pos') op b pos) (tS ⟨X.K, cl⟩ E (mFldAug c0 f g fa fb)) := ps_imp (ps_fldaug ha hb ho) fun D σ H ⟨W, env, M, s, p⟩ => by
  refine tE.bind s p fun d m W1 H1 u f1 s1 r1 p1 => ?_
  split at p1
  · rename_i i fs e
    split at p1
    · rename_i x hv
      obtain ⟨hd, a1, dx, vs, e2, e3, h1, h2⟩ := insOf_ok s1.mem r1 e
      obtain ⟨w, h3, h4⟩ := rpk_get h2 hv
      refine ⟨a1, _, dx, vs, w, e2, h1, hc, hn, h3, ?_⟩
      refine tE.bind s1 p1 fun v m2 W2 H2 u2 f2 s2 r2 p2 => ?_
      split at p2
      · rename_i v' q1 y i' fs' e4
        split at p2
        · rename_i hl
          obtain ⟨hd', a2, dx', vs', e5, e6, h5, h6⟩ := insOf_ok s2.mem (s1.mem.rp f2 r1) e4
          rw [hd] at hd'
          cases hd'
          have ea : a1 = a2 := V.ref.inj (e2.symm.trans e5)
          subst ea
          have h4' : w = .int x := h4
          have r2' : u2 = .int y := r2
          refine ⟨x, y, h4', r2', dx', vs', h5, by rw [rpk_len h6]; exact hl, ?_⟩
          have f3 := Fut.wrote (W := W2) (H := H2) (o := .ins (cl c0) dx' (putF f (.int (g x y)) vs')) e6
          exact p2 W2 _ f3 (s2.mem.wrote e6 ⟨dx', _, upd_same, rpk_put (d := .int (g x y)) (u := .int (g x y)) (by exact rfl) (h6.fut s2.mem f3)⟩) _ (s2.env.fut s2.mem f3)
        · exact p2.elim
      · exact p2.elim
    · exact p1.elim
  · exact p1.elim
/-! ### methods, new instances -/
def ClosedK (K : PySem.W.Frag) (cl : Nat → Addr) (dd : List D) (dvs : List V) : Prop := ∀ (W : Wd) (H : Hp), RpL ⟨K, cl⟩ W H dd dvs
theorem closedK_nil {K : PySem.W.Frag} : ClosedK K cl [] [] := fun _ _ => rfl
/-- o.x(..) -/
def mMth (c0 : Nat) (x : Str) (n : Nat) (g : FD) (dd : List D) (fo : FE) (ga : FA) : FE := fun env M => (fo env M).bind fun d m => match insOf c0 m d with
  | some (_, fs) => match fs.lookup x with
    | none => (ga env m).bind fun ds m2 => if (d :: (ds ++ dd)).length = n then g (d :: (ds ++ dd)) m2 else .no
    | some _ => .no
  | none => .no
/-- C(..) -/
def mMake (c0 : Nat) (n : Nat) (g : FD) (dd : List D) (ga : FA) : FE := fun env M => (ga env M).bind fun ds m => if (D.ref m.length :: (ds ++ dd)).length = n then (g (D.ref m.length :: (ds ++ dd)) (m ++ [.ins c0 []])).bind fun r m2 => match r with
    | .non => .ok (.ref m.length) m2
    | _ => .no
  else .no
def mMakeKw (c0 : Nat) (nk n : Nat) (π : Perm2) (dd : List D) (g : FD) (gk : FA) : FE := fun env M => (gk env M).bind fun zs m => if zs.length = nk ∧ (π.on [D.ref m.length] (zs ++ dd)).length = n then (g (π.on [D.ref m.length] (zs ++ dd)) (m ++ [.ins c0 []])).bind fun r m2 => match r with
    | .non => .ok (.ref m.length) m2
    | _ => .no
  else .no
section
variable {CX : CXT} {k n c0 : Nat} {f C : Addr} {fd : FuncData} {ps ks : List Str} {g : FD} {dvs : List V} {dd : List D} {ds : List Value} {x m : Str} {p apos : Pos} {e o : Expr} {es : List Expr} {ga : FA} {kws : List Keyword} {π : Perm2} {nk : Nat} {gk : FA}
theorem mth_reads {K : PySem.W.Frag} (hc : ClosedK K cl dd dvs) (σ : L2.St) (H : Hp) (Q : VK) (h : tE ⟨K, cl⟩ E (mMth c0 x n g dd fa ga) σ H Q) : tMeth (cl c0) x (spOf ⟨K, cl⟩ n g) dvs E (tE ⟨K, cl⟩ E fa) (tA ⟨K, cl⟩ E ga) σ H Q := by
  obtain ⟨W, env, M, s, p⟩ := h
  refine tE.bind s p fun d m W1 H1 u f1 s1 r1 p1 => ?_
  split at p1
  · rename_i i fs e
    split at p1
    · rename_i hv
      obtain ⟨hd, a1, dx, vs, e2, e3, h1, h2⟩ := insOf_ok s1.mem r1 e
      refine ⟨a1, dx, vs, e2, h1, rpk_none h2 hv, ?_⟩
      refine tA.bind s1 p1 fun ds m2 W2 H2 us f2 s2 r2 p2 => ?_
      split at p2
      · rename_i hl
        exact ⟨W2, m2, d :: (ds ++ dd), s2.mem, ⟨u, _, rfl, s1.mem.rp f2 r1, r2.append (hc W2 H2)⟩, hl, p2⟩
      · exact p2.elim
    · exact p1.elim
  · exact p1.elim
theorem sn_mth {pl : Sem Bool} (ho : PE X o (tE ⟨X.K, cl⟩ E fa)) (c : Cls X.K (cl c0)) (hm : Meth X.K (cl c0) m f) (F : FnOk X.prog X.w X.K X.mg X.base CX k f fd ps (spOf ⟨X.K, cl⟩ n g)) (hr : Room k X.A) (hb : Binds X.K fd ps ds) (hd : Vals dvs ds) (hcl : ClosedK X.K cl dd dvs) (hx : Passes CX X E) (ha : PA X (e :: es) (tA ⟨X.K, cl⟩ E ga))
    (hst : starEach (e :: es) X.env = (false, eval e X.env) :: starEach es X.env := by rfl) (hpl : (backTo pos (starEach es X.env)).any (·.1) = false := by rfl)
    (ht : eval (.Call (.Attribute o m apos) (e :: es) [] pos) X.env = (do
      let ov ← eval o X.env
      standAt apos.atName
      let (f, first) ← holding [ov] (getMethod ov m pl)
      callWith pos f first (backTo pos (starEach (e :: es) X.env)) (backToKw pos (keywordEach [] X.env))) := by rfl) :
    PE X (.Call (.Attribute o m apos) (e :: es) [] pos) (tE ⟨X.K, cl⟩ E (mMth c0 m n g dd fa ga)) := pe_imp (pe_meth ho c hm F hr hb hd hx ha hst hpl ht) (mth_reads hcl)
theorem sn_mth0 {pl : Sem Bool} (ho : PE X o (tE ⟨X.K, cl⟩ E fa)) (c : Cls X.K (cl c0)) (hm : Meth X.K (cl c0) m f) (F : FnOk X.prog X.w X.K X.mg X.base CX k f fd ps (spOf ⟨X.K, cl⟩ n g)) (hr : Room k X.A) (hb : Binds X.K fd ps ds) (hd : Vals dvs ds) (hcl : ClosedK X.K cl dd dvs) (hx : Passes CX X E)
    (ht : eval (.Call (.Attribute o m apos) [] [] pos) X.env = (do
      let ov ← eval o X.env
      standAt apos.atName
      let (f, first) ← holding [ov] (getMethod ov m pl)
      callWith pos f first (backTo pos (starEach [] X.env)) (backToKw pos (keywordEach [] X.env))) := by rfl) :
    PE X (.Call (.Attribute o m apos) [] [] pos) (tE ⟨X.K, cl⟩ E (mMth c0 m n g dd fa aNil)) := pe_imp (pe_meth0 ho c hm F hr hb hd hx ht) fun σ H Q h => by
  obtain ⟨W, env, M, s, p⟩ := h
  refine tE.bind s p fun d m W1 H1 u f1 s1 r1 p1 => ?_
  split at p1
  · rename_i i fs e
    split at p1
    · rename_i hv
      obtain ⟨hd, a1, dx, vs, e2, e3, h1, h2⟩ := insOf_ok s1.mem r1 e
      refine ⟨a1, dx, vs, e2, h1, rpk_none h2 hv, ?_⟩
      have p2 : PR ⟨X.K, cl⟩ W1 H1 (PV ⟨X.K, cl⟩ Q) E (if (d :: ([] ++ dd)).length = n then g (d :: ([] ++ dd)) m else .no) := p1
      split at p2
      · rename_i hl
        exact ⟨W1, m, d :: ([] ++ dd), s1.mem, ⟨u, _, rfl, r1, hcl W1 H1⟩, hl, p2⟩
      · exact p2.elim
    · exact p1.elim
  · exact p1.elim
/-- a new instance stands -/
theorem made_ok (m : MemOk G W H M) {x dx : Addr} (hx : H x = none) (hdx : H dx = none) (hne : dx ≠ x) : Fut W H ⟨W.as ++ [x], W.hd⟩ (upd (upd H dx (.own x)) x (.ins (G.cl c0) dx [])) ∧ MemOk G ⟨W.as ++ [x], W.hd⟩ (upd (upd H dx (.own x)) x (.ins (G.cl c0) dx [])) (M ++ [.ins c0 []]) ∧ Rp G ⟨W.as ++ [x], W.hd⟩ (upd (upd H dx (.own x)) x (.ins (G.cl c0) dx [])) (.ref M.length) (.ref x) := by
  have m1 : MemOk G W (upd H dx (.own x)) M := m.laid hdx
  have hx1 : upd H dx (.own x) x = none := by rw [upd_ne (Ne.symm hne)]; exact hx
  refine ⟨(Fut.laid hdx).trans (Fut.added m1 hx1), m1.added hx1 ⟨dx, [], upd_same, .nil⟩, x, ?_, rfl⟩
  rw [← m.len]
  simp
theorem make_post {K : PySem.W.Frag} {W1 : Wd} {H1 : Hp} {m1 : Mem} {Q : VK} {x dx : Addr} {as : List D} (mo : MemOk ⟨K, cl⟩ W1 H1 m1) (hx : H1 x = none) (hdx : H1 dx = none) (hne : dx ≠ x)
    (p : PR ⟨K, cl⟩ W1 H1 (PV ⟨K, cl⟩ Q) E ((g as (m1 ++ [.ins c0 []])).bind fun r m2 => match r with | .non => .ok (.ref m1.length) m2 | _ => .no)) :
    PR ⟨K, cl⟩ ⟨W1.as ++ [x], W1.hd⟩ (upd (upd H1 dx (.own x)) x (.ins (cl c0) dx [])) (PV ⟨K, cl⟩ fun v H2 => v = .non ∧ Q (.ref x) H2) E (g as (m1 ++ [.ins c0 []])) := by
  obtain ⟨f, m', r⟩ := made_ok (c0 := c0) mo hx hdx hne
  obtain ⟨b, hb, hb2⟩ := r
  cases hb2
  refine PR.bind (PR.fut f p) fun z m2 W2 H2 f2 k2 p2 => fun u hu => ?_
  cases z with
  | non =>
    cases hu
    exact ⟨rfl, p2.here k2 _ ⟨x, f2.get hb, rfl⟩⟩
  | _ => exact p2.elim
theorem make_reads {K : PySem.W.Frag} (hc : ClosedK K cl dd dvs) (σ : L2.St) (H : Hp) (Q : VK) (h : tE ⟨K, cl⟩ E (mMake c0 n g dd ga) σ H Q) : tMake (cl c0) (spOf ⟨K, cl⟩ n g) dvs E (tA ⟨K, cl⟩ E ga) σ H Q := by
  obtain ⟨W, env, M, s, p⟩ := h
  refine tA.bind s p fun ds m1 W1 H1 vs f1 s1 r1 p1 => ?_
  split at p1
  · rename_i hl
    intro x dx hx hdx hne
    obtain ⟨f, m', r⟩ := made_ok (c0 := c0) s1.mem hx hdx hne
    exact ⟨_, _, D.ref m1.length :: (ds ++ dd), m', ⟨_, _, rfl, r, (s1.mem.rpL f r1).append (hc _ _)⟩, hl, make_post s1.mem hx hdx hne p1⟩
  · exact p1.elim
theorem sn_make (Mk0 : Mk X.K (cl c0) f) (F : FnOk X.prog X.w X.K X.mg X.base CX k f fd ps (spOf ⟨X.K, cl⟩ n g)) (hr : Room (k + 1) X.A) (hg : Gl X x) (hm : X.mg x = some (.ref (cl c0))) (hb : Binds X.K fd ps ds) (hd : Vals dvs ds) (hc : ClosedK X.K cl dd dvs) (hx : Passes CX X E)
    (ha : PA X (e :: es) (tA ⟨X.K, cl⟩ E ga)) (hdb : (x == ("__debug__" : Str)) = false := by decide) (he : starEach (e :: es) X.env = (false, eval e X.env) :: starEach es X.env := by rfl) (hpl : (backTo pos (starEach es X.env)).any (·.1) = false := by rfl) :
    PE X (.Call (.Name x p) (e :: es) [] pos) (tE ⟨X.K, cl⟩ E (mMake c0 n g dd ga)) := pe_imp (pe_make Mk0 F hr hg hm hb hd hx ha hdb he hpl) (make_reads hc)
theorem sn_make0 (Mk0 : Mk X.K (cl c0) f) (F : FnOk X.prog X.w X.K X.mg X.base CX k f fd ps (spOf ⟨X.K, cl⟩ n g)) (hr : Room (k + 1) X.A) (hg : Gl X x) (hm : X.mg x = some (.ref (cl c0))) (hb : Binds X.K fd ps ds) (hd : Vals dvs ds) (hc : ClosedK X.K cl dd dvs) (hx : Passes CX X E)
    (hdb : (x == ("__debug__" : Str)) = false := by decide) : PE X (.Call (.Name x p) [] [] pos) (tE ⟨X.K, cl⟩ E (mMake c0 n g dd aNil)) := pe_imp (pe_make0 Mk0 F hr hg hm hb hd hx hdb) fun σ H Q ⟨W, env, M, s, p⟩ => by
  have p1 : PR ⟨X.K, cl⟩ W H (PV ⟨X.K, cl⟩ Q) E (if (D.ref M.length :: ([] ++ dd)).length = n then (g (D.ref M.length :: ([] ++ dd)) (M ++ [.ins c0 []])).bind fun r m2 => match r with | .non => .ok (.ref M.length) m2 | _ => .no else .no) := p
  split at p1
  · rename_i hl
    intro x dx hx hdx hne
    obtain ⟨f, m', r⟩ := made_ok (c0 := c0) s.mem hx hdx hne
    exact ⟨_, _, D.ref M.length :: ([] ++ dd), m', ⟨_, _, rfl, r, hc _ _⟩, hl, make_post s.mem hx hdx hne p1⟩
  · exact p1.elim
/-- binding with keywords: the defaults by K alone -/
structure KwBK (K : PySem.W.Frag) (cl : Nat → Addr) (fd : FuncData) (ps : List Str) (n : Nat) (ks : List Str) (π : Perm2) (dd : List D) : Prop where
  kb : ∃ (g : List Value → List Value → List Value) (gV : List V → List V → List V), KBn K fd ps n ks g gV ∧ ∀ (W : Wd) (H : Hp) (ds zs : List D) (vs ws : List V), RpL ⟨K, cl⟩ W H ds vs → RpL ⟨K, cl⟩ W H zs ws → RpL ⟨K, cl⟩ W H (π.on ds (zs ++ dd)) (gV vs ws)
theorem sn_makeKw (Mk0 : Mk X.K (cl c0) f) (F : FnOk X.prog X.w X.K X.mg X.base CX k f fd ps (spOf ⟨X.K, cl⟩ n g)) (hr : Room (k + 1) X.A) (hg : Gl X x) (hm : X.mg x = some (.ref (cl c0))) (hb : KwBK X.K cl fd ps 1 ks π dd) (hx : Passes CX X E)
    (hkw : PK X kws (tA ⟨X.K, cl⟩ E gk)) (hall : (backToKw pos (keywordEach kws X.env)).all (·.1.isSome) = true := by rfl) (hks : (backToKw pos (keywordEach kws X.env)).filterMap (·.1) = ks := by rfl) (hdb : (x == ("__debug__" : Str)) = false := by decide)
    (hpl : ((backTo pos (starEach [] X.env)).any (·.1) || (backToKw pos (keywordEach kws X.env)).any (·.1.isNone)) = false := by rfl) (hkn : ks.length = nk := by rfl) :
    PE X (.Call (.Name x p) [] kws pos) (tE ⟨X.K, cl⟩ E (mMakeKw c0 nk n π dd g gk)) := by
  subst hkn
  obtain ⟨gg, gV, hb1, hb2⟩ := hb.kb
  refine pe_imp (pe_makeK0 Mk0 F hr hg hm hb1 hx hkw hall hks hdb hpl) fun σ H Q ⟨W, env, M, s, p⟩ => ?_
  show tA ⟨X.K, cl⟩ E gk σ H _
  refine tA.bind s p fun zs m1 W1 H1 us f1 s1 r1 p1 => ?_
  split at p1
  · rename_i hl
    refine ⟨rfl, by rw [r1.len, hl.1], fun x dx hx hdx hne => ?_⟩
    obtain ⟨f, m', r⟩ := made_ok (c0 := c0) s1.mem hx hdx hne
    exact ⟨_, _, _, m', hb2 _ _ [D.ref m1.length] zs [V.ref x] us ⟨_, _, rfl, r, rfl⟩ (s1.mem.rpL f r1), hl.2, make_post s1.mem hx hdx hne p1⟩
  · exact p1.elim
end
end
end Fn

set_option Elab.async false
set_option linter.all false
set_option maxRecDepth 100000
set_option maxHeartbeats 1000000
/-! FnMore: enumerate, zip; keywords in any order; methods by keywords; clear; least and greatest of a list. -/
namespace Fn
open PySem PySem.Spec PyProof.Rows L2
section
variable {X : Cx} {G : Gx} {cl : Nat → Addr} {E : XK} {W : Wd} {H : Hp} {M : Mem} {a b c : Expr} {fa fb fc : FE} {pos : Pos}
/-! ### enumerate(list) -/
def numb (l : List D) : List D := (List.range l.length).zipWith (fun i d => .tup [.int (i : Nat), d]) l
theorem numb_get {l : List D} {i : Nat} {d : D} (h : (numb l)[i]? = some d) : ∃ x, l[i]? = some x ∧ d = .tup [.int (i : Nat), x] := by
  unfold numb at h
  rw [List.getElem?_zipWith] at h
  cases q : l[i]? with
  | none => rw [q] at h; cases q2 : (List.range l.length)[i]? <;> rw [q2] at h <;> cases h
  | some x =>
    have hi : i < l.length := (List.getElem?_eq_some_iff.mp q).1
    rw [q, List.getElem?_range hi] at h
    cases h
    exact ⟨x, rfl, rfl⟩
theorem numb_len (l : List D) : (numb l).length = l.length := by simp [numb]
def iEnumM (f : FE) : FI := fun env M => (f env M).bind fun d m => match lstOf m d, srcOf m d with
  | some l, some s => .ok ⟨numb l, s.still⟩ m
  | _, _ => .no
theorem src_enum {W0 : Wd} {H0 : Hp} {l : List D} {P : Mem → Prop} {a : Addr} (h : ∀ W H M, Kp W0 H0 W H → MemOk G W H M → P M → ∃ us, SqL G.K H a us ∧ RpL G W H l us) : SrcOk G W0 H0 ⟨numb l, P⟩ (Ite G.K a) where
  item := fun W H M f m st i d e => by
    obtain ⟨us, h1, h2⟩ := h W H M f m st
    obtain ⟨y, e1, rfl⟩ := numb_get e
    obtain ⟨u, e2, r2⟩ := h2.get e1
    refine ⟨⟨us, u, h1, e2⟩, fun x H' z => ?_⟩
    obtain ⟨T, x', rfl, hT, rfl, hx⟩ := z
    have := hx us h1
    rw [e2] at this; cases this
    exact ⟨Fut.laid hT, m.laid hT, T, _, rfl, .inl upd_same, _, _, rfl, rfl, _, _, rfl, m.rp (Fut.laid hT) r2, rfl⟩
  stop := fun W H M f m st => by
    obtain ⟨us, h1, h2⟩ := h W H M f m st
    exact ⟨us, h1, by rw [numb_len, h2.len]; exact Nat.le_refl _⟩
theorem aCons_bind {α : Type} {f : FE} {env : Fn.Env} {M : Mem} {k : List D → Mem → R α} : ((aCons f aNil) env M).bind k = (f env M).bind fun d m => k [d] m := by
  show ((f env M).bind fun d m => R.ok [d] m).bind k = _
  cases f env M <;> rfl
theorem si_enum {p tpos : Pos} {elts : List Expr} {kk : Nat} (hg : Gl X "enumerate") (hm : X.mg "enumerate" = none) (ha : PE X a (tE ⟨X.K, cl⟩ E fa)) (hs : starEach [a] X.env = (false, eval a X.env) :: starEach [] X.env := by rfl) (hs1 : starEach [a] X.env = [(false, eval a X.env)] := by rfl) :
    PI X (.Tuple elts kk tpos) (.Call (.Name "enumerate" p) [a] [] pos) (tI ⟨X.K, cl⟩ E (iEnumM fa)) := pi_imp (pi_enum hg hm (sa_cons ha sa_nil hs) hs1) fun σ H Rr ⟨W, env, M, s, p⟩ => by
  refine tA.bind (K := PI' ⟨X.K, cl⟩ Rr) (f := aCons fa aNil) (k := fun ds m => match ds with | [d] => (match lstOf m d, srcOf m d with | some l, some s => R.ok (⟨numb l, s.still⟩ : Src) m | _, _ => .no) | _ => .no) s ?_ fun ds m W1 H1 us f1 s1 r1 p1 => ?_
  · rw [aCons_bind]
    exact p
  · split at p1
    · rename_i d
      split at p1
      · rename_i l src e1 e2
        obtain ⟨u, rfl, r2⟩ := rp_one r1
        have k := p1.here s1.mem
        obtain ⟨a1, us, rfl, h2, h3⟩ := lstOf_ok s1.mem r2 e1
        obtain ⟨st, _⟩ := srcOf_ok s1.mem r2 e2
        refine ⟨a1, us, rfl, h2, k _ (src_enum fun W2 H2 M2 f2 m2 st2 => ?_) st⟩
        have r3 := Rp.kp f2 _ _ r2
        cases d with
        | ref i =>
          simp only [srcOf] at e2
          split at e2
          · rename_i l' hc
            cases e2
            have : lstOf M2 (.ref i) = some l := by
              simp only [lstOf, hc] at e1
              cases e1
              have st2' : M2[i]? = some (.lst l) := st2
              simp only [lstOf, st2']
            obtain ⟨a', us', e', h', r'⟩ := lstOf_ok m2 r3 this
            cases e'
            exact ⟨us', h', r'⟩
          · cases e2
        | lst l' =>
          cases e1
          obtain ⟨a', us', e', h', r'⟩ := lstOf_ok m2 r3 (d := .lst l) rfl
          cases e'
          exact ⟨us', h', r'⟩
        | fz l' =>
          cases e1
          obtain ⟨a', us', e', h', r'⟩ := lstOf_ok m2 r3 (d := .fz l) rfl
          cases e'
          exact ⟨us', h', r'⟩
        | _ => cases e1
      · exact p1.elim
    · exact p1.elim
/-! ### keywords in any order -/
def piIx (is : List Nat) : Perm2 := ⟨fun ds zs => is.filterMap fun i => (ds ++ zs)[i]?⟩
theorem rpl_pick {ds : List D} {vs : List V} (h : RpL G W H ds vs) : ∀ is : List Nat, RpL G W H (is.filterMap fun i => ds[i]?) (is.filterMap fun i => vs[i]?)
  | [] => (rfl : ([] : List V) = [])
  | i :: is => by
    rw [List.filterMap_cons, List.filterMap_cons]
    cases e : ds[i]? with
    | none =>
      have : vs[i]? = none := by
        rw [List.getElem?_eq_none_iff] at e ⊢
        rw [h.len]; exact e
      rw [this]
      exact rpl_pick h is
    | some d =>
      obtain ⟨u, e2, r⟩ := h.get e
      rw [e2]
      exact ⟨u, _, rfl, r, rpl_pick h is⟩
theorem vals_pick {vs : List V} {us : List Value} (h : Vals vs us) : ∀ is : List Nat, Vals (is.filterMap fun i => vs[i]?) (is.filterMap fun i => us[i]?)
  | [] => .nil
  | i :: is => by
    rw [List.filterMap_cons, List.filterMap_cons]
    cases e : vs[i]? with
    | none =>
      have : us[i]? = none := by
        rw [List.getElem?_eq_none_iff] at e ⊢
        rw [← h.length]; exact e
      rw [this]
      exact vals_pick h is
    | some d =>
      obtain ⟨u, e2, r⟩ := h.get e
      rw [e2]
      exact .cons r (vals_pick h is)
/-! ### o.m(.., k = v) -/
def tMethN (C : Addr) (m : Str) (n nk : Nat) (sp : Sp) (gV : List V → List V → List V) (E : XK) (ta : TE) (t tk : TA) : TE := fun σ H Q => ta σ H fun x H1 => ∃ a dx fs, x = .ref a ∧ H1 a = some (.ins C dx fs) ∧ fs.lookup m = none ∧
  t σ H1 fun vs H2 => tk σ H2 fun zs H3 => vs.length = n ∧ zs.length = nk ∧ sp (gV (.ref a :: vs) zs) H3 Q E
section
variable {CX : CXT} {k n np nk c0 : Nat} {f C : Addr} {fd : FuncData} {ps ks : List Str} {g : FD} {dd : List D} {sp : Sp} {gg : List Value → List Value → List Value} {gV : List V → List V → List V} {π : Perm2} {x m : Str} {p apos : Pos} {e o : Expr} {es : List Expr} {kws : List Keyword} {ga gk : FA} {ta : TE} {t tk : TA}
theorem pe_methN0 {pl : Sem Bool} (he : PE X o ta) (c : Cls X.K C) (hm : Meth X.K C m f) (F : FnOk X.prog X.w X.K X.mg X.base CX k f fd ps sp) (hr : Room k X.A) (hb : KBn X.K fd ps 1 ks gg gV) (hx : Passes CX X E) (hkw : PK X kws tk)
    (hall : (backToKw pos (keywordEach kws X.env)).all (·.1.isSome) = true := by rfl) (hks : (backToKw pos (keywordEach kws X.env)).filterMap (·.1) = ks := by rfl)
    (hpl : ((backTo pos (starEach [] X.env)).any (·.1) || (backToKw pos (keywordEach kws X.env)).any (·.1.isNone)) = false := by rfl)
    (ht : eval (.Call (.Attribute o m apos) [] kws pos) X.env = (do
      let ov ← eval o X.env
      standAt apos.atName
      let (f, first) ← holding [ov] (getMethod ov m pl)
      callWith pos f first (backTo pos (starEach [] X.env)) (backToKw pos (keywordEach kws X.env))) := by rfl) :
    PE X (.Call (.Attribute o m apos) [] kws pos) (tMethN C m 0 ks.length sp gV E ta tNil tk) := by
  refine ⟨fun pins s σ H Q I h => ?_⟩
  refine PySem.W.methodCall_KW (pl := pl) (thn (he.run pins s σ H _ I h) fun u s1 ⟨x, H1, I1, rx, a, dx, fs, ex, ea, l, q⟩ => ?_) ht
  subst ex
  obtain rfl : u = Value.ref a := rx
  refine getmeth_ok I1 ea c hm l ?_
  refine PySem.W.callWith_KW0 (first := [.ref a]) (h₀ := X.base) I.ok.mod.kin hm.kp hall ?_ hpl
  refine thn (hkw.run pos pins s1 σ H1 _ I1 q) fun ws s2 ⟨zs, H2, I2, rz, l1, l2, q2⟩ => ⟨I2.kIn, ?_⟩
  rw [hks]
  exact run_fnN (us := [.ref a]) (vs := [.ref a]) F hr hb hx I2 (.cons rfl .nil) rz rfl l2 q2
theorem pe_methN {pl : Sem Bool} (he : PE X o ta) (c : Cls X.K C) (hm : Meth X.K C m f) (F : FnOk X.prog X.w X.K X.mg X.base CX k f fd ps sp) (hr : Room k X.A) (hb : KBn X.K fd ps (n + 1) ks gg gV) (hx : Passes CX X E) (ha : PA X (e :: es) t) (hkw : PK X kws tk)
    (hall : (backToKw pos (keywordEach kws X.env)).all (·.1.isSome) = true := by rfl) (hks : (backToKw pos (keywordEach kws X.env)).filterMap (·.1) = ks := by rfl)
    (hst : starEach (e :: es) X.env = (false, eval e X.env) :: starEach es X.env := by rfl)
    (hpl : ((backTo pos (starEach (e :: es) X.env)).any (·.1) || (backToKw pos (keywordEach kws X.env)).any (·.1.isNone)) = false := by rfl)
    (ht : eval (.Call (.Attribute o m apos) (e :: es) kws pos) X.env = (do
      let ov ← eval o X.env
      standAt apos.atName
      let (f, first) ← holding [ov] (getMethod ov m pl)
      callWith pos f first (backTo pos (starEach (e :: es) X.env)) (backToKw pos (keywordEach kws X.env))) := by rfl) :
    PE X (.Call (.Attribute o m apos) (e :: es) kws pos) (tMethN C m n ks.length sp gV E ta t tk) := by
  refine ⟨fun pins s σ H Q I h => ?_⟩
  refine PySem.W.methodCall_KW (pl := pl) (thn (he.run pins s σ H _ I h) fun u s1 ⟨x, H1, I1, rx, a, dx, fs, ex, ea, l, q⟩ => ?_) ht
  subst ex
  obtain rfl : u = Value.ref a := rx
  refine getmeth_ok I1 ea c hm l ?_
  refine PySem.W.callWith_KW (first := [.ref a]) (h₀ := X.base) I.ok.mod.kin hm.kp hall (thn (ha.run pos pins s1 σ H1 _ I1 q) fun us s2 ⟨vs, H2, I2, r, q2⟩ => ?_) hpl hst
  refine thn (hkw.run pos pins s2 σ H2 _ I2 q2) fun ws s3 ⟨zs, H3, I3, rz, l1, l2, q3⟩ => ⟨I3.kIn, ?_⟩
  rw [hks]
  exact run_fnN (us := .ref a :: us) (vs := .ref a :: vs) F hr hb hx I3 (.cons rfl r) rz (congrArg Nat.succ l1) l2 q3
def mMthKw (c0 : Nat) (x : Str) (n nk np : Nat) (π : Perm2) (dd : List D) (g : FD) (fo : FE) (ga gk : FA) : FE := fun env M => (fo env M).bind fun d m => match insOf c0 m d with
  | some (_, fs) => match fs.lookup x with
    | none => (ga env m).bind fun ds m1 => (gk env m1).bind fun zs m2 => if ds.length = n ∧ zs.length = nk ∧ (π.on (d :: ds) (zs ++ dd)).length = np then g (π.on (d :: ds) (zs ++ dd)) m2 else .no
    | some _ => .no
  | none => .no
theorem sn_mthKw0 {pl : Sem Bool} (ho : PE X o (tE ⟨X.K, cl⟩ E fa)) (c : Cls X.K (cl c0)) (hm : Meth X.K (cl c0) m f) (F : FnOk X.prog X.w X.K X.mg X.base CX k f fd ps (spOf ⟨X.K, cl⟩ np g)) (hr : Room k X.A) (hb : KwBK X.K cl fd ps 1 ks π dd) (hx : Passes CX X E) (hkw : PK X kws (tA ⟨X.K, cl⟩ E gk))
    (hall : (backToKw pos (keywordEach kws X.env)).all (·.1.isSome) = true := by rfl) (hks : (backToKw pos (keywordEach kws X.env)).filterMap (·.1) = ks := by rfl)
    (hpl : ((backTo pos (starEach [] X.env)).any (·.1) || (backToKw pos (keywordEach kws X.env)).any (·.1.isNone)) = false := by rfl) (hkn : ks.length = nk := by rfl)
    (ht : eval (.Call (.Attribute o m apos) [] kws pos) X.env = (do
      let ov ← eval o X.env
      standAt apos.atName
      let (f, first) ← holding [ov] (getMethod ov m pl)
      callWith pos f first (backTo pos (starEach [] X.env)) (backToKw pos (keywordEach kws X.env))) := by rfl) :
    PE X (.Call (.Attribute o m apos) [] kws pos) (tE ⟨X.K, cl⟩ E (mMthKw c0 m 0 nk np π dd g fa aNil gk)) := by
  subst hkn
  obtain ⟨gg, gV, hb1, hb2⟩ := hb.kb
  refine pe_imp (pe_methN0 ho c hm F hr hb1 hx hkw hall hks hpl ht) fun σ H Q ⟨W, env, M, s, p⟩ => ?_
  refine tE.bind s p fun d m1 W1 H1 u f1 s1 r1 p1 => ?_
  split at p1
  · rename_i i fs e1
    split at p1
    · rename_i hv
      obtain ⟨hd, a1, dx, vs, e2, e3, h1, h2⟩ := insOf_ok s1.mem r1 e1
      refine ⟨a1, dx, vs, e2, h1, rpk_none h2 hv, ?_⟩
      have p1' : PR ⟨X.K, cl⟩ W1 H1 (PV ⟨X.K, cl⟩ Q) E ((gk env m1).bind fun zs m2 => if ([] : List D).length = 0 ∧ zs.length = ks.length ∧ (π.on [d] (zs ++ dd)).length = np then g (π.on [d] (zs ++ dd)) m2 else .no) := p1
      show tA ⟨X.K, cl⟩ E gk σ H1 _
      refine tA.bind s1 p1' fun zs m2 W2 H2 us f2 s2 r2 p2 => ?_
      split at p2
      · rename_i hl
        exact ⟨rfl, by rw [r2.len, hl.2.1], W2, m2, _, s2.mem, hb2 _ _ [d] zs [V.ref a1] us ⟨_, _, rfl, by rw [← e2]; exact s1.mem.rp f2 r1, rfl⟩ r2, hl.2.2, p2⟩
      · exact p2.elim
    · exact p1.elim
  · exact p1.elim
theorem sn_mthKw {pl : Sem Bool} (ho : PE X o (tE ⟨X.K, cl⟩ E fa)) (c : Cls X.K (cl c0)) (hm : Meth X.K (cl c0) m f) (F : FnOk X.prog X.w X.K X.mg X.base CX k f fd ps (spOf ⟨X.K, cl⟩ np g)) (hr : Room k X.A) (hb : KwBK X.K cl fd ps (n + 1) ks π dd) (hx : Passes CX X E) (ha : PA X (e :: es) (tA ⟨X.K, cl⟩ E ga)) (hkw : PK X kws (tA ⟨X.K, cl⟩ E gk))
    (hall : (backToKw pos (keywordEach kws X.env)).all (·.1.isSome) = true := by rfl) (hks : (backToKw pos (keywordEach kws X.env)).filterMap (·.1) = ks := by rfl)
    (hst : starEach (e :: es) X.env = (false, eval e X.env) :: starEach es X.env := by rfl)
    (hpl : ((backTo pos (starEach (e :: es) X.env)).any (·.1) || (backToKw pos (keywordEach kws X.env)).any (·.1.isNone)) = false := by rfl) (hkn : ks.length = nk := by rfl)
    (ht : eval (.Call (.Attribute o m apos) (e :: es) kws pos) X.env = (do
      let ov ← eval o X.env
      standAt apos.atName
      let (f, first) ← holding [ov] (getMethod ov m pl)
      callWith pos f first (backTo pos (starEach (e :: es) X.env)) (backToKw pos (keywordEach kws X.env))) := by rfl) :
    PE X (.Call (.Attribute o m apos) (e :: es) kws pos) (tE ⟨X.K, cl⟩ E (mMthKw c0 m n nk np π dd g fa ga gk)) := by
  subst hkn
  obtain ⟨gg, gV, hb1, hb2⟩ := hb.kb
  refine pe_imp (pe_methN ho c hm F hr hb1 hx ha hkw hall hks hst hpl ht) fun σ H Q ⟨W, env, M, s, p⟩ => ?_
  refine tE.bind s p fun d m1 W1 H1 u f1 s1 r1 p1 => ?_
  split at p1
  · rename_i i fs e1
    split at p1
    · rename_i hv
      obtain ⟨hd, a1, dx, vs, e2, e3, h1, h2⟩ := insOf_ok s1.mem r1 e1
      refine ⟨a1, dx, vs, e2, h1, rpk_none h2 hv, ?_⟩
      refine tA.bind s1 p1 fun ds m2 W2 H2 us f2 s2 r2 p2 => ?_
      refine tA.bind s2 p2 fun zs m3 W3 H3 ws f3 s3 r3 p3 => ?_
      split at p3
      · rename_i hl
        exact ⟨by rw [r2.len, hl.1], by rw [r3.len, hl.2.1], W3, m3, _, s3.mem, hb2 _ _ (d :: ds) zs (V.ref a1 :: us) ws ⟨_, _, rfl, by rw [← e2]; exact s2.mem.rp f3 (s1.mem.rp f2 r1), s2.mem.rpL f3 r2⟩ r3, hl.2.2, p3⟩
      · exact p3.elim
    · exact p1.elim
  · exact p1.elim
end
/-! ### clear; least, greatest of a list of whole numbers -/
def oClear : D → List D → Mem → R D
  | .ref i, [], M => match M[i]? with
    | some (.lst _) => .ok .non (M.set i (.lst []))
    | _ => .no
  | _, _, _ => .no
theorem mt1_clear : Mt1 G E rClear oClear := fun W H M a u ds us Q m ra r p => by
  unfold oClear at p
  split at p
  · have : us = [] := r
    subst this
    split at p
    · rename_i l hc
      obtain ⟨a1, e1, rfl⟩ := ra
      obtain ⟨vs, h1, h2⟩ := m.cell _ _ a1 hc e1
      refine ⟨a1, vs, rfl, rfl, h1, ?_⟩
      have f := Fut.wrote (W := W) (H := H) (o := .lst []) e1
      exact p W _ f (m.wrote e1 ⟨[], upd_same, rfl⟩) _ rfl
    · exact p.elim
  · exact p.elim
def intOf : D → Option Int
  | .int i => some i
  | _ => none
theorem intOf_eq {d : D} {i : Int} (h : intOf d = some i) : d = .int i := by
  cases d <;> first
    | (cases h; rfl)
    | cases h
def intsOf : List D → Option (List Int)
  | [] => some []
  | d :: r => match intOf d, intsOf r with
    | some i, some l => some (i :: l)
    | _, _ => none
theorem intsOf_map (ns : List Int) : intsOf (ns.map .int) = some ns := by
  induction ns with
  | nil => rfl
  | cons n r ih => rw [List.map_cons, intsOf, ih]; rfl
theorem intsOf_ok : ∀ {l : List D} {us : List V} {ns : List Int}, RpL G W H l us → intsOf l = some ns → us = ns.map V.int
  | [], us, ns, r, e => by have : us = [] := r; subst this; cases e; rfl
  | d :: l, us, ns, r, e => by
    obtain ⟨u, us', rfl, r1, r2⟩ := r
    simp only [intsOf] at e
    split at e
    · rename_i i ms h1 h2
      cases e
      rw [intOf_eq h1] at r1
      have : u = .int i := r1
      rw [this, intsOf_ok r2 h2]
      rfl
    · cases e
def least (a : Int) : List Int → Int
  | [] => a
  | b :: r => least (if b < a then b else a) r
theorem least_mem : ∀ (l : List Int) (a : Int), least a l ∈ a :: l
  | [], a => by simp [least]
  | b :: r, a => by
    have := least_mem r (if b < a then b else a)
    unfold least
    rcases List.mem_cons.mp this with h | h
    · by_cases hb : b < a
      · rw [if_pos hb] at h ⊢; rw [h]; simp
      · rw [if_neg hb] at h ⊢; rw [h]; simp
    · exact List.mem_cons_of_mem _ (List.mem_cons_of_mem _ h)
theorem least_le : ∀ (l : List Int) (a : Int), ∀ y ∈ a :: l, least a l ≤ y
  | [], a, y, h => by simp at h; subst h; exact Int.le_refl _
  | b :: r, a, y, h => by
    unfold least
    have ih := least_le r (if b < a then b else a)
    have h0 := ih (if b < a then b else a) (List.mem_cons_self ..)
    rcases List.mem_cons.mp h with h | h
    · subst h
      refine Int.le_trans h0 ?_
      split <;> omega
    · rcases List.mem_cons.mp h with h | h
      · subst h
        refine Int.le_trans h0 ?_
        split <;> omega
      · exact ih y (List.mem_cons_of_mem _ h)
def oMinL : List D → Mem → R D
  | [d], M => match (lstOf M d).bind intsOf with
    | some (x :: r) => .ok (.int (least x r)) M
    | _ => .no
  | _, _ => .no
theorem fn_minL : Fn1 G E (rMin G.K) oMinL := fun W H M ds us Q m r p => by
  unfold oMinL at p
  split at p
  · rename_i d
    obtain ⟨u, rfl, r1⟩ := rp_one r
    split at p
    · rename_i x rs e
      cases q : lstOf M d with
      | none => rw [q] at e; cases e
      | some l =>
        rw [q] at e
        have e' : intsOf l = some (x :: rs) := e
        obtain ⟨a1, vs, rfl, h2, h3⟩ := lstOf_ok m r1 q
        refine ⟨a1, x :: rs, rfl, by rw [← intsOf_ok h3 e']; exact h2, by simp, fun mm hm hall => ?_⟩
        have : mm = least x rs := Int.le_antisymm (hall _ (least_mem rs x)) (least_le rs x mm hm)
        subst this
        exact p.here m _ rfl
    · exact p.elim
  · exact p.elim
end
end Fn

set_option Elab.async false
set_option linter.all false
set_option maxRecDepth 100000
set_option maxHeartbeats 4000000
/-! FnLaw2: evaluation lemmas for instances; plain things; feeds, draws, mixed. -/
namespace Fn
open PySem PySem.Spec PyProof.Rows L2
section
variable {env : Env} {M : Mem}
theorem mFld_eq (c0 : Nat) (f : Str) (fa : FE) : mFld c0 f fa env M = (fa env M).bind fun d m => match insOf c0 m d with | some (_, fs) => (match fs.lookup f with | some v => .ok v m | none => .no) | none => .no := rfl
theorem mFldSet_eq (c0 : Nat) (f : Str) (fa fv : FE) : mFldSet c0 f fa fv env M = (fv env M).bind fun v m => (fa env m).bind fun d m2 => match insOf c0 m2 d with | some (i, fs) => if fs.length < 1000 then .ok (.nx env) (m2.set i (.ins c0 (putD f v fs))) else .no | none => .no := rfl
theorem mFldAug_eq (c0 : Nat) (f : Str) (g : Int → Int → Int) (fa fv : FE) : mFldAug c0 f g fa fv env M = (fa env M).bind fun d m => match insOf c0 m d with | some (i, fs) => (match fs.lookup f with | some (.int x) => (fv env m).bind fun v m2 => (match v, insOf c0 m2 d with | .int y, some (_, fs') => if fs'.length < 1000 then .ok (.nx env) (m2.set i (.ins c0 (putD f (.int (g x y)) fs'))) else .no | _, _ => .no) | _ => .no) | none => .no := rfl
theorem mMth_eq (c0 : Nat) (x : Str) (n : Nat) (g : FD) (dd : List D) (fo : FE) (ga : FA) : mMth c0 x n g dd fo ga env M = (fo env M).bind fun d m => match insOf c0 m d with | some (_, fs) => (match fs.lookup x with | none => (ga env m).bind fun ds m2 => if (d :: (ds ++ dd)).length = n then g (d :: (ds ++ dd)) m2 else .no | some _ => .no) | none => .no := rfl
theorem mMake_eq (c0 n : Nat) (g : FD) (dd : List D) (ga : FA) : mMake c0 n g dd ga env M = (ga env M).bind fun ds m => if (D.ref m.length :: (ds ++ dd)).length = n then (g (D.ref m.length :: (ds ++ dd)) (m ++ [.ins c0 []])).bind fun r m2 => (match r with | .non => .ok (.ref m.length) m2 | _ => .no) else .no := rfl
theorem mMakeKw_eq (c0 nk n : Nat) (π : Perm2) (dd : List D) (g : FD) (gk : FA) : mMakeKw c0 nk n π dd g gk env M = (gk env M).bind fun zs m => if zs.length = nk ∧ (π.on [D.ref m.length] (zs ++ dd)).length = n then (g (π.on [D.ref m.length] (zs ++ dd)) (m ++ [.ins c0 []])).bind fun r m2 => (match r with | .non => .ok (.ref m.length) m2 | _ => .no) else .no := rfl
theorem insOf_at {c0 i : Nat} {fs : List (Str × D)} (h : M[i]? = some (.ins c0 fs)) : insOf c0 M (.ref i) = some (i, fs) := by
  simp only [insOf, h, if_true]
theorem lstOf_at {i : Nat} {l : List D} (h : M[i]? = some (.lst l)) : lstOf M (.ref i) = some l := by simp only [lstOf, h]
theorem oLen_ref {i : Nat} {l : List D} (h : M[i]? = some (.lst l)) : oLen [.ref i] M = .ok (.int l.length) M := by
  simp only [oLen, seqOf, lstOf, h]
  all_goals rfl
theorem oAppend_at {i : Nat} {l : List D} {d : D} (h : M[i]? = some (.lst l)) (hl : l.length < 16777216) : oAppend (.ref i) [d] M = .ok .non (M.set i (.lst (l ++ [d]))) := by
  simp only [oAppend, h, if_pos hl]
theorem oExtend_at {i : Nat} {l l' : List D} {d : D} (h : M[i]? = some (.lst l)) (h' : ownOf M d = some l') (hl : l.length + l'.length ≤ 16777216) : oExtend (.ref i) [d] M = .ok .non (M.set i (.lst (l ++ l'))) := by
  simp only [oExtend, h, h', if_pos hl]
theorem tyOk_at {i : Nat} {l : List D} (h : M[i]? = some (.lst l)) : tyOk "list" M (.ref i) = true := by
  simp only [tyOk, h]
  all_goals rfl
theorem whileM_succ (c : FT) (body : FS) (n : Nat) (env : Env) (M : Mem) : whileM c body (n + 1) env M = (c env M).bind fun b m => if b = true then (body env m).bind fun fl m' => (match fl with
      | .nx env' => whileM c body n env' m'
      | .ct env' => whileM c body n env' m'
      | .bk env' => .ok (.nx env') m'
      | .rt d => .ok (.rt d) m')
    else .ok (.nx env) m := rfl
theorem compL_nilP {P : Mem → Prop} {g : FG} {t : FT} {f : FE} (hP : P M) : compL P g t f env [] M = .ok [] M := by
  unfold compL; rw [if_pos hP]
theorem compL_consP {P : Mem → Prop} {g : FG} {t : FT} {f : FE} {d : D} {r : List D} (hP : P M) : compL P g t f env (d :: r) M = (g d env M).bind fun env1 m1 => (t env1 m1).bind fun b m2 => if b = true then (f env1 m2).bind fun y m3 => (compL P g t f env r m3).bind fun ys m4 => .ok (y :: ys) m4 else compL P g t f env r m2 := by
  conv => lhs; unfold compL
  rw [if_pos hP]
/-- a comprehension that leaves the memory -/
theorem compL_pureP {P : Mem → Prop} (hP : P M) {g : FG} {t : FT} {f : FE} (T : D → Bool) (F : D → D) : ∀ (items : List D), (∀ d ∈ items, ∃ env1, g d env M = .ok env1 M ∧ t env1 M = .ok (T d) M ∧ (T d = true → f env1 M = .ok (F d) M)) →
    compL P g t f env items M = .ok ((items.filter T).map F) M
  | [], _ => compL_nilP hP
  | d :: r, h => by
    obtain ⟨env1, h1, h2, h3⟩ := h d (List.mem_cons_self ..)
    have ih := compL_pureP hP T F r fun d' hd => h d' (List.mem_cons_of_mem _ hd)
    rw [compL_consP hP, h1, R.bind_ok, h2, R.bind_ok]
    cases ht : T d with
    | true => rw [if_pos rfl, h3 ht, R.bind_ok, ih, R.bind_ok, List.filter_cons_of_pos ht, List.map_cons]
    | false => rw [if_neg Bool.false_ne_true, ih, List.filter_cons_of_neg (by simp [ht])]
end
/-! ### plain things -/
def Pl (n : Nat) (d : D) : Prop := ∃ p, pyD d = some p ∧ p.depth ≤ n
def PlL (n : Nat) (l : List D) : Prop := ∀ d ∈ l, Pl n d
theorem PlL.py {n : Nat} : ∀ {l : List D}, PlL n l → ∃ ps, pyL l = some ps ∧ PyData.depthAll ps ≤ n
  | [], _ => ⟨[], rfl, Nat.zero_le _⟩
  | d :: r, h => by
    obtain ⟨p, h1, h2⟩ := h d (List.mem_cons_self ..)
    obtain ⟨ps, h3, h4⟩ := PlL.py (l := r) fun x hx => h x (List.mem_cons_of_mem _ hx)
    refine ⟨p :: ps, by simp only [pyL, h1, h3], ?_⟩
    simp only [PyData.depthAll]
    omega
theorem Pl.str {n : Nat} (x : List Nat) : Pl n (.str x) := ⟨_, rfl, by simp only [PyData.depth]; omega⟩
theorem Pl.int {n : Nat} (x : Int) : Pl n (.int x) := ⟨_, rfl, by simp only [PyData.depth]; omega⟩
theorem Pl.non {n : Nat} : Pl n .non := ⟨_, rfl, by simp only [PyData.depth]; omega⟩
theorem Pl.bl {n : Nat} (x : Bool) : Pl n (.bl x) := ⟨_, rfl, by simp only [PyData.depth]; omega⟩
theorem Pl.tup {n : Nat} {l : List D} (h : PlL n l) : Pl (n + 1) (.tup l) := by
  obtain ⟨ps, h1, h2⟩ := h.py
  exact ⟨.tuple ps, by simp only [pyD, h1, Option.map_some], by simp only [PyData.depth]; omega⟩
theorem Pl.lst {n : Nat} {l : List D} (h : PlL n l) : Pl (n + 1) (.lst l) := by
  obtain ⟨ps, h1, h2⟩ := h.py
  exact ⟨.list ps, by simp only [pyD, h1, Option.map_some], by simp only [PyData.depth]; omega⟩
theorem Pl.mono {n m : Nat} {d : D} (h : Pl n d) (hm : n ≤ m) : Pl m d := by
  obtain ⟨p, h1, h2⟩ := h
  exact ⟨p, h1, by omega⟩
theorem PlL.nil {n : Nat} : PlL n [] := fun d h => by cases h
theorem PlL.cons {n : Nat} {d : D} {l : List D} (h : Pl n d) (t : PlL n l) : PlL n (d :: l) := fun x hx => by
  rcases List.mem_cons.mp hx with rfl | hx
  · exact h
  · exact t x hx
mutual
theorem pyD_bd {n : Nat} : ∀ {d : D} {p : PyData}, pyD d = some p → bdD n d = true
  | .non, _, _ => rfl
  | .bl _, _, _ => rfl
  | .int _, _, _ => rfl
  | .str _, _, _ => rfl
  | .tup l, p, e => by
    simp only [pyD] at e
    cases q : pyL l with
    | none => rw [q] at e; cases e
    | some ps => exact pyL_bd q
  | .lst l, p, e => by
    simp only [pyD] at e
    cases q : pyL l with
    | none => rw [q] at e; cases e
    | some ps => exact pyL_bd q
  | .fz l, p, e => by
    simp only [pyD] at e
    cases q : pyL l with
    | none => rw [q] at e; cases e
    | some ps => exact pyL_bd q
  | .ref i, p, e => by cases e
theorem pyL_bd {n : Nat} : ∀ {l : List D} {ps : List PyData}, pyL l = some ps → bdL n l = true
  | [], _, _ => rfl
  | d :: l, ps, e => by
    simp only [pyL] at e
    split at e
    · rename_i a b h1 h2
      simp only [bdL, pyD_bd h1, pyL_bd h2, Bool.and_self]
    · cases e
end
theorem PlL.bd {k n : Nat} {l : List D} (h : PlL k l) : bdL n l = true := by
  obtain ⟨ps, h1, _⟩ := h.py
  exact pyL_bd h1
mutual
theorem frzD_py (m : Mem) (n : Nat) : ∀ (d : D) (p : PyData), pyD d = some p → frzD m n d = d
  | .non, _, _ => rfl
  | .bl _, _, _ => rfl
  | .int _, _, _ => rfl
  | .str _, _, _ => rfl
  | .tup l, p, e => by
    simp only [pyD] at e
    cases q : pyL l with
    | none => rw [q] at e; cases e
    | some ps => simp only [frzD, frzL_py m n l ps q]
  | .lst l, p, e => by
    simp only [pyD] at e
    cases q : pyL l with
    | none => rw [q] at e; cases e
    | some ps => simp only [frzD, frzL_py m n l ps q]
  | .fz l, p, e => by
    simp only [pyD] at e
    cases q : pyL l with
    | none => rw [q] at e; cases e
    | some ps => simp only [frzD, frzL_py m n l ps q]
  | .ref i, p, e => by cases e
theorem frzL_py (m : Mem) (n : Nat) : ∀ (l : List D) (ps : List PyData), pyL l = some ps → frzL m n l = l
  | [], _, _ => rfl
  | d :: l, ps, e => by
    simp only [pyL] at e
    split at e
    · rename_i a b h1 h2
      simp only [frzL, frzD_py m n d a h1, frzL_py m n l b h2]
    · cases e
end
theorem pyM_lst {M : Mem} {d : D} {l : List D} {ps : List PyData} (h1 : pyL l = some ps) (h : lstOf M d = some l) : pyM M d = some (.list ps) := by
  cases d with
  | lst l' => cases h; simp only [pyM, pyGo, pyGoL_of h1, Option.map_some]
  | fz l' => cases h; simp only [pyM, pyGo, pyGoL_of h1, Option.map_some]
  | ref i =>
    simp only [lstOf] at h
    split at h
    · rename_i l' hc
      cases h
      simp only [pyM, pyGo, kN, hc, pyGoL_of h1, Option.map_some]
    · cases h
  | _ => cases h
/-- equal to itself -/
theorem oEq_self {n : Nat} {ne : Bool} {a b : D} {l : List D} {M : Mem} (hl : PlL n l) (hn : n ≤ 50) (ha : lstOf M a = some l) (hb : lstOf M b = some l) : oEq ne a b M = .ok (.bl (!ne)) M := by
  obtain ⟨ps, h1, h2⟩ := hl.py
  have k : ∀ {d : D}, lstOf M d = some l → pyM M d = some (.list ps) := fun {d} h => pyM_lst h1 h
  have hp : (PyData.list ps).plain = true := by simp only [PyData.plain]; exact pyL_plain h1
  have hd : min (PyData.list ps).depth (PyData.list ps).depth ≤ 60 := by simp only [PyData.depth]; omega
  have he : PyData.eqv (.list ps) (.list ps) = true := PySem.SeqAt.eqv_refl_plain _ hp
  simp only [oEq, k ha, k hb, if_pos hd, he]
  cases ne <;> rfl
theorem pyL_len : ∀ {l : List D} {ps : List PyData}, pyL l = some ps → ps.length = l.length
  | [], ps, e => by cases e; rfl
  | d :: l, ps, e => by
    simp only [pyL] at e
    split at e
    · rename_i a b h1 h2
      cases e
      simp [pyL_len h2]
    · cases e
/-- beside the empty list -/
theorem oEq_nil {n : Nat} {ne : Bool} {a : D} {l : List D} {M : Mem} (hl : PlL n l) (ha : lstOf M a = some l) : oEq ne a (.lst []) M = .ok (.bl (ne != l.isEmpty)) M := by
  obtain ⟨ps, h1, h2⟩ := hl.py
  have k : pyM M a = some (.list ps) := pyM_lst h1 ha
  have k2 : pyM M (.lst []) = some (.list []) := rfl
  have hd : min (PyData.list ps).depth (PyData.list []).depth ≤ 60 := by simp only [PyData.depth, PyData.depthAll]; omega
  simp only [oEq, k, k2, if_pos hd]
  have hlen := pyL_len h1
  cases ps with
  | nil => cases l with
    | nil => cases ne <;> rfl
    | cons d r => cases hlen
  | cons p r => cases l with
    | nil => cases hlen
    | cons d r => cases ne <;> rfl
theorem oEq_tnil {n : Nat} {ne : Bool} {l : List D} {M : Mem} (hl : PlL n l) : oEq ne (.tup l) (.tup []) M = .ok (.bl (ne != l.isEmpty)) M := by
  obtain ⟨ps, h1, h2⟩ := hl.py
  have k : pyM M (.tup l) = some (.tuple ps) := by simp only [pyM, pyGo, pyGoL_of h1, Option.map_some]
  have k2 : pyM M (.tup []) = some (.tuple []) := rfl
  have hd : min (PyData.tuple ps).depth (PyData.tuple []).depth ≤ 60 := by simp only [PyData.depth, PyData.depthAll]; omega
  simp only [oEq, k, k2, if_pos hd]
  have hlen := pyL_len h1
  cases ps with
  | nil => cases l with
    | nil => cases ne <;> rfl
    | cons d r => cases hlen
  | cons p r => cases l with
    | nil => cases hlen
    | cons d r => cases ne <;> rfl
/-! ### feeds -/
structure Fd where
  own : Int
  seed : Int
  cnt : Int
def Fd.c (s : Fd) : Cell := .lst [.int s.own, .int s.seed, .int s.cnt]
structure FdAt (M0 : Mem) (i : Nat) (M : Mem) : Prop where
  at_ : ∃ s : Fd, M = M0.set i s.c
  lt : i < M0.length
theorem FdAt.get {M0 M : Mem} {i : Nat} (h : FdAt M0 i M) : ∃ s : Fd, M[i]? = some s.c ∧ ∀ s' : Fd, FdAt M0 i (M.set i s'.c) := by
  obtain ⟨s, h2⟩ := h.at_
  exact ⟨s, by rw [h2]; exact List.getElem?_set_self h.lt, fun s' => ⟨⟨s', by rw [h2, set_twice]⟩, h.lt⟩⟩
theorem FdAt.start {M : Mem} {i : Nat} {s : Fd} (h : M[i]? = some s.c) : FdAt M i M := by
  obtain ⟨h1, h2⟩ := List.getElem?_eq_some_iff.mp h
  exact ⟨⟨s, by rw [← h2, List.set_getElem_self]⟩, h1⟩
theorem FdAt.len {M0 M : Mem} {i : Nat} (h : FdAt M0 i M) : M.length = M0.length := by
  obtain ⟨s, h2⟩ := h.at_
  rw [h2, List.length_set]
theorem FdAt.other {M0 M : Mem} {i j : Nat} (h : FdAt M0 i M) (hj : i ≠ j) : M[j]? = M0[j]? := by
  obtain ⟨s, e⟩ := h.at_
  rw [e, List.getElem?_set_ne hj]
theorem FdAt.trans {M0 M1 M2 : Mem} {i : Nat} (h : FdAt M0 i M1) (h' : FdAt M1 i M2) : FdAt M0 i M2 := by
  obtain ⟨s, e⟩ := h.at_
  obtain ⟨s', e'⟩ := h'.at_
  exact ⟨⟨s', by rw [e', e, set_twice]⟩, h.lt⟩
theorem FdAt.self {M0 M1 : Mem} {i : Nat} (h : FdAt M0 i M1) : FdAt M1 i M1 := by
  obtain ⟨s, h1, _⟩ := h.get
  exact .start h1
def feedB : FS := (mSeq (mSet 2 (mOp (oAdd false) (mOp (oMul false) (mC (.int 7643)) (mVar 1)) (mC (.int 41)))) (mSeq (mIfS (bOf (mOp oLt (mVar 1) (mCall oLen (aCons (mVar 0) aNil)))) (mSet 2 (mCall oAbs (aCons (mOp oIx (mVar 0) (mVar 1)) aNil))) (mIfS (bOf (mOp oGt (mCall oLen (aCons (mVar 0) aNil)) (mC (.int 0)))) (mSet 2 (mOp (oAdd false) (mVar 2) (mOp (oMul false) (mOp oMod (mOp oIx (mVar 0) (mOp oMod (mVar 1) (mCall oLen (aCons (mVar 0) aNil)))) (mC (.int 2147483629))) (mC (.int 69623))))) mPass)) (mSeq (mSet 3 (mOp (oAdd false) (mOp oMod (mOp (oAdd false) (mOp (oAdd false) (mOp (oMul false) (mOp oMod (mVar 2) (mC (.int 2147483629))) (mC (.int 48271))) (mOp (oMul false) (mC (.int 40692)) (mVar 1))) (mC (.int 11))) (mC (.int 2147483629))) (mC (.int 1)))) (mRet (mLst true (aCons (mOp oIx (mLst false (aCons (mC (.int 0)) (aCons (mVar 2) aNil))) (mCall oInt (aCons (mOp oGe (mVar 2) (mOp oPow (mC (.int 10)) (mC (.int 18)))) aNil))) (aCons (mVar 3) (aCons (mC (.int 0)) aNil))))))))
theorem j1 : -18446744073709551616 < (7643 : Int) := by omega
theorem j2 : (7643 : Int) < 18446744073709551616 := by omega
theorem j3 : -18446744073709551616 < (69623 : Int) := by omega
theorem j4 : (69623 : Int) < 18446744073709551616 := by omega
theorem j5 : -18446744073709551616 < (104729 : Int) := by omega
theorem j6 : (104729 : Int) < 18446744073709551616 := by omega
theorem j7 : -18446744073709551616 < (2147483647 : Int) := by omega
theorem j8 : (2147483647 : Int) < 18446744073709551616 := by omega
theorem oAbs_int {M : Mem} (i : Int) : oAbs [.int i] M = .ok (.int (if i < 0 then -i else i)) M := rfl
theorem at20 {α : Type} (a b : α) : atI [a, b] 0 = some a := rfl
theorem at21 {α : Type} (a b : α) : atI [a, b] 1 = some b := rfl
theorem feed_run (ns : List Int) (k : Nat) (M : Mem) : ∃ s : Fd, feedB [some (.fz (intsD ns)), some (.int k), none, none] M = .ok (.rt (.ref M.length)) (M ++ [s.c]) := by
  have tail : ∀ c : Int, ∃ s : Fd, ((mSeq (mSet 3 (mOp (oAdd false) (mOp oMod (mOp (oAdd false) (mOp (oAdd false) (mOp (oMul false) (mOp oMod (mVar 2) (mC (.int 2147483629))) (mC (.int 48271))) (mOp (oMul false) (mC (.int 40692)) (mVar 1))) (mC (.int 11))) (mC (.int 2147483629))) (mC (.int 1)))) (mRet (mLst true (aCons (mOp oIx (mLst false (aCons (mC (.int 0)) (aCons (mVar 2) aNil))) (mCall oInt (aCons (mOp oGe (mVar 2) (mOp oPow (mC (.int 10)) (mC (.int 18)))) aNil))) (aCons (mVar 3) (aCons (mC (.int 0)) aNil)))))) [some (.fz (intsD ns)), some (.int k), some (.int c), none] M : R Flow) = .ok (.rt (.ref M.length)) (M ++ [s.c]) := by
    intro c
    by_cases h : 1000000000000000000 ≤ c
    · refine ⟨⟨c, (c % 2147483629 * 48271 + 40692 * k + 11) % 2147483629 + 1, 0⟩, ?_⟩
      simp -implicitDefEqProofs only [mSeq_eq, mIfS_eq, mSet_eq, mRet_eq, mRetN_eq, mExpr_eq, mPass_eq, mAsg_eq, mPar_eq, mAug_eq, bOf_eq, tOf_eq, tAndM_eq, tOrM_eq, tNotM_eq, tsYes_eq, mOp_eq, mUn_eq, mVar_eq, mC_eq, mCall_eq, mFun_eq, mFunKw_eq, mMeth_eq, mAnd_eq, mOr_eq, mNot_eq, mIf_eq, mChain_eq, mSl_eq, pNone_eq, pSome_eq, aCons_eq, aNil_eq, mTup_eq, mLst_eq, gN_eq, gT_eq, gsNil_eq, gsCons_eq, mkL_t, mkL_f, R.bind_ok, R.bind_no, R.nox_ok, List.getElem?_cons_zero, List.getElem?_cons_succ, List.set_cons_zero, List.set_cons_succ, List.length_cons, List.length_nil, List.append_nil, List.nil_append, List.cons_append, piApp_on, oLen_fz, oLen_lst, oLen_tup, oLt_int, oLe_int, oGt_int, oGe_int, oAdd_int, oSub_int, oIx_fz, oIx_lst, oIx_tup, oMax_int, oMin_int, oInt_bl, oInt_int, oIsi_bl, oNeg_int, oTuple_lst, oTuple_tup, iR1_eq, iR2_eq, iSq_eq, iStrM_eq, srcOf_tup, srcOf_lst, srcOf_fz, if_true, if_false, Bool.false_eq_true, Bool.true_eq_false, reduceIte, Nat.reduceAdd, Nat.reduceLeDiff, Nat.reduceEqDiff, decide_true, decide_false, and_self, and_true, true_and, pow_10_18, decide_eq_true h, oMod_int _ 2147483629 i5, oMul_r _ _ 48271 i6 i7, oMul_l _ 40692 _ i11 i12, at21]
      rfl
    · refine ⟨⟨0, (c % 2147483629 * 48271 + 40692 * k + 11) % 2147483629 + 1, 0⟩, ?_⟩
      simp -implicitDefEqProofs only [mSeq_eq, mIfS_eq, mSet_eq, mRet_eq, mRetN_eq, mExpr_eq, mPass_eq, mAsg_eq, mPar_eq, mAug_eq, bOf_eq, tOf_eq, tAndM_eq, tOrM_eq, tNotM_eq, tsYes_eq, mOp_eq, mUn_eq, mVar_eq, mC_eq, mCall_eq, mFun_eq, mFunKw_eq, mMeth_eq, mAnd_eq, mOr_eq, mNot_eq, mIf_eq, mChain_eq, mSl_eq, pNone_eq, pSome_eq, aCons_eq, aNil_eq, mTup_eq, mLst_eq, gN_eq, gT_eq, gsNil_eq, gsCons_eq, mkL_t, mkL_f, R.bind_ok, R.bind_no, R.nox_ok, List.getElem?_cons_zero, List.getElem?_cons_succ, List.set_cons_zero, List.set_cons_succ, List.length_cons, List.length_nil, List.append_nil, List.nil_append, List.cons_append, piApp_on, oLen_fz, oLen_lst, oLen_tup, oLt_int, oLe_int, oGt_int, oGe_int, oAdd_int, oSub_int, oIx_fz, oIx_lst, oIx_tup, oMax_int, oMin_int, oInt_bl, oInt_int, oIsi_bl, oNeg_int, oTuple_lst, oTuple_tup, iR1_eq, iR2_eq, iSq_eq, iStrM_eq, srcOf_tup, srcOf_lst, srcOf_fz, if_true, if_false, Bool.false_eq_true, Bool.true_eq_false, reduceIte, Nat.reduceAdd, Nat.reduceLeDiff, Nat.reduceEqDiff, decide_true, decide_false, and_self, and_true, true_and, pow_10_18, decide_eq_false h, oMod_int _ 2147483629 i5, oMul_r _ _ 48271 i6 i7, oMul_l _ 40692 _ i11 i12, at20]
      rfl
  by_cases h : k < ns.length
  · have h' : decide ((k : Int) < (ns.length : Int)) = true := decide_eq_true (by omega)
    have hat : atI (ns.map D.int) (k : Int) = some (.int ns[k]) := atI_nat (by simp [h])
    obtain ⟨s, hs⟩ := tail (if ns[k] < 0 then -ns[k] else ns[k])
    refine ⟨s, ?_⟩
    unfold feedB
    rw [mSeq_eq]
    simp -implicitDefEqProofs only [mSeq_eq, mIfS_eq, mSet_eq, mRet_eq, mRetN_eq, mExpr_eq, mPass_eq, mAsg_eq, mPar_eq, mAug_eq, bOf_eq, tOf_eq, tAndM_eq, tOrM_eq, tNotM_eq, tsYes_eq, mOp_eq, mUn_eq, mVar_eq, mC_eq, mCall_eq, mFun_eq, mFunKw_eq, mMeth_eq, mAnd_eq, mOr_eq, mNot_eq, mIf_eq, mChain_eq, mSl_eq, pNone_eq, pSome_eq, aCons_eq, aNil_eq, mTup_eq, mLst_eq, gN_eq, gT_eq, gsNil_eq, gsCons_eq, mkL_t, mkL_f, R.bind_ok, R.bind_no, R.nox_ok, List.getElem?_cons_zero, List.getElem?_cons_succ, List.set_cons_zero, List.set_cons_succ, List.length_cons, List.length_nil, List.append_nil, List.nil_append, List.cons_append, piApp_on, oLen_fz, oLen_lst, oLen_tup, oLt_int, oLe_int, oGt_int, oGe_int, oAdd_int, oSub_int, oIx_fz, oIx_lst, oIx_tup, oMax_int, oMin_int, oInt_bl, oInt_int, oIsi_bl, oNeg_int, oTuple_lst, oTuple_tup, iR1_eq, iR2_eq, iSq_eq, iStrM_eq, srcOf_tup, srcOf_lst, srcOf_fz, if_true, if_false, Bool.false_eq_true, Bool.true_eq_false, reduceIte, Nat.reduceAdd, Nat.reduceLeDiff, Nat.reduceEqDiff, decide_true, decide_false, and_self, and_true, true_and, intsD, List.length_map, h', hat, oMul_l _ 7643 _ j1 j2, oAbs_int]
    simp -implicitDefEqProofs only [mSeq_eq, mIfS_eq, mSet_eq, mRet_eq, mRetN_eq, mExpr_eq, mPass_eq, mAsg_eq, mPar_eq, mAug_eq, bOf_eq, tOf_eq, tAndM_eq, tOrM_eq, tNotM_eq, tsYes_eq, mOp_eq, mUn_eq, mVar_eq, mC_eq, mCall_eq, mFun_eq, mFunKw_eq, mMeth_eq, mAnd_eq, mOr_eq, mNot_eq, mIf_eq, mChain_eq, mSl_eq, pNone_eq, pSome_eq, aCons_eq, aNil_eq, mTup_eq, mLst_eq, gN_eq, gT_eq, gsNil_eq, gsCons_eq, mkL_t, mkL_f, R.bind_ok, R.bind_no, R.nox_ok, List.getElem?_cons_zero, List.getElem?_cons_succ, List.set_cons_zero, List.set_cons_succ, List.length_cons, List.length_nil, List.append_nil, List.nil_append, List.cons_append, piApp_on, oLen_fz, oLen_lst, oLen_tup, oLt_int, oLe_int, oGt_int, oGe_int, oAdd_int, oSub_int, oIx_fz, oIx_lst, oIx_tup, oMax_int, oMin_int, oInt_bl, oInt_int, oIsi_bl, oNeg_int, oTuple_lst, oTuple_tup, iR1_eq, iR2_eq, iSq_eq, iStrM_eq, srcOf_tup, srcOf_lst, srcOf_fz, if_true, if_false, Bool.false_eq_true, Bool.true_eq_false, reduceIte, Nat.reduceAdd, Nat.reduceLeDiff, Nat.reduceEqDiff, decide_true, decide_false, and_self, and_true, true_and, intsD] at hs
    exact hs
  · have h' : decide ((k : Int) < (ns.length : Int)) = false := decide_eq_false (by omega)
    by_cases h0 : 0 < ns.length
    · have h0' : decide ((0 : Int) < (ns.length : Int)) = true := decide_eq_true (by omega)
      have hk : (k : Int) % (ns.length : Int) = ((k % ns.length : Nat) : Int) := by simp
      have hl : k % ns.length < ns.length := Nat.mod_lt _ h0
      have hat : atI (ns.map D.int) ((k % ns.length : Nat) : Int) = some (.int (ns[k % ns.length])) := atI_nat (by
        rw [List.getElem?_map, List.getElem?_eq_getElem hl]
        rfl)
      obtain ⟨s, hs⟩ := tail (7643 * (k : Int) + 41 + ns[k % ns.length] % 2147483629 * 69623)
      refine ⟨s, ?_⟩
      unfold feedB
      simp -implicitDefEqProofs only [mSeq_eq, mIfS_eq, mSet_eq, mRet_eq, mRetN_eq, mExpr_eq, mPass_eq, mAsg_eq, mPar_eq, mAug_eq, bOf_eq, tOf_eq, tAndM_eq, tOrM_eq, tNotM_eq, tsYes_eq, mOp_eq, mUn_eq, mVar_eq, mC_eq, mCall_eq, mFun_eq, mFunKw_eq, mMeth_eq, mAnd_eq, mOr_eq, mNot_eq, mIf_eq, mChain_eq, mSl_eq, pNone_eq, pSome_eq, aCons_eq, aNil_eq, mTup_eq, mLst_eq, gN_eq, gT_eq, gsNil_eq, gsCons_eq, mkL_t, mkL_f, R.bind_ok, R.bind_no, R.nox_ok, List.getElem?_cons_zero, List.getElem?_cons_succ, List.set_cons_zero, List.set_cons_succ, List.length_cons, List.length_nil, List.append_nil, List.nil_append, List.cons_append, piApp_on, oLen_fz, oLen_lst, oLen_tup, oLt_int, oLe_int, oGt_int, oGe_int, oAdd_int, oSub_int, oIx_fz, oIx_lst, oIx_tup, oMax_int, oMin_int, oInt_bl, oInt_int, oIsi_bl, oNeg_int, oTuple_lst, oTuple_tup, iR1_eq, iR2_eq, iSq_eq, iStrM_eq, srcOf_tup, srcOf_lst, srcOf_fz, if_true, if_false, Bool.false_eq_true, Bool.true_eq_false, reduceIte, Nat.reduceAdd, Nat.reduceLeDiff, Nat.reduceEqDiff, decide_true, decide_false, and_self, and_true, true_and, intsD, List.length_map, h', h0', hk, hat, oMul_l _ 7643 _ j1 j2, oMod_int _ (ns.length : Int) (by omega), oMod_int _ 2147483629 i5, oMul_r _ _ 69623 j3 j4]
      simp -implicitDefEqProofs only [mSeq_eq, mIfS_eq, mSet_eq, mRet_eq, mRetN_eq, mExpr_eq, mPass_eq, mAsg_eq, mPar_eq, mAug_eq, bOf_eq, tOf_eq, tAndM_eq, tOrM_eq, tNotM_eq, tsYes_eq, mOp_eq, mUn_eq, mVar_eq, mC_eq, mCall_eq, mFun_eq, mFunKw_eq, mMeth_eq, mAnd_eq, mOr_eq, mNot_eq, mIf_eq, mChain_eq, mSl_eq, pNone_eq, pSome_eq, aCons_eq, aNil_eq, mTup_eq, mLst_eq, gN_eq, gT_eq, gsNil_eq, gsCons_eq, mkL_t, mkL_f, R.bind_ok, R.bind_no, R.nox_ok, List.getElem?_cons_zero, List.getElem?_cons_succ, List.set_cons_zero, List.set_cons_succ, List.length_cons, List.length_nil, List.append_nil, List.nil_append, List.cons_append, piApp_on, oLen_fz, oLen_lst, oLen_tup, oLt_int, oLe_int, oGt_int, oGe_int, oAdd_int, oSub_int, oIx_fz, oIx_lst, oIx_tup, oMax_int, oMin_int, oInt_bl, oInt_int, oIsi_bl, oNeg_int, oTuple_lst, oTuple_tup, iR1_eq, iR2_eq, iSq_eq, iStrM_eq, srcOf_tup, srcOf_lst, srcOf_fz, if_true, if_false, Bool.false_eq_true, Bool.true_eq_false, reduceIte, Nat.reduceAdd, Nat.reduceLeDiff, Nat.reduceEqDiff, decide_true, decide_false, and_self, and_true, true_and, intsD] at hs
      exact hs
    · have h0' : decide ((0 : Int) < (ns.length : Int)) = false := decide_eq_false (by omega)
      obtain ⟨s, hs⟩ := tail (7643 * (k : Int) + 41)
      refine ⟨s, ?_⟩
      unfold feedB
      simp -implicitDefEqProofs only [mSeq_eq, mIfS_eq, mSet_eq, mRet_eq, mRetN_eq, mExpr_eq, mPass_eq, mAsg_eq, mPar_eq, mAug_eq, bOf_eq, tOf_eq, tAndM_eq, tOrM_eq, tNotM_eq, tsYes_eq, mOp_eq, mUn_eq, mVar_eq, mC_eq, mCall_eq, mFun_eq, mFunKw_eq, mMeth_eq, mAnd_eq, mOr_eq, mNot_eq, mIf_eq, mChain_eq, mSl_eq, pNone_eq, pSome_eq, aCons_eq, aNil_eq, mTup_eq, mLst_eq, gN_eq, gT_eq, gsNil_eq, gsCons_eq, mkL_t, mkL_f, R.bind_ok, R.bind_no, R.nox_ok, List.getElem?_cons_zero, List.getElem?_cons_succ, List.set_cons_zero, List.set_cons_succ, List.length_cons, List.length_nil, List.append_nil, List.nil_append, List.cons_append, piApp_on, oLen_fz, oLen_lst, oLen_tup, oLt_int, oLe_int, oGt_int, oGe_int, oAdd_int, oSub_int, oIx_fz, oIx_lst, oIx_tup, oMax_int, oMin_int, oInt_bl, oInt_int, oIsi_bl, oNeg_int, oTuple_lst, oTuple_tup, iR1_eq, iR2_eq, iSq_eq, iStrM_eq, srcOf_tup, srcOf_lst, srcOf_fz, if_true, if_false, Bool.false_eq_true, Bool.true_eq_false, reduceIte, Nat.reduceAdd, Nat.reduceLeDiff, Nat.reduceEqDiff, decide_true, decide_false, and_self, and_true, true_and, intsD, List.length_map, h', h0', oMul_l _ 7643 _ j1 j2]
      simp -implicitDefEqProofs only [mSeq_eq, mIfS_eq, mSet_eq, mRet_eq, mRetN_eq, mExpr_eq, mPass_eq, mAsg_eq, mPar_eq, mAug_eq, bOf_eq, tOf_eq, tAndM_eq, tOrM_eq, tNotM_eq, tsYes_eq, mOp_eq, mUn_eq, mVar_eq, mC_eq, mCall_eq, mFun_eq, mFunKw_eq, mMeth_eq, mAnd_eq, mOr_eq, mNot_eq, mIf_eq, mChain_eq, mSl_eq, pNone_eq, pSome_eq, aCons_eq, aNil_eq, mTup_eq, mLst_eq, gN_eq, gT_eq, gsNil_eq, gsCons_eq, mkL_t, mkL_f, R.bind_ok, R.bind_no, R.nox_ok, List.getElem?_cons_zero, List.getElem?_cons_succ, List.set_cons_zero, List.set_cons_succ, List.length_cons, List.length_nil, List.append_nil, List.nil_append, List.cons_append, piApp_on, oLen_fz, oLen_lst, oLen_tup, oLt_int, oLe_int, oGt_int, oGe_int, oAdd_int, oSub_int, oIx_fz, oIx_lst, oIx_tup, oMax_int, oMin_int, oInt_bl, oInt_int, oIsi_bl, oNeg_int, oTuple_lst, oTuple_tup, iR1_eq, iR2_eq, iSq_eq, iStrM_eq, srcOf_tup, srcOf_lst, srcOf_fz, if_true, if_false, Bool.false_eq_true, Bool.true_eq_false, reduceIte, Nat.reduceAdd, Nat.reduceLeDiff, Nat.reduceEqDiff, decide_true, decide_false, and_self, and_true, true_and, intsD] at hs
      exact hs
/-- the body of _law_draw -/
def draw2B : FS := (mSeq (mIfS (bOf (mOp oGt (mOp oIx (mVar 0) (mC (.int 0))) (mC (.int 0)))) (mSeq (mSet 2 (mOp oMod (mOp oIx (mVar 0) (mC (.int 0))) (mVar 1))) (mSeq (mAsg (mOp oDiv (mOp oIx (mVar 0) (mC (.int 0))) (mVar 1)) (gIx (mVar 0) (mC (.int 0)))) (mRet (mVar 2)))) mPass) (mSeq (mAsg (mOp (oAdd false) (mOp oIx (mVar 0) (mC (.int 2))) (mC (.int 1))) (gIx (mVar 0) (mC (.int 2)))) (mSeq (mSet 3 (mOp oMod (mOp (oMul false) (mOp (oAdd false) (mOp oIx (mVar 0) (mC (.int 1))) (mOp (oMul false) (mC (.int 104729)) (mOp oIx (mVar 0) (mC (.int 2))))) (mC (.int 69623))) (mC (.int 2147483647)))) (mSeq (mAsg (mOp (oAdd false) (mOp oMod (mOp (oAdd false) (mOp (oMul false) (mVar 3) (mC (.int 48271))) (mC (.int 30103))) (mC (.int 2147483629))) (mC (.int 1))) (gIx (mVar 0) (mC (.int 1)))) (mRet (mOp oMod (mOp oDiv (mOp (oAdd false) (mOp (oMul false) (mVar 3) (mC (.int 2147483647))) (mOp oIx (mVar 0) (mC (.int 1)))) (mC (.int 8191))) (mVar 1)))))))
theorem ix32 : ixN 3 2 = some 2 := rfl
theorem i20 : (0 : Int) < 8191 := by omega
theorem i21 : (8191 : Int) < 1000000000000000000000000 := by omega
theorem draw2_run (s : Fd) (i : Nat) (M : Mem) (many : Int) (h0 : 0 < many) (h1 : many < 1000000000000000000000000) (hM : M[i]? = some s.c) :
    ∃ (v : Int) (s' : Fd), 0 ≤ v ∧ v < many ∧ draw2B [some (.ref i), some (.int many), none, none] M = .ok (.rt (.int v)) (M.set i s'.c) := by
  have hi : i < M.length := (List.getElem?_eq_some_iff.mp hM).1
  have hM' : M[i]? = some (.lst [.int s.own, .int s.seed, .int s.cnt]) := hM
  by_cases h : 0 < s.own
  · refine ⟨s.own % many, ⟨s.own / many, s.seed, s.cnt⟩, Int.emod_nonneg _ (by omega), Int.emod_lt_of_pos _ h0, ?_⟩
    simp -implicitDefEqProofs only [mSeq_eq, mIfS_eq, mSet_eq, mRet_eq, mRetN_eq, mExpr_eq, mPass_eq, mAsg_eq, mPar_eq, mAug_eq, bOf_eq, tOf_eq, tAndM_eq, tOrM_eq, tNotM_eq, tsYes_eq, mOp_eq, mUn_eq, mVar_eq, mC_eq, mCall_eq, mFun_eq, mFunKw_eq, mMeth_eq, mAnd_eq, mOr_eq, mNot_eq, mIf_eq, mChain_eq, mSl_eq, pNone_eq, pSome_eq, aCons_eq, aNil_eq, mTup_eq, mLst_eq, gN_eq, gT_eq, gsNil_eq, gsCons_eq, mkL_t, mkL_f, R.bind_ok, R.bind_no, R.nox_ok, List.getElem?_cons_zero, List.getElem?_cons_succ, List.set_cons_zero, List.set_cons_succ, List.length_cons, List.length_nil, List.append_nil, List.nil_append, List.cons_append, piApp_on, oLen_fz, oLen_lst, oLen_tup, oLt_int, oLe_int, oGt_int, oGe_int, oAdd_int, oSub_int, oIx_fz, oIx_lst, oIx_tup, oMax_int, oMin_int, oInt_bl, oInt_int, oIsi_bl, oNeg_int, oTuple_lst, oTuple_tup, iR1_eq, iR2_eq, iSq_eq, iStrM_eq, srcOf_tup, srcOf_lst, srcOf_fz, if_true, if_false, Bool.false_eq_true, Bool.true_eq_false, reduceIte, Nat.reduceAdd, Nat.reduceLeDiff, Nat.reduceEqDiff, decide_true, decide_false, and_self, and_true, true_and, draw2B, oIx_ref hM', at0, decide_eq_true h, oMod_int _ many h0, oDiv_int _ many (div_ok h0 h1 _), gIx_eq, hM', ix30]
    rfl
  · have hset : (M.set i (.lst [.int s.own, .int s.seed, .int (s.cnt + 1)]))[i]? = some (.lst [.int s.own, .int s.seed, .int (s.cnt + 1)]) := List.getElem?_set_self hi
    obtain ⟨n1, hn1⟩ : ∃ n1, (s.seed + 104729 * (s.cnt + 1)) * 69623 % 2147483647 = n1 := ⟨_, rfl⟩
    obtain ⟨n2, hn2⟩ : ∃ n2, (n1 * 48271 + 30103) % 2147483629 + 1 = n2 := ⟨_, rfl⟩
    have hset2 : (M.set i (.lst [.int s.own, .int n2, .int (s.cnt + 1)]))[i]? = some (.lst [.int s.own, .int n2, .int (s.cnt + 1)]) := List.getElem?_set_self hi
    refine ⟨(n1 * 2147483647 + n2) / 8191 % many, ⟨s.own, n2, s.cnt + 1⟩, Int.emod_nonneg _ (by omega), Int.emod_lt_of_pos _ h0, ?_⟩
    simp -implicitDefEqProofs only [mSeq_eq, mIfS_eq, mSet_eq, mRet_eq, mRetN_eq, mExpr_eq, mPass_eq, mAsg_eq, mPar_eq, mAug_eq, bOf_eq, tOf_eq, tAndM_eq, tOrM_eq, tNotM_eq, tsYes_eq, mOp_eq, mUn_eq, mVar_eq, mC_eq, mCall_eq, mFun_eq, mFunKw_eq, mMeth_eq, mAnd_eq, mOr_eq, mNot_eq, mIf_eq, mChain_eq, mSl_eq, pNone_eq, pSome_eq, aCons_eq, aNil_eq, mTup_eq, mLst_eq, gN_eq, gT_eq, gsNil_eq, gsCons_eq, mkL_t, mkL_f, R.bind_ok, R.bind_no, R.nox_ok, List.getElem?_cons_zero, List.getElem?_cons_succ, List.set_cons_zero, List.set_cons_succ, List.length_cons, List.length_nil, List.append_nil, List.nil_append, List.cons_append, piApp_on, oLen_fz, oLen_lst, oLen_tup, oLt_int, oLe_int, oGt_int, oGe_int, oAdd_int, oSub_int, oIx_fz, oIx_lst, oIx_tup, oMax_int, oMin_int, oInt_bl, oInt_int, oIsi_bl, oNeg_int, oTuple_lst, oTuple_tup, iR1_eq, iR2_eq, iSq_eq, iStrM_eq, srcOf_tup, srcOf_lst, srcOf_fz, if_true, if_false, Bool.false_eq_true, Bool.true_eq_false, reduceIte, Nat.reduceAdd, Nat.reduceLeDiff, Nat.reduceEqDiff, decide_true, decide_false, and_self, and_true, true_and, draw2B, oIx_ref hM', at0, at1, at2, decide_eq_false h, gIx_eq, hM', ix31, ix32, hset, oIx_ref hset, oMul_l _ 104729 _ j5 j6, oMul_r _ _ 69623 j3 j4, oMod_int _ 2147483647 i8, hn1]
    simp -implicitDefEqProofs only [mSeq_eq, mIfS_eq, mSet_eq, mRet_eq, mRetN_eq, mExpr_eq, mPass_eq, mAsg_eq, mPar_eq, mAug_eq, bOf_eq, tOf_eq, tAndM_eq, tOrM_eq, tNotM_eq, tsYes_eq, mOp_eq, mUn_eq, mVar_eq, mC_eq, mCall_eq, mFun_eq, mFunKw_eq, mMeth_eq, mAnd_eq, mOr_eq, mNot_eq, mIf_eq, mChain_eq, mSl_eq, pNone_eq, pSome_eq, aCons_eq, aNil_eq, mTup_eq, mLst_eq, gN_eq, gT_eq, gsNil_eq, gsCons_eq, mkL_t, mkL_f, R.bind_ok, R.bind_no, R.nox_ok, List.getElem?_cons_zero, List.getElem?_cons_succ, List.set_cons_zero, List.set_cons_succ, List.length_cons, List.length_nil, List.append_nil, List.nil_append, List.cons_append, piApp_on, oLen_fz, oLen_lst, oLen_tup, oLt_int, oLe_int, oGt_int, oGe_int, oAdd_int, oSub_int, oIx_fz, oIx_lst, oIx_tup, oMax_int, oMin_int, oInt_bl, oInt_int, oIsi_bl, oNeg_int, oTuple_lst, oTuple_tup, iR1_eq, iR2_eq, iSq_eq, iStrM_eq, srcOf_tup, srcOf_lst, srcOf_fz, if_true, if_false, Bool.false_eq_true, Bool.true_eq_false, reduceIte, Nat.reduceAdd, Nat.reduceLeDiff, Nat.reduceEqDiff, decide_true, decide_false, and_self, and_true, true_and, oMul_r _ _ 48271 i6 i7, oMod_int _ 2147483629 i5, hn2, hset, set_twice, oIx_ref hset2, at1, ix31, oMul_r _ _ 2147483647 j7 j8, oDiv_int _ 8191 (div_ok i20 i21 _), oMod_int _ many h0]
    rfl
/-! ### mixed -/
def DrawOk (g : FD) : Prop := ∀ (M0 M : Mem) (i : Nat) (many : Int), FdAt M0 i M → 0 < many → many < 1000000000000000000000000 → ∃ (v : Int) (M' : Mem), 0 ≤ v ∧ v < many ∧ FdAt M0 i M' ∧ g [.ref i, .int many] M = .ok (.int v) M'
theorem drawOk_of {g : FD} {B : FS} (hg : g = runB B 4) (hB : B = draw2B) : DrawOk g := fun M0 M i many h h0 h1 => by
  subst hg hB
  obtain ⟨s, hM, hk⟩ := h.get
  obtain ⟨v, s', k0, k1, k3⟩ := draw2_run s i M many h0 h1 hM
  exact ⟨v, _, k0, k1, hk s', runB_rt k3⟩
theorem FdAt.app {A B M : Mem} {i : Nat} (h : FdAt (A ++ B) i M) (hi : i < A.length) : ∃ A', FdAt A i A' ∧ M = A' ++ B := by
  obtain ⟨s, e⟩ := h.at_
  exact ⟨A.set i s.c, ⟨⟨s, rfl⟩, hi⟩, by rw [e, List.set_append_left _ _ hi]⟩
theorem FdAt.mkApp {M0 A B : Mem} {i : Nat} (h : FdAt M0 i A) : FdAt (A ++ B) i (A ++ B) := by
  obtain ⟨s, h1, _⟩ := h.get
  exact .start (s := s) (by rw [List.getElem?_append_left (List.getElem?_eq_some_iff.mp h1).1]; exact h1)
/-- draws with other cells behind -/
theorem DrawOk.app {g : FD} (hg : DrawOk g) {M0 A B : Mem} {i : Nat} (h : FdAt M0 i A) {many : Int} (h0 : 0 < many) (h1 : many < 1000000000000000000000000) : ∃ (v : Int) (A' : Mem), 0 ≤ v ∧ v < many ∧ FdAt M0 i A' ∧ g [.ref i, .int many] (A ++ B) = .ok (.int v) (A' ++ B) := by
  obtain ⟨v, M', k0, k1, k2, k3⟩ := hg _ _ i many (h.mkApp (B := B)) h0 h1
  obtain ⟨A', h2, rfl⟩ := k2.app (by rw [h.len]; exact h.lt)
  exact ⟨v, A', k0, k1, h.trans h2, k3⟩
theorem app_get0 {A B : Mem} {c : Cell} {N : Nat} (h : A.length = N) : (A ++ c :: B)[N]? = some c := by
  rw [List.getElem?_append_right (by omega), h, Nat.sub_self]; rfl
theorem app_get1 {A B : Mem} {c c' : Cell} {N : Nat} (h : A.length = N) : (A ++ c :: c' :: B)[N + 1]? = some c' := by
  rw [List.getElem?_append_right (by omega), h, Nat.add_sub_cancel_left]; rfl
theorem app_set0 {A B : Mem} {c d : Cell} {N : Nat} (h : A.length = N) : (A ++ c :: B).set N d = A ++ d :: B := by
  rw [List.set_append_right _ _ (by omega), h, Nat.sub_self]; rfl
theorem app_set1 {A B : Mem} {c c' d : Cell} {N : Nat} (h : A.length = N) : (A ++ c :: c' :: B).set (N + 1) d = A ++ c :: d :: B := by
  rw [List.set_append_right _ _ (by omega), h, Nat.add_sub_cancel_left]; rfl
theorem ixN_nat {n k : Nat} (h : k < n) : ixN n (k : Int) = some k := by
  unfold ixN; simp; omega
def mixT : FT := (bOf (mOp (oEq true) (mVar 2) (mLst false aNil)))
def mixL (g : FD) : FS := (mExpr (mMeth "list" oAppend (mVar 3) (aCons (mMeth "list" oPopAt (mVar 2) (aCons (mFun 2 g [] (aCons (mVar 0) (aCons (mCall oLen (aCons (mVar 2) aNil)) aNil))) aNil)) aNil)))
def mixB (g : FD) : FS := (mSeq (mPar 2 3 (aCons (mCall (oList true) (aCons (mVar 1) aNil)) (aCons (mLst true aNil) aNil))) (mSeq (mWhile mixT (mixL g)) (mRet (mVar 3))))
theorem erase_perm : ∀ {l : List D} {k : Nat} {d : D}, l[k]? = some d → (d :: l.eraseIdx k).Perm l
  | [], k, d, h => by simp at h
  | x :: r, 0, d, h => by simp at h; subst h; exact List.Perm.refl _
  | x :: r, k + 1, d, h => by
    have ih := erase_perm (l := r) (k := k) (d := d) (by simpa using h)
    exact (List.Perm.swap x d _).trans (List.Perm.cons x ih)
theorem mix_turn {g : FD} (hg : DrawOk g) {M0 A : Mem} {i n : Nat} (h : FdAt M0 i A) (x : D) (l acc : List D) (hl : l ≠ []) (hlen : l.length ≤ 100000) (ha : acc.length ≤ 100000) :
    ∃ (d : D) (l' : List D) (A' : Mem), (d :: l').Perm l ∧ FdAt M0 i A' ∧ mixL g [some (.ref i), some x, some (.ref A.length), some (.ref (A.length + 1))] (A ++ [.lst l, .lst acc]) = .ok (.nx [some (.ref i), some x, some (.ref A.length), some (.ref (A.length + 1))]) (A' ++ [.lst l', .lst (acc ++ [d])]) := by
  have hpos : 0 < l.length := List.length_pos_iff.mpr hl
  obtain ⟨v, A', k0, k1, h2, k3⟩ := hg.app h (B := [.lst l, .lst acc]) (many := (l.length : Int)) (by omega) (by omega)
  obtain ⟨k, rfl⟩ : ∃ k : Nat, v = (k : Int) := ⟨v.toNat, by omega⟩
  have hk : k < l.length := by omega
  have eA : A'.length = A.length := by rw [h2.len, h.len]
  have g0 : ∀ {B : Mem} {c : Cell}, (A ++ c :: B)[A.length]? = some c := fun {B c} => app_get0 rfl
  have g1 : (A ++ [.lst l, .lst acc])[A.length + 1]? = some (.lst acc) := app_get1 rfl
  have g2 : (A' ++ [.lst l, .lst acc])[A.length]? = some (.lst l) := app_get0 eA
  have g3 : (A' ++ [.lst (l.eraseIdx k), .lst acc])[A.length + 1]? = some (.lst acc) := app_get1 eA
  have hp : oPopAt (.ref A.length) [.int k] (A' ++ [.lst l, .lst acc]) = .ok l[k] (A' ++ [.lst (l.eraseIdx k), .lst acc]) := by
    have e63 : (2 : Int) ^ 63 = 9223372036854775808 := by decide +kernel
    simp only [oPopAt, g2, ixN_nat hk, List.getElem?_eq_getElem hk, e63]
    rw [if_pos (by omega), app_set0 eA]
  refine ⟨l[k], l.eraseIdx k, A', erase_perm (List.getElem?_eq_getElem hk), h2, ?_⟩
  simp -implicitDefEqProofs only [mSeq_eq, mIfS_eq, mSet_eq, mRet_eq, mRetN_eq, mExpr_eq, mPass_eq, mAsg_eq, mPar_eq, mAug_eq, bOf_eq, tOf_eq, tAndM_eq, tOrM_eq, tNotM_eq, tsYes_eq, mOp_eq, mUn_eq, mVar_eq, mC_eq, mCall_eq, mFun_eq, mFunKw_eq, mMeth_eq, mAnd_eq, mOr_eq, mNot_eq, mIf_eq, mChain_eq, mSl_eq, pNone_eq, pSome_eq, aCons_eq, aNil_eq, mTup_eq, mLst_eq, gN_eq, gT_eq, gsNil_eq, gsCons_eq, mkL_t, mkL_f, R.bind_ok, R.bind_no, R.nox_ok, List.getElem?_cons_zero, List.getElem?_cons_succ, List.set_cons_zero, List.set_cons_succ, List.length_cons, List.length_nil, List.append_nil, List.nil_append, List.cons_append, piApp_on, oLen_fz, oLen_lst, oLen_tup, oLt_int, oLe_int, oGt_int, oGe_int, oAdd_int, oSub_int, oIx_fz, oIx_lst, oIx_tup, oMax_int, oMin_int, oInt_bl, oInt_int, oIsi_bl, oNeg_int, oTuple_lst, oTuple_tup, iR1_eq, iR2_eq, iSq_eq, iStrM_eq, srcOf_tup, srcOf_lst, srcOf_fz, if_true, if_false, Bool.false_eq_true, Bool.true_eq_false, reduceIte, Nat.reduceAdd, Nat.reduceLeDiff, Nat.reduceEqDiff, decide_true, decide_false, and_self, and_true, true_and, mixL, tyOk_at g0, tyOk_at g1, oLen_ref g0, k3, hp, oAppend_at g3 (show acc.length < 16777216 by omega), app_set1 eA]
theorem mix_loop {g : FD} (hg : DrawOk g) {M0 : Mem} {i n : Nat} (x : D) : ∀ (f : Nat) (A : Mem) (l acc : List D), FdAt M0 i A → PlL n l → l.length ≤ f → l.length + acc.length ≤ 100000 →
    ∃ (l' : List D) (A' : Mem), l'.Perm (acc ++ l) ∧ FdAt M0 i A' ∧ whileM mixT (mixL g) (f + 1) [some (.ref i), some x, some (.ref M0.length), some (.ref (M0.length + 1))] (A ++ [.lst l, .lst acc]) = .ok (.nx [some (.ref i), some x, some (.ref M0.length), some (.ref (M0.length + 1))]) (A' ++ [.lst [], .lst l'])
  | f, A, l, acc, h, hp, hf, hn => by
    have eA := h.len
    have g0 : (A ++ [.lst l, .lst acc])[M0.length]? = some (.lst l) := app_get0 eA
    have ht : mixT [some (.ref i), some x, some (.ref M0.length), some (.ref (M0.length + 1))] (A ++ [.lst l, .lst acc]) = .ok (true != l.isEmpty) (A ++ [.lst l, .lst acc]) := by
      simp -implicitDefEqProofs only [mSeq_eq, mIfS_eq, mSet_eq, mRet_eq, mRetN_eq, mExpr_eq, mPass_eq, mAsg_eq, mPar_eq, mAug_eq, bOf_eq, tOf_eq, tAndM_eq, tOrM_eq, tNotM_eq, tsYes_eq, mOp_eq, mUn_eq, mVar_eq, mC_eq, mCall_eq, mFun_eq, mFunKw_eq, mMeth_eq, mAnd_eq, mOr_eq, mNot_eq, mIf_eq, mChain_eq, mSl_eq, pNone_eq, pSome_eq, aCons_eq, aNil_eq, mTup_eq, mLst_eq, gN_eq, gT_eq, gsNil_eq, gsCons_eq, mkL_t, mkL_f, R.bind_ok, R.bind_no, R.nox_ok, List.getElem?_cons_zero, List.getElem?_cons_succ, List.set_cons_zero, List.set_cons_succ, List.length_cons, List.length_nil, List.append_nil, List.nil_append, List.cons_append, piApp_on, oLen_fz, oLen_lst, oLen_tup, oLt_int, oLe_int, oGt_int, oGe_int, oAdd_int, oSub_int, oIx_fz, oIx_lst, oIx_tup, oMax_int, oMin_int, oInt_bl, oInt_int, oIsi_bl, oNeg_int, oTuple_lst, oTuple_tup, iR1_eq, iR2_eq, iSq_eq, iStrM_eq, srcOf_tup, srcOf_lst, srcOf_fz, if_true, if_false, Bool.false_eq_true, Bool.true_eq_false, reduceIte, Nat.reduceAdd, Nat.reduceLeDiff, Nat.reduceEqDiff, decide_true, decide_false, and_self, and_true, true_and, mixT, oEq_nil hp (lstOf_at g0)]
    rw [whileM_succ, ht, R.bind_ok]
    cases l with
    | nil => exact ⟨acc, A, by rw [List.append_nil], h, rfl⟩
    | cons d0 r =>
      rw [show (true != (d0 :: r).isEmpty) = true from rfl, if_pos rfl]
      obtain ⟨d, l', A', hperm, h', e⟩ := mix_turn (n := n) hg h x (d0 :: r) acc (by intro z; cases z) (by omega) (by omega)
      rw [eA] at e
      rw [e, R.bind_ok]
      cases f with
      | zero => simp at hf
      | succ f =>
        have hll : l'.length + 1 = (d0 :: r).length := by
          have := hperm.length_eq
          simpa using this
        obtain ⟨l2, A2, p2, h2, e2⟩ := mix_loop hg x f A' l' (acc ++ [d]) h' (fun y hy => hp y (hperm.mem_iff.mp (List.mem_cons_of_mem _ hy))) (by omega) (by rw [List.length_append, List.length_cons, List.length_nil]; omega)
        refine ⟨l2, A2, p2.trans ?_, h2, e2⟩
        rw [List.append_assoc]
        exact List.Perm.append_left _ hperm
theorem mixed_run {g : FD} (hg : DrawOk g) {M0 M : Mem} {i n : Nat} (h : FdAt M0 i M) (l : List D) (hp : PlL n l) (hlen : l.length ≤ 100000) :
    ∃ (l' : List D) (M' : Mem), l'.Perm l ∧ FdAt M0 i M' ∧ gcB (mixB g) 4 [.ref i, .lst l] M = .ok (.lst l') M' := by
  obtain ⟨l', A', p1, h1, e1⟩ := mix_loop (n := n) hg (.lst l) 999999999 M l [] h.self hp (by omega) (by simpa using hlen)
  have hB : mixB g [some (.ref i), some (.lst l), none, none] M = .ok (.rt (.ref (M.length + 1))) (A' ++ [.lst [], .lst l']) := by
    have e0 : oList true [.lst l] M = .ok (.ref M.length) (M ++ [.lst l]) := rfl
    simp -implicitDefEqProofs only [mSeq_eq, mIfS_eq, mSet_eq, mRet_eq, mRetN_eq, mExpr_eq, mPass_eq, mAsg_eq, mPar_eq, mAug_eq, bOf_eq, tOf_eq, tAndM_eq, tOrM_eq, tNotM_eq, tsYes_eq, mOp_eq, mUn_eq, mVar_eq, mC_eq, mCall_eq, mFun_eq, mFunKw_eq, mMeth_eq, mAnd_eq, mOr_eq, mNot_eq, mIf_eq, mChain_eq, mSl_eq, pNone_eq, pSome_eq, aCons_eq, aNil_eq, mTup_eq, mLst_eq, gN_eq, gT_eq, gsNil_eq, gsCons_eq, mkL_t, mkL_f, R.bind_ok, R.bind_no, R.nox_ok, List.getElem?_cons_zero, List.getElem?_cons_succ, List.set_cons_zero, List.set_cons_succ, List.length_cons, List.length_nil, List.append_nil, List.nil_append, List.cons_append, piApp_on, oLen_fz, oLen_lst, oLen_tup, oLt_int, oLe_int, oGt_int, oGe_int, oAdd_int, oSub_int, oIx_fz, oIx_lst, oIx_tup, oMax_int, oMin_int, oInt_bl, oInt_int, oIsi_bl, oNeg_int, oTuple_lst, oTuple_tup, iR1_eq, iR2_eq, iSq_eq, iStrM_eq, srcOf_tup, srcOf_lst, srcOf_fz, if_true, if_false, Bool.false_eq_true, Bool.true_eq_false, reduceIte, Nat.reduceAdd, Nat.reduceLeDiff, Nat.reduceEqDiff, decide_true, decide_false, and_self, and_true, true_and, mixB, e0, List.length_append, List.append_assoc]
    unfold mWhile
    rw [show (1000000000 : Nat) = 999999999 + 1 from rfl, e1]
    rfl
  have hN : A'.length = M.length := h1.len
  have hpl : PlL n l' := fun y hy => hp y (by have := p1.mem_iff.mp hy; simpa using this)
  obtain ⟨ps, hps, _⟩ := hpl.py
  have hfz : frzD (A' ++ [.lst [], .lst l']) M.length (.ref (M.length + 1)) = .lst l' := by
    simp only [frzD]
    rw [if_neg (by omega), app_get1 hN]
  have hc : cutOk M (A' ++ [.lst [], .lst l']) (frzD (A' ++ [.lst [], .lst l']) M.length (.ref (M.length + 1))) := by
    rw [hfz]
    obtain ⟨s, e⟩ := h1.at_
    rw [e]
    exact cut_set (d := .lst l') (junk := [.lst [], .lst l']) (by simp only [bdD]; exact pyL_bd hps) rfl
  refine ⟨l', A', by simpa using p1, h.trans h1, ?_⟩
  unfold gcB
  rw [runB_rt (N := 4) hB, gcR, if_pos hc, hfz, List.take_append_of_le_length (by omega), List.take_of_length_le (by omega)]
end Fn

set_option Elab.async false
set_option linter.all false
set_option maxRecDepth 100000
set_option maxHeartbeats 1000000
/-! FnNew: targets with a star. -/
namespace Fn
open PySem PySem.Spec PyProof.Rows L2
section
variable {prog : Program} {w : World} {A : Around} {E : Value → Shared → Prop} {s : Shared}
/-- a tuple's values, those amid in a new list -/
theorem star_of {l : Addr} {vs : Array Value} {n i : Nat} {Q : List Value → Shared → Prop} (pl : IsTup s.heap l vs) (nh : A.handled = none) (lt : i < n) (le : n ≤ vs.size + 1) (sz : vs.size ≤ 16384)
    (q : ∀ (h' : Heap) (tk : Nat), (∀ b o, s.heap.get? b = some o → h'.get? b = some o) →
      Q (vs.toList.take i ++ [.ref h'.objs.size] ++ (vs.toList.drop i).drop (vs.size + 1 - n)) { s with heap := h'.push { cls := .type "list", data := .seq ((vs.toList.drop i).take (vs.size + 1 - n)).toArray }, toks := tk }) :
    wpAny (model prog w) A (unpackItems (.ref l) n (some i)) Q E s := by
  have here : l < s.heap.objs.size := let ⟨_, e, _⟩ := pl; Heap.lt_size e
  have apart : l ≠ s.heap.objs.size := Nat.ne_of_lt here
  unfold unpackItems notIterableAtAll
  refine wpAny_bind (wpAny_bind (wpAny_specialOf pl.typeIs slot_tuple_iter.lookup (wpAny_pure ?_)))
  simp only [Bool.false_eq_true, if_false]
  refine wpAny_bind (wpAny_holding (iter_tuple pl (wpAny_bind (wpAny_holding (draw_tuple apart i 0 _ _ ⟨_, Heap.get?_push_size _ rfl, rfl, rfl⟩ (pl.push _) (by omega) fun g it same => ?_)))))
  have pl1 : IsTup g l vs := (pl.push _).extBut same.extBut apart
  have old1 : ∀ b o, s.heap.get? b = some o → g.get? b = some o := fun b o e => same.extBut b o (Nat.ne_of_lt (Heap.lt_size e)) (Heap.get?_push_of_some _ e)
  rw [Nat.zero_add] at it
  have itl : s.heap.objs.size < g.objs.size := let ⟨_, e, _⟩ := it; Heap.lt_size e
  have lg : l < g.objs.size := let ⟨_, e, _⟩ := pl1; Heap.lt_size e
  have fl : (vs.toList.take i).length = i := by simp; omega
  have dl : (vs.toList.drop i).length = vs.size - i := by simp
  simp only [List.drop_zero, fl, Nat.lt_irrefl, if_false]
  refine wpAny_bind (wpAny_holding (PySem.W.kun_collect (s := { s with heap := g }) (T := "tuple_iterator") (.inr (.inr (.inr rfl))) (Walks.tuple (A := A.in1) nh s.heap.objs.size l apart vs) (fun _ _ st => st.1.typeIs) (k := i) (by omega) ⟨it, pl1⟩ itl lg (fun g2 tk kp => ?_) (by rw [sizeLine_eq]; omega)))
  have cnt : vs.size - i - (n - 1 - i) = vs.size + 1 - n := by omega
  simp only [dl, show ¬ (vs.size - i < n - 1 - i) by omega, if_false, cnt]
  refine wpAny_bind (wpAny_newList (wpAny_pure (q g2 tk (fun b o e => kp b o (Nat.ne_of_lt (Heap.lt_size e)) (old1 b o e)))) (by rw [List.length_take, dl, sizeLine_eq]; omega))
end
section
variable {X : Cx} {G : Gx} {cl : Nat → Addr} {E : XK} {W : Wd} {H : Hp} {M : Mem} {pos : Pos}
/-- a, *b, c = a tuple -/
def gStar (K : PySem.W.Frag) (n i : Nat) (t : TGs) : TG := fun v σ H Q => ∃ a xs, v = .ref a ∧ SqT K H a xs ∧ n ≤ xs.length + 1 ∧ xs.length ≤ 16384 ∧ ∀ p, H p = none → t (xs.take i ++ [.ref p] ++ (xs.drop i).drop (xs.length + 1 - n)) σ (upd H p (.lst ((xs.drop i).take (xs.length + 1 - n)))) Q
theorem pg_star {es : List Expr} {k : Nat} {t : TGs} {n i : Nat} (hc : X.calm = true) (h : PGs X es t) (lt : i < n)
    (hn : (assignEach es X.env).length = n := by rfl) (hst : (assignEach es X.env).findIdx? (·.1) = some i := by rfl) : PG X (.Tuple es k pos) (gStar X.K n i t) := by
  refine ⟨fun pins s σ H v u Q I r hw => ?_⟩
  obtain ⟨a, xs, rfl, hq, le, sz, hw⟩ := hw
  cases r
  obtain ⟨its, rv, ht, hz⟩ := I.tuple hq
  have el : its.length = xs.length := rv.length.symm
  have ez : its.toArray.size = xs.length := by rw [List.size_toArray, el]
  rw [PyProof.Rows.assign_Tuple]
  refine wpAny_bind (wpAny_standAt ?_)
  unfold unpack
  rw [hn, hst]
  refine wpAny_bind (wpAny_holding (star_of ht (I.ok.hd hc) lt (by omega) (by omega) fun g tk kp => ?_))
  have I1 : Inv X pins σ H { s with heap := g, toks := tk } := I.kept kp
  have fr : H g.objs.size = none := I1.hok.fresh (Nat.le_refl _)
  have rm : Vals ((xs.drop i).take (xs.length + 1 - n)) ((its.drop i).take (xs.length + 1 - n)) := (rv.drop i).take _
  have I2 : Inv X pins σ (upd H g.objs.size (.lst ((xs.drop i).take (xs.length + 1 - n)))) { s with heap := g.push { cls := .type "list", data := .seq ((its.drop i).take (xs.length + 1 - n)).toArray }, toks := tk } :=
    I1.laid (t' := tk) (fun b o e => Heap.get?_push_of_some _ e) (Nat.le_refl _) ⟨by rw [List.length_take, List.length_drop, sizeLine_eq]; omega, _, 0, rm, Heap.get?_push_size _ rfl⟩
  rw [ez]
  exact h.run pins _ σ _ _ _ Q I2 (((rv.take i).append (.cons (show RelV (.ref g.objs.size) (.ref g.objs.size) from rfl) .nil)).append ((rv.drop i).drop _)) (hw _ fr)
def gS (n i : Nat) (g : FGs) : FG := fun d env M => match d with
  | .tup l => if n ≤ l.length + 1 ∧ l.length ≤ 16384 then g (l.take i ++ [.lst ((l.drop i).take (l.length + 1 - n))] ++ (l.drop i).drop (l.length + 1 - n)) env M else .no
  | _ => .no
theorem pgs_star {e : Expr} {p : Pos} {es : List Expr} {t : TG} {u : TGs} (h1 : PG X e t) (h2 : PGs X es u)
    (hs : (assignEach (.Starred e p :: es) X.env).map (·.2) = assign e X.env :: (assignEach es X.env).map (·.2) := by rfl) : PGs X (.Starred e p :: es) (gCons t u) := by
  refine ⟨fun pins s σ H xs us Q I rx k => ?_⟩
  obtain ⟨x, xr, rfl, k⟩ := k
  rw [hs]
  cases rx with
  | cons ra rb => exact assignInOrder_cons (thn (h1.run pins s σ H _ _ _ I ra k) fun _ s2 ⟨σ2, H2, I2, k2⟩ => h2.run pins s2 σ2 H2 _ _ Q I2 rb k2)
theorem sgs_star {e : Expr} {p : Pos} {es : List Expr} {f : FG} {g : FGs} {sl : List Nat} (h1 : PG X e (tGt G E sl f)) (h2 : PGs X es (tGts G E sl g))
    (hs : (assignEach (.Starred e p :: es) X.env).map (·.2) = assign e X.env :: (assignEach es X.env).map (·.2) := by rfl) : PGs X (.Starred e p :: es) (tGts G E sl (gsCons f g)) := pgs_imp (pgs_star h1 h2 hs) fun v σ H Q ⟨W, env, M, ds, s, r, p⟩ => by
  cases ds with
  | nil => exact p.elim
  | cons d r' =>
    obtain ⟨u, us, e1, r1, r2⟩ := r
    exact ⟨u, us, e1, W, env, M, d, s, r1, PR.bind p fun env1 m W1 H1 f1 k1 p1 => fun σ1 en ew => ⟨W1, env1, m, r', ⟨k1, en⟩, s.mem.rpL f1 r2, PR.mono p1 fun env2 m2 W2 H2 f2 k2 q σ2 en2 ew2 => q σ2 en2 (ew2.trans ew)⟩⟩
theorem sg_star {es : List Expr} {k : Nat} {g : FGs} {n i : Nat} {sl : List Nat} (hc : X.calm = true) (h : PGs X es (tGts ⟨X.K, cl⟩ E sl g)) (lt : i < n)
    (hn : (assignEach es X.env).length = n := by rfl) (hst : (assignEach es X.env).findIdx? (·.1) = some i := by rfl) : PG X (.Tuple es k pos) (tGt ⟨X.K, cl⟩ E sl (gS n i g)) := pg_imp (pg_star hc h lt hn hst) fun v σ H Q ⟨W, env, M, d, s, r, p⟩ => by
  unfold gS at p
  split at p
  · rename_i l
    obtain ⟨a1, us, e1, s1, r1⟩ := r
    split at p
    · rename_i hl
      refine ⟨a1, us, e1, s1.sq, by rw [r1.len]; exact hl.1, by rw [r1.len]; exact hl.2, fun q hq => ?_⟩
      have f : Fut W H W (upd H q (.lst ((us.drop i).take (us.length + 1 - n)))) := Fut.laid hq
      have m1 := s.mem.laid (o := .lst ((us.drop i).take (us.length + 1 - n))) hq
      have nw : q ∉ W.as ∧ q ∉ W.hd := s.mem.fresh hq
      rw [← r1.len] at p
      have rr := s.mem.rpL f r1
      have rl : Rp ⟨X.K, cl⟩ W (upd H q (.lst ((us.drop i).take (us.length + 1 - n)))) (.lst ((l.drop i).take (us.length + 1 - n))) (.ref q) := ⟨q, _, rfl, ⟨upd_same, nw.1, nw.2⟩, RpL.take _ (RpL.drop i rr)⟩
      exact ⟨W, env, M, _, ⟨m1, s.env.fut s.mem f⟩, ((RpL.take i rr).append (show RpL ⟨X.K, cl⟩ W (upd H q (.lst ((us.drop i).take (us.length + 1 - n)))) [.lst ((l.drop i).take (us.length + 1 - n))] [.ref q] from ⟨_, _, rfl, rl, rfl⟩)).append (RpL.drop _ (RpL.drop i rr)), PR.fut f p⟩
    · exact p.elim
  · exact p.elim
theorem gS_eq (n i : Nat) (g : FGs) (l : List D) {env : Fn.Env} : gS n i g (.tup l) env M = if n ≤ l.length + 1 ∧ l.length ≤ 16384 then g (l.take i ++ [.lst ((l.drop i).take (l.length + 1 - n))] ++ (l.drop i).drop (l.length + 1 - n)) env M else .no := rfl
end
end Fn

set_option Elab.async false
set_option linter.all false
set_option maxRecDepth 100000
set_option maxHeartbeats 4000000
/-! FnLaw3: memory read by rewriting; texts sorted; loops over what may change. -/
namespace Fn
open PySem PySem.Spec PyProof.Rows L2
section
variable {M : Mem}
theorem oLen_refM (i : Nat) : oLen [.ref i] M = match M[i]? with | some (.lst l) => .ok (.int l.length) M | _ => .no := by
  simp only [oLen, seqOf, lstOf]
  cases M[i]? with
  | none => rfl
  | some c => cases c <;> rfl
theorem oIx_refM (i : Nat) (k : Int) : oIx (.ref i) (.int k) M = match M[i]? with | some (.lst l) => (match atI l k with | some d => .ok d M | none => .no) | _ => .no := by
  simp only [oIx, seqOf, lstOf]
  cases M[i]? with
  | none => rfl
  | some c => cases c <;> rfl
theorem oAppM (i : Nat) (d : D) : oAppend (.ref i) [d] M = match M[i]? with | some (.lst l) => (if l.length < 16777216 then .ok .non (M.set i (.lst (l ++ [d]))) else .no) | _ => .no := by
  simp only [oAppend]
  all_goals rfl
theorem oExtM (i : Nat) (d : D) : oExtend (.ref i) [d] M = match M[i]?, ownOf M d with | some (.lst l), some l' => (if l.length + l'.length ≤ 16777216 then .ok .non (M.set i (.lst (l ++ l'))) else .no) | _, _ => .no := by
  simp only [oExtend]
  all_goals rfl
theorem oTuple_ref (i : Nat) : oTuple [.ref i] M = match M[i]? with | some (.lst l) => .ok (.tup l) M | _ => .no := by
  simp only [oTuple, lstOf]
  cases M[i]? with
  | none => rfl
  | some c => cases c <;> rfl
theorem oList_ref {c : Bool} (i : Nat) : oList c [.ref i] M = match M[i]? with | some (.lst l) => mkL c l M | _ => .no := by
  simp only [oList, seqOf, lstOf]
  cases M[i]? with
  | none => rfl
  | some c => cases c <;> rfl
theorem srcOf_refM (i : Nat) : srcOf M (.ref i) = match M[i]? with | some (.lst l) => some ⟨l, fun M' => M'[i]? = some (.lst l)⟩ | _ => none := by
  simp only [srcOf]
  all_goals rfl
end
theorem ifLt24 {α : Sort _} {n : Nat} {a b : α} (h : n < 16777216) : (if n < 16777216 then a else b) = a := if_pos h
theorem ifLe24 {α : Sort _} {n : Nat} {a b : α} (h : n ≤ 16777216) : (if n ≤ 16777216 then a else b) = a := if_pos h
theorem lt_of_get {M : Mem} {k : Nat} {c : Cell} (h : M[k]? = some c) : k < M.length := (List.getElem?_eq_some_iff.mp h).1
theorem forL_nilP {P : Mem → Prop} {g : FG} {body : FS} {env : Fn.Env} {M : Mem} (hP : P M) : forL P g body [] env M = .ok (.nx env) M := by
  unfold forL; rw [if_pos hP]
theorem forL_consP {P : Mem → Prop} {g : FG} {body : FS} {d : D} {r : List D} {env : Fn.Env} {M : Mem} (hP : P M) : forL P g body (d :: r) env M = (g d env M).bind fun env1 m1 => (body env1 m1).bind fun fl m => match fl with
      | .nx env' => forL P g body r env' m
      | .ct env' => forL P g body r env' m
      | .bk env' => .ok (.nx env') m
      | .rt d => .ok (.rt d) m := by
  conv => lhs; unfold forL
  rw [if_pos hP]
  all_goals rfl
theorem forL_invP {Q : Mem → Prop} {g : FG} {body : FS} (P : Nat → Fn.Env → Mem → Prop) (hQ : ∀ k env M, P k env M → Q M) : ∀ (items : List D) (k0 : Nat) (env : Fn.Env) (M : Mem), P k0 env M →
    (∀ (k : Nat) d env M, items[k]? = some d → P (k0 + k) env M → ∃ env' m', ((g d env M).bind fun e1 m1 => body e1 m1) = .ok (.nx env') m' ∧ P (k0 + k + 1) env' m') →
    ∃ env' m', forL Q g body items env M = .ok (.nx env') m' ∧ P (k0 + items.length) env' m'
  | [], k0, env, M, h0, _ => ⟨env, M, forL_nilP (hQ _ _ _ h0), h0⟩
  | d :: r, k0, env, M, h0, hs => by
    obtain ⟨env1, m1, e1, h1⟩ := hs 0 d env M rfl h0
    obtain ⟨env2, m2, e2, h2⟩ := forL_invP P hQ r (k0 + 1) env1 m1 h1 fun k d' env' M' hk hp => by
      have := hs (k + 1) d' env' M' (by simpa using hk) (by rw [show k0 + (k + 1) = k0 + 1 + k by omega]; exact hp)
      rw [show k0 + (k + 1) + 1 = k0 + 1 + k + 1 by omega] at this
      exact this
    refine ⟨env2, m2, ?_, by rw [show k0 + (d :: r).length = k0 + 1 + r.length by simp; omega]; exact h2⟩
    rw [forL_consP (hQ _ _ _ h0)]
    obtain ⟨ea, ma, ea1, ea2⟩ := R.bind_eq e1
    rw [ea1, R.bind_ok, ea2, R.bind_ok]
    exact e2
theorem compL_fm {P : Mem → Prop} {M : Mem} (hP : P M) {g : FG} {t : FT} {f : FE} {env : Fn.Env} {α : Type} (mk : α → D) (T : α → Bool) (F : α → D) : ∀ (xs : List α), (∀ x ∈ xs, ∃ env1, g (mk x) env M = .ok env1 M ∧ t env1 M = .ok (T x) M ∧ (T x = true → f env1 M = .ok (F x) M)) →
    compL P g t f env (xs.map mk) M = .ok ((xs.filter T).map F) M
  | [], _ => compL_nilP hP
  | d :: r, h => by
    obtain ⟨env1, h1, h2, h3⟩ := h d (List.mem_cons_self ..)
    have ih := compL_fm hP mk T F r fun d' hd => h d' (List.mem_cons_of_mem _ hd)
    rw [List.map_cons, compL_consP hP, h1, R.bind_ok, h2, R.bind_ok]
    cases ht : T d with
    | true => rw [if_pos rfl, h3 ht, R.bind_ok, ih, R.bind_ok, List.filter_cons_of_pos ht, List.map_cons]
    | false => rw [if_neg Bool.false_ne_true, ih, List.filter_cons_of_neg (by simp [ht])]
theorem compL_m {P : Mem → Prop} {M : Mem} (hP : P M) {g : FG} {f : FE} {env : Fn.Env} {α : Type} (mk : α → D) (F : α → D) (xs : List α) (h : ∀ x ∈ xs, ∃ env1, g (mk x) env M = .ok env1 M ∧ f env1 M = .ok (F x) M) :
    compL P g tsYes f env (xs.map mk) M = .ok (xs.map F) M := by
  have := compL_fm hP (t := tsYes) mk (fun _ => true) F xs fun x hx => by
    obtain ⟨env1, h1, h2⟩ := h x hx
    exact ⟨env1, h1, rfl, fun _ => h2⟩
  rw [this, List.filter_eq_self.mpr (fun _ _ => rfl)]
theorem allY {items ys : List D} {Y : D → Prop} (hl : ys.length = items.length) (h : ∀ (k : Nat) (d y : D), items[k]? = some d → ys[k]? = some y → Y y) {y : D} (hy : y ∈ ys) : Y y := by
  obtain ⟨k, hk⟩ := List.getElem?_of_mem hy
  have hk' : k < items.length := by rw [← hl]; exact (List.getElem?_eq_some_iff.mp hk).1
  exact h k _ y (List.getElem?_eq_getElem hk') hk
/-- a loop over given things by a step on a state: each turn goes on -/
theorem forL_fold {P : Mem → Prop} {M : Mem} (hP : P M) {g : FG} {body : FS} {σ α : Type} (mk : σ → Fn.Env → Prop) (enc : α → D) (f : σ → α → σ) : ∀ (xs : List α) (s : σ) (env : Fn.Env), mk s env →
    (∀ s env x, x ∈ xs → mk s env → ∃ env', ((g (enc x) env M).bind fun e1 m1 => body e1 m1) = .ok (.nx env') M ∧ mk (f s x) env') →
    ∃ env', forL P g body (xs.map enc) env M = .ok (.nx env') M ∧ mk (xs.foldl f s) env'
  | [], s, env, h, _ => ⟨env, forL_nilP hP, h⟩
  | x :: r, s, env, h, hs => by
    obtain ⟨env1, e1, h1⟩ := hs s env x (List.mem_cons_self ..) h
    obtain ⟨env2, e2, h2⟩ := forL_fold hP mk enc f r (f s x) env1 h1 fun s env y hy => hs s env y (List.mem_cons_of_mem _ hy)
    refine ⟨env2, ?_, h2⟩
    obtain ⟨ea, ma, ea1, ea2⟩ := R.bind_eq e1
    rw [List.map_cons, forL_consP hP, ea1, R.bind_ok, ea2, R.bind_ok]
    exact e2
theorem snoc_of {α : Type} : ∀ {l : List α}, l ≠ [] → ∃ l0 z, l = l0 ++ [z]
  | [], h => absurd rfl h
  | [x], _ => ⟨[], x, rfl⟩
  | x :: y :: r, _ => by
    obtain ⟨l0, z, e⟩ := snoc_of (l := y :: r) (by intro h; cases h)
    exact ⟨x :: l0, z, by rw [e]; rfl⟩
theorem atLast {α : Type} (l : List α) (d : α) : L2.atI (l ++ [d]) (-1) = some d := by
  have e : L2.ixN (l ++ [d]).length (-1) = some l.length := by
    unfold L2.ixN
    rw [if_neg (by omega)]
    simp
    try omega
  unfold L2.atI
  rw [e]
  simp
/-! ### texts -/
theorem strsOf_of : ∀ {l : List D}, (∀ d ∈ l, ∃ c : Nat, d = .str [c]) → ∃ w : List Nat, strsOf l = some (w.map fun c => [c]) ∧ w.length = l.length ∧ l = w.map fun c => .str [c]
  | [], _ => ⟨[], rfl, rfl, rfl⟩
  | d :: r, h => by
    obtain ⟨c, rfl⟩ := h d (List.mem_cons_self ..)
    obtain ⟨w, h1, h2, h3⟩ := strsOf_of (l := r) fun d hd => h d (List.mem_cons_of_mem _ hd)
    exact ⟨c :: w, by simp [strsOf, h1], by simp [h2], by rw [h3]; rfl⟩
theorem join_signs : ∀ w : List Nat, joinL [] (w.map fun c => [c]) = w
  | [] => rfl
  | [c] => rfl
  | c :: d :: r => by
    show [c] ++ [] ++ joinL [] ((d :: r).map fun c => [c]) = _
    rw [join_signs (d :: r)]
    rfl
theorem sum_ones : ∀ w : List Nat, ((w.map fun c => [c]).map (·.length)).sum = w.length
  | [] => rfl
  | c :: r => by
    simp only [List.map_cons, List.sum_cons, sum_ones r, List.length_cons, List.length_nil]
    omega
theorem any_str (w : List Nat) : ∀ F : List (List Nat), ((F.map D.str).any fun y => eqF y (.str w)) = decide (w ∈ F)
  | [] => by simp
  | x :: r => by
    rw [List.map_cons, List.any_cons, any_str w r]
    show (x == w || _) = _
    by_cases h : x = w
    · subst h; simp
    · have : (x == w) = false := beq_eq_false_iff_ne.mpr h
      rw [this, Bool.false_or]
      congr 1
      rw [List.mem_cons, eq_iff_iff]
      exact ⟨.inr, fun z => z.resolve_left fun e => h e.symm⟩
theorem flat_strs (F : List (List Nat)) : (F.map D.str).all flatD = true := by simp [flatD]
theorem oInF_strs {neg : Bool} {w : List Nat} {d : D} {F : List (List Nat)} {M : Mem} (h : seqOf M d = some (F.map .str)) : oInF neg (.str w) d M = .ok (.bl (neg != decide (w ∈ F))) M := by
  simp only [oInF, h, flat_strs, flatD, and_self, if_true, any_str]
  cases neg <;> simp
theorem sortD_str (ws : List (List Nat)) : sortD (ws.map .str) = (ws.mergeSort fun a b => decide (a ≤ b)).map .str := by
  unfold sortD
  symm
  apply List.map_mergeSort
  intro a _ b _
  have h := PySem.W.dataLe_str (β := List Nat) l2s
  show decide (a ≤ b) = PySem.W.dataLe false encD (.str a) (.str b)
  have h2 : PySem.W.dataLe false (fun b : List Nat => PyData.str (l2s b)) a b = decide (a ≤ b) := by
    rw [h]
    simp [l2s]
    all_goals rfl
  rw [← h2]
  rfl
theorem le_trans_txt {a b c : List Nat} (h1 : a ≤ b) (h2 : b ≤ c) : a ≤ c := List.le_trans h1 h2
theorem sortedStr (ws : List (List Nat)) : (ws.mergeSort fun a b => decide (a ≤ b)).Pairwise (fun a b => a ≤ b) := by
  have := List.pairwise_mergeSort (le := fun a b : List Nat => decide (a ≤ b)) (fun a b c h1 h2 => by simp at *; exact List.le_trans h1 h2) (fun a b => by simp; exact List.le_total a b) ws
  exact this.imp fun h => by simpa using h
theorem sortOk_strs (ws : List (List Nat)) : sortOk (ws.map .str) := by
  refine ⟨fun d hd => ?_, fun d hd d' hd' => ?_, .inr fun d hd => ?_⟩
  · obtain ⟨w, _, rfl⟩ := List.mem_map.mp hd; exact ⟨rfl, by show PyData.depth (.str _) ≤ 60; simp [PyData.depth]⟩
  · obtain ⟨w, _, rfl⟩ := List.mem_map.mp hd
    obtain ⟨w', _, rfl⟩ := List.mem_map.mp hd'
    rfl
  · obtain ⟨w, _, rfl⟩ := List.mem_map.mp hd; rfl
theorem oSorted_strs {c : Bool} {d : D} {ws : List (List Nat)} {M : Mem} (h : lstOf M d = some (ws.map .str)) : oSorted c [d] M = mkL c ((ws.mergeSort fun a b => decide (a ≤ b)).map .str) M := by
  simp only [oSorted, h, if_pos (sortOk_strs ws), sortD_str]
theorem blsOf_map (f : α → Bool) : ∀ l : List α, blsOf (l.map fun x => D.bl (f x)) = some (l.map f)
  | [] => rfl
  | x :: r => by simp only [List.map_cons, blsOf, blsOf_map f r, Option.map_some]
theorem oAll_map {α : Type} (f : α → Bool) (l : List α) {M : Mem} : oAll [.lst (l.map fun x => D.bl (f x))] M = .ok (.bl (l.all f)) M := by
  simp only [oAll, oAllAny, lstOf, Option.bind_some, blsOf_map]
  congr 2
  simp [List.all_map]
theorem oAny_map {α : Type} (f : α → Bool) (l : List α) {M : Mem} : oAny [.lst (l.map fun x => D.bl (f x))] M = .ok (.bl (l.any f)) M := by
  simp only [oAny, oAllAny, lstOf, Option.bind_some, blsOf_map]
  congr 2
  simp [List.any_map]
theorem mPar3_eq (i j l : Nat) (g : FA) {env : Fn.Env} {M : Mem} : mPar3 i j l g env M = (g env M).bind fun ds m => match ds with
  | [d, d', d''] => .ok (.nx (((env.set i (some d)).set j (some d')).set l (some d''))) m
  | _ => .no := rfl
/-! ### what a call leaves -/
theorem gc_ref {B : FS} {N : Nat} {ds : List D} {M junk : Mem} {i : Nat} {c : Cell} {l : List D} {ps : List PyData} (hB : runB B N ds M = .ok (.ref M.length) (M.set i c ++ .lst l :: junk)) (hc : bdC M.length c = true) (hl : pyL l = some ps) : gcB B N ds M = .ok (.lst l) (M.set i c) := by
  have hf : frzD (M.set i c ++ .lst l :: junk) M.length (.ref M.length) = .lst l := by
    simp only [frzD, Nat.lt_irrefl, if_false, app_get0 (show (M.set i c).length = M.length from List.length_set ..)]
  unfold gcB gcR
  simp only [hB]
  rw [if_pos (by rw [hf]; exact cut_set (d := .lst l) (by simp only [bdD]; exact pyL_bd hl) hc), hf, List.take_append_of_le_length (by simp), List.take_of_length_le (by simp)]
theorem gc_val {B : FS} {N : Nat} {ds : List D} {M junk : Mem} {i : Nat} {c : Cell} {d : D} {p : PyData} (hB : runB B N ds M = .ok d (M.set i c ++ junk)) (hc : bdC M.length c = true) (hl : pyD d = some p) : gcB B N ds M = .ok d (M.set i c) := by
  have hf : frzD (M.set i c ++ junk) M.length d = d := frzD_py _ _ _ _ hl
  unfold gcB gcR
  simp only [hB]
  rw [if_pos (by rw [hf]; exact cut_set (d := d) (pyD_bd hl) hc), hf, List.take_append_of_le_length (by simp), List.take_of_length_le (by simp)]
/-- of a call that changes nothing -/
theorem gc_ref0 {B : FS} {N : Nat} {ds : List D} {M junk : Mem} {l : List D} {ps : List PyData} (hB : runB B N ds M = .ok (.ref M.length) (M ++ .lst l :: junk)) (hl : pyL l = some ps) : gcB B N ds M = .ok (.lst l) M := by
  have hf : frzD (M ++ .lst l :: junk) M.length (.ref M.length) = .lst l := by
    simp only [frzD, Nat.lt_irrefl, if_false, app_get0 (show M.length = M.length from rfl)]
  unfold gcB gcR
  simp only [hB]
  rw [if_pos (by rw [hf]; exact cut_id (d := .lst l) (by simp only [bdD]; exact pyL_bd hl)), hf, List.take_append_of_le_length (by simp), List.take_of_length_le (by simp)]
theorem gc_val0 {B : FS} {N : Nat} {ds : List D} {M junk : Mem} {d : D} {p : PyData} (hB : runB B N ds M = .ok d (M ++ junk)) (hl : pyD d = some p) : gcB B N ds M = .ok d M := by
  have hf : frzD (M ++ junk) M.length d = d := frzD_py _ _ _ _ hl
  unfold gcB gcR
  simp only [hB]
  rw [if_pos (by rw [hf]; exact cut_id (d := d) (pyD_bd hl)), hf, List.take_append_of_le_length (by simp), List.take_of_length_le (by simp)]
theorem gc_flow {B : FS} {N : Nat} {ds : List D} {M A junk : Mem} {i : Nat} {l : List D} {n : Nat} (hA : FlAt M i A) (hB : runB B N ds M = .ok (.ref M.length) (A ++ .lst l :: junk)) (hl : PlL n l) : gcB B N ds M = .ok (.lst l) A := by
  obtain ⟨s, _, rfl⟩ := hA.at_
  obtain ⟨ps, hps, _⟩ := hl.py
  exact gc_ref hB rfl hps
theorem gc_flowV {B : FS} {N : Nat} {ds : List D} {M A junk : Mem} {i : Nat} {d : D} {n : Nat} (hA : FlAt M i A) (hB : runB B N ds M = .ok d (A ++ junk)) (hl : Pl n d) : gcB B N ds M = .ok d A := by
  obtain ⟨s, _, rfl⟩ := hA.at_
  obtain ⟨p, hp, _⟩ := hl
  exact gc_val hB rfl hp
theorem gc_feed {B : FS} {N : Nat} {ds : List D} {M A junk : Mem} {i : Nat} {l : List D} {n : Nat} (hA : FdAt M i A) (hB : runB B N ds M = .ok (.ref M.length) (A ++ .lst l :: junk)) (hl : PlL n l) : gcB B N ds M = .ok (.lst l) A := by
  obtain ⟨s, rfl⟩ := hA.at_
  obtain ⟨ps, hps, _⟩ := hl.py
  exact gc_ref hB rfl hps
theorem gc_feedV {B : FS} {N : Nat} {ds : List D} {M A junk : Mem} {i : Nat} {d : D} {n : Nat} (hA : FdAt M i A) (hB : runB B N ds M = .ok d (A ++ junk)) (hl : Pl n d) : gcB B N ds M = .ok d A := by
  obtain ⟨s, rfl⟩ := hA.at_
  obtain ⟨p, hp, _⟩ := hl
  exact gc_val hB rfl hp
theorem FlAt.trans {M0 M1 M2 : Mem} {i : Nat} (h : FlAt M0 i M1) (h' : FlAt M1 i M2) : FlAt M0 i M2 := by
  obtain ⟨s, _, e⟩ := h.at_
  obtain ⟨s', k, e'⟩ := h'.at_
  exact ⟨⟨s', k, by rw [e', e, set_twice]⟩, h.lt⟩
theorem FlAt.self {M0 M1 : Mem} {i : Nat} (h : FlAt M0 i M1) : FlAt M1 i M1 := by
  obtain ⟨s, k, h1, _⟩ := h.get
  exact .start k h1
theorem plL_str {n : Nat} (F : List (List Nat)) : PlL n (F.map .str) := fun d hd => by obtain ⟨w, _, rfl⟩ := List.mem_map.mp hd; exact Pl.str _
theorem plL_int {n : Nat} (F : List Int) : PlL n (F.map .int) := fun d hd => by obtain ⟨w, _, rfl⟩ := List.mem_map.mp hd; exact Pl.int _
end Fn

set_option Elab.async false
set_option linter.all false
set_option maxRecDepth 100000
/-! FnSet: sorted(set(a list of whole numbers)). -/
namespace Fn
open PySem PySem.Spec PyProof.Rows L2
abbrev ob0 (w : World) : Obj := { cls := .type "set", dict := none, data := .set #[] 0 (.fresh 0 0 (!w.params.followText "set-order")) }
section
variable {P : Program} {w : World} {A : Around} {E : Value → Shared → Prop} {s : Shared}
/-- what stands behind set.__init__ -/
abbrev Filled (w : World) (s : Shared) (ns : List Int) (s2 : Shared) : Prop := ∃ h2 tk c, s2 = { s with heap := h2, toks := tk } ∧ SetR w h2 s.heap.objs.size (fun j => decide (j ∈ ns)) c ∧ c ≤ ns.length ∧ ∀ b o, s.heap.get? b = some o → h2.get? b = some o
set_option maxHeartbeats 3200000 in
theorem set_of_list {l : Addr} {vs : Array Value} (ns : List Int) {Q : Value → Shared → Prop} (nh : A.handled = none) (pl : s.heap.IsList l vs) (iv : IntsAre vs.toList ns) (fit : ns.length + 1 < scanBound)
    (done : ∀ s2, Filled w s ns s2 → Q (.ref s.heap.objs.size) s2) : wpAny (model P w) A (call (.type "set") [.ref l]) Q E s := by
  have vn : vs.size = ns.length := by have q := IntsAre.length iv; rwa [Array.length_toList] at q
  obtain ⟨cm, tm, mro⟩ := F.called_set.mro
  have k1 := F.called_set.made
  have k2 := F.called_set.sub
  have k3 := F.called_set.notType
  have k4 := F.called_set.canCreate
  have k5 := F.typeCall_set_1 (.ref l)
  apply wpAny_call; apply codeAny_of_tree
  show wpAny (model P w) _ (callAny (.type "set") _) _ _ s
  apply wpAny_pure; refine ⟨Code.quiet_builtin _ (by decide +kernel), ?_⟩
  apply codeAny_builtin PySem.F.entry_type_call
  rw [Around.under_plain (weight_type_call_type "set" [.ref l] []) rfl]
  repeat (any_goals (first | assumption | wp_step))
  refine codeAny_mono (R := wants (fun z s1 => z = .ref s.heap.objs.size ∧ s1 = { s with heap := s.heap.push (ob0 w) }) E) (code_set_led1 (.ref l) (Q₁ := fun z s1 => z = .ref s.heap.objs.size ∧ s1 = { s with heap := s.heap.push (ob0 w) }) ⟨rfl, rfl⟩) ?_
  rintro (er | fl) s1 got
  · exact got
  cases fl <;> first | exact got.elim | skip
  obtain ⟨rfl, rfl⟩ := got
  have g0 : (s.heap.push (ob0 w)).get? s.heap.objs.size = some (ob0 w) := Heap.get?_push_size _ rfl
  have ty : Shared.TypeIs { s with heap := s.heap.push (ob0 w) } (.ref s.heap.objs.size) "set" := ⟨ob0 w, g0, rfl⟩
  have k6 := F.called_set.init.lookup
  have k7 := F.called_set.init.bind (.ref s.heap.objs.size)
  repeat (any_goals (first | assumption | wp_step))
  refine codeAny_mono (R := wants (fun z s2 => z = .none ∧ Filled w s ns s2) E) (codeAny_call_builtin F.called_set.init.plain F.entry_set_init (check_set_init_1 ty ?_)) ?_
  · obtain ⟨ol, eo, ec, m, ed⟩ := pl
    obtain ⟨cl, di, da, sl⟩ := ol
    simp only at ec ed
    subst ec ed
    have eo1 : (s.heap.push (ob0 w)).get? l = some { cls := .type "list", dict := di, data := .seq vs m, slots := sl } := Heap.get?_push_of_some _ eo
    have n1 := F.sub_list_set
    have n2 := F.sub_list_frozenset
    have n3 : (Value.type "list" == Value.type "dict") = false := by decide
    have pl1 : (s.heap.push (ob0 w)).IsList l vs := ⟨_, eo1, rfl, m, rfl⟩
    have lt0 : l < s.heap.objs.size := Heap.lt_size eo
    have z1 : (s.heap.push (ob0 w)).objs.size = s.heap.objs.size + 1 := Heap.size_push ..
    unfold Builtin.«set.__init__» noKeywords Builtin.Frozenset.updateFrom
    generalize hPI : pyIter = PI
    wp_walk
    subst hPI
    apply wpAny_pyIter_list pl1
    apply wpAny_bind; apply wpAny_runValue
    have nh3 : A.in1.in1.in1.handled = none := by simp [nh]
    have away : l ≠ (s.heap.push (ob0 w)).objs.size := by rw [z1]; exact Nat.ne_of_lt (Nat.lt_succ_of_lt lt0)
    have off : s.heap.objs.size ∉ [(s.heap.push (ob0 w)).objs.size, l] := by
      rw [z1, List.mem_cons, List.mem_singleton, not_or]
      exact ⟨Nat.ne_of_lt (Nat.lt_succ_self _), Nat.ne_of_gt lt0⟩
    have item : ∀ (i : Nat) (v : Value), vs[i]? = some v → ∃ k t, ns[i]? = some k ∧ v = .int k t := by
      intro i v e
      have hi : i < ns.length := by rw [← vn]; exact (Array.getElem?_eq_some_iff.mp e).1
      obtain ⟨t, q⟩ := PyProof.Rows.IntsAre.int_at iv i v (by rw [Array.getElem?_toList]; exact e)
      exact ⟨ns[i], t, List.getElem?_eq_getElem hi, by rw [q, List.getD_eq_getElem?_getD, List.getElem?_eq_getElem hi]; rfl⟩
    refine set_update_ints ((Walks.list nh3 _ l away vs).toS) s.heap.objs.size off ns vn fit item vs.size 0 _ (by omega) (Nat.zero_le _) ⟨⟨_, Heap.get?_push_size _ rfl, rfl, rfl⟩, pl1.push _⟩ ?_ ?_
    · exact ⟨0, Nat.le_refl 0, setR_new_at (Heap.get?_push_of_some _ g0)⟩
    · rintro ⟨h2, g2, d2, tk2, os2⟩ c mv cn R
      have e1 : g2 = s.gens := mv.gens
      have e2 : d2 = s.drawn := mv.drawn
      have e3 : os2 = s.os := mv.os
      subst e1 e2 e3
      rw [vn] at cn
      apply wpAny_pure
      apply wpAny_pure
      refine ⟨rfl, h2, tk2, c, rfl, R, cn, fun b o e => mv.heap b o ?_ (Heap.get?_push_of_some _ (Heap.get?_push_of_some _ e))⟩
      have lb := Heap.lt_size e
      rw [z1, List.mem_cons, List.mem_singleton, not_or]
      exact ⟨Nat.ne_of_lt lb, Nat.ne_of_lt (Nat.lt_succ_of_lt lb)⟩
  · rintro (er | fl) s2 got
    · exact got
    cases fl <;> first | exact got.elim | skip
    obtain ⟨rfl, fin⟩ := got
    repeat (any_goals (first | assumption | wp_step))
    exact done _ fin
end
/-! ### the sorted list of the members -/
def insU (k : Int) : List Int → List Int
  | [] => [k]
  | a :: r => if k < a then k :: a :: r else if k = a then a :: r else a :: insU k r
def setSort (ns : List Int) : List Int := ns.foldr insU []
theorem insU_mem {k x : Int} : ∀ {l : List Int}, x ∈ insU k l ↔ x = k ∨ x ∈ l
  | [] => by simp [insU]
  | a :: r => by
    unfold insU
    split
    · simp
    · split
      · rename_i h; subst h; simp
      · rw [List.mem_cons, insU_mem, List.mem_cons]
        exact ⟨fun h => h.elim (fun h => .inr (.inl h)) fun h => h.elim .inl fun h => .inr (.inr h), fun h => h.elim (fun h => .inr (.inl h)) fun h => h.elim .inl fun h => .inr (.inr h)⟩
theorem insU_up {k : Int} : ∀ {l : List Int}, l.Pairwise (· < ·) → (insU k l).Pairwise (· < ·)
  | [], _ => by simp [insU]
  | a :: r, h => by
    have h1 := List.pairwise_cons.mp h
    unfold insU
    split
    · rename_i q
      exact List.pairwise_cons.mpr ⟨fun x hx => by
        rcases List.mem_cons.mp hx with e | e
        · rw [e]; exact q
        · have := h1.1 x e; omega, h⟩
    · split
      · exact h
      · exact List.pairwise_cons.mpr ⟨fun x hx => by
          rcases insU_mem.mp hx with e | e
          · rw [e]; omega
          · exact h1.1 x e, insU_up h1.2⟩
theorem setSort_up : ∀ ns : List Int, (setSort ns).Pairwise (· < ·)
  | [] => List.Pairwise.nil
  | k :: r => insU_up (setSort_up r)
theorem setSort_mem {x : Int} : ∀ {ns : List Int}, x ∈ setSort ns ↔ x ∈ ns
  | [] => by simp [setSort]
  | k :: r => by
    show x ∈ insU k (setSort r) ↔ _
    rw [insU_mem, setSort_mem, List.mem_cons]
theorem ints_up_eq : ∀ {l m : List Int}, l.Pairwise (· < ·) → m.Pairwise (· < ·) → (∀ x, x ∈ l ↔ x ∈ m) → l = m
  | [], [], _, _, _ => rfl
  | [], b :: m, _, _, h => by have := (h b).mpr (List.mem_cons_self ..); cases this
  | a :: l, [], _, _, h => by have := (h a).mp (List.mem_cons_self ..); cases this
  | a :: l, b :: m, h1, h2, h => by
    have k1 := List.pairwise_cons.mp h1
    have k2 := List.pairwise_cons.mp h2
    have e : a = b := by
      rcases List.mem_cons.mp ((h a).mp (List.mem_cons_self ..)) with e | e
      · exact e
      · rcases List.mem_cons.mp ((h b).mpr (List.mem_cons_self ..)) with e' | e'
        · exact e'.symm
        · have := k2.1 a e; have := k1.1 b e'; omega
    subst e
    rw [ints_up_eq k1.2 k2.2 fun x => ⟨fun hx => by
        rcases List.mem_cons.mp ((h x).mp (List.mem_cons_of_mem _ hx)) with e | e
        · have := k1.1 x hx; omega
        · exact e, fun hx => by
        rcases List.mem_cons.mp ((h x).mpr (List.mem_cons_of_mem _ hx)) with e | e
        · have := k2.1 x hx; omega
        · exact e⟩]
section
variable {X : Cx} {G : Gx} {cl : Nat → Addr} {E : XK} {W : Wd} {H : Hp} {M : Mem} {e : Expr} {fa : FE} {p1 p2 pos q : Pos}
def rSetI (K : PySem.W.Frag) (w : World) : List V → Hp → VK → Prop := fun xs H Q => ∃ (l : Addr) (ns : List Int), xs = [V.ref l] ∧ SqL K H l (ns.map V.int) ∧ ns.length < 60 ∧ ∀ p c, H p = none → c ≤ ns.length → Q (.ref p) (upd H p (SetO w p (fun j => decide (j ∈ ns)) c))
theorem cr_setI (hc : X.calm = true) : CallR X (.type "set") (rSetI X.K X.w) := by
  intro pins s σ H xs us Q I r h
  obtain ⟨l, ns, rfl, hs, hl, k⟩ := h
  obtain ⟨its, rv, pl, hz⟩ := I.list hs
  rw [Vals.ref1 r]
  refine set_of_list ns (I.ok.hd hc) pl.isList (by simpa using ints_of_vals rv) (by unfold scanBound; omega) ?_
  rintro _ ⟨h2, tk, c, rfl, R, hc2, kp⟩
  exact ⟨.ref _, upd H s.heap.objs.size (SetO X.w s.heap.objs.size (fun j => decide (j ∈ ns)) c), I.laid (t' := tk) kp (Nat.le_refl _) (setO_new R), rfl, k _ _ (I.hok.fresh (Nat.le_refl _)) hc2⟩
def oSortSet (c : Bool) : List D → Mem → R D
  | [d], M => match (lstOf M d).bind intsOf with
    | some ns => if ns.length < 60 then mkL c ((setSort ns).map .int) M else .no
    | none => .no
  | _, _ => .no
theorem rpL_ints : ∀ ns : List Int, RpL G W H (ns.map .int) (ns.map V.int)
  | [] => (rfl : ([] : List V) = [])
  | n :: r => ⟨_, _, rfl, rfl, rpL_ints r⟩
/-- sorted(set(e)) -/
theorem sn_sortSet {x y : Str} (c : Bool) (hc : X.calm = true) (hx : x = "sorted") (hy : y = "set") (hg : Gl X x) (hm : X.mg x = none) (hg2 : Gl X y) (hm2 : X.mg y = none) (ha : PE X e (tE ⟨X.K, cl⟩ E fa))
    (he1 : starEach [.Call (.Name y p2) [e] [] q] X.env = (false, eval (.Call (.Name y p2) [e] [] q) X.env) :: starEach [] X.env := by rfl)
    (he2 : starEach [e] X.env = (false, eval e X.env) :: starEach [] X.env := by rfl)
    (hpl : (backTo pos (starEach [] X.env)).any (·.1) = false := by rfl) (hpl2 : (backTo q (starEach [] X.env)).any (·.1) = false := by rfl) :
    PE X (.Call (.Name x p1) [.Call (.Name y p2) [e] [] q] [] pos) (tE ⟨X.K, cl⟩ E (mCall (oSortSet c) (aCons fa aNil))) := by
  subst hx hy
  refine pe_imp (pe_callB (cr_sortedSet hc) hg hm (by decide +kernel) (pa_cons (pe_callTy (cr_setI hc) hg2 hm2 (by decide +kernel) (pa_cons ha pa_nil he2) (by decide) (by decide) he2 hpl2) pa_nil he1) (by decide) (by decide) he1 hpl) fun σ H Q ⟨W, env, M, s, p⟩ => ?_
  have p' : PR ⟨X.K, cl⟩ W H (PV ⟨X.K, cl⟩ Q) E ((fa env M).bind fun d m => oSortSet c [d] m) := by
    have : ((mCall (oSortSet c) (aCons fa aNil)) env M) = (fa env M).bind fun d m => oSortSet c [d] m := by
      show ((aCons fa aNil) env M).bind (oSortSet c) = _
      exact aCons_bind
    rw [← this]; exact p
  refine tE.bind s p' fun d m1 W1 H1 u f1 s1 r1 p1 => ?_
  simp only [oSortSet] at p1
  split at p1
  · rename_i ns e1
    split at p1
    · rename_i hl
      cases q1 : lstOf m1 d with
      | none => rw [q1] at e1; cases e1
      | some l =>
        rw [q1] at e1
        obtain ⟨a1, vs, rfl, h2, h3⟩ := lstOf_ok s1.mem r1 q1
        have hv := intsOf_ok h3 e1
        subst hv
        refine ⟨a1, ns, rfl, h2, hl, fun p0 cc hp0 hcc => ?_⟩
        refine ⟨p0, _, cc, rfl, upd_same, by omega, fun ms q0 up mem _ hq0 => ?_⟩
        have ems : ms = setSort ns := ints_up_eq up (setSort_up ns) fun x => by rw [mem, setSort_mem]; exact decide_eq_true_iff
        subst ems
        have f2 : Fut W1 H1 W1 (upd H1 p0 (SetO X.w p0 (fun j => decide (j ∈ ns)) cc)) := Fut.laid hp0
        exact mkL_new (s1.mem.laid hp0) (PR.fut f2 p1) (rpL_ints _) q0 hq0
    · exact p1.elim
  · exact p1.elim
end
end Fn

set_option Elab.async false
set_option linter.all false
set_option maxRecDepth 100000
set_option maxHeartbeats 1000000
/-! FnFun: calls that leave a keyword-only default out; xs[::-1]. -/
namespace Fn
open PySem PySem.Spec PyProof.Rows L2
section
variable {X : Cx} {CX : CXT} {k n : Nat} {f : Addr} {fd : FuncData} {ps : List Str} {g : FD} {dd : List D} {dvs : List V} {ds : List Value} {G : Gx} {cl : Nat → Addr} {E : XK} {x : Str} {p pos : Pos} {e : Expr} {es : List Expr} {ga : FA}
theorem fun_readsK {K : PySem.W.Frag} (hc : ClosedK K cl dd dvs) (σ : L2.St) (H : Hp) (Q : VK) (h : tE ⟨K, cl⟩ E (mFun n g dd ga) σ H Q) : tCall (spOf ⟨K, cl⟩ n g) dvs E (tA ⟨K, cl⟩ E ga) σ H Q := by
  obtain ⟨W, env, M, s, p⟩ := h
  refine tA.bind s p fun xs m2 W2 H2 us f2 s2 r2 p2 => ?_
  split at p2
  · rename_i hl
    exact ⟨W2, m2, xs ++ dd, s2.mem, r2.append (hc W2 H2), hl, p2⟩
  · exact p2.elim
theorem sn_callD (F : FnOk X.prog X.w X.K X.mg X.base CX k f fd ps (spOf ⟨X.K, cl⟩ n g)) (hr : Room k X.A) (hg : Gl X x) (hm : X.mg x = some (.ref f)) (hk : PySem.W.keepIn X.K (.ref f) = true) (hb : Binds X.K fd ps ds) (hd : Vals dvs ds) (hc : ClosedK X.K cl dd dvs) (hx : Passes CX X E)
    (ha : PA X (e :: es) (tA ⟨X.K, cl⟩ E ga)) (hdb : (x == ("__debug__" : Str)) = false := by decide) (he : starEach (e :: es) X.env = (false, eval e X.env) :: starEach es X.env := by rfl) (hpl : (backTo pos (starEach es X.env)).any (·.1) = false := by rfl) :
    PE X (.Call (.Name x p) (e :: es) [] pos) (tE ⟨X.K, cl⟩ E (mFun n g dd ga)) := pe_imp (pe_call F hr hg hm hk hb hd hx ha hdb he hpl) (fun_readsK hc)
def oRev (c : Bool) (d : D) (M : Mem) : R D := match lstOf M d with
  | some l => mkL c l.reverse M
  | none => .no
theorem sn_revL (c : Bool) {e : Expr} {fa : FE} {j : Nat} {p1 p2 p3 : Pos} (ha : PE X e (tE ⟨X.K, cl⟩ E fa)) : PE X (.Subscript e (.Slice none none (some (.UnaryOp .USub (.Constant (.int 1) j p1) p2)) p3) pos) (tE ⟨X.K, cl⟩ E (mUn (oRev c) fa)) := pe_imp (pe_revL ha) fun σ H Q ⟨W, env, M, s, p⟩ => by
  refine tE.bind s p fun d m W1 H1 u f1 s1 r1 p1 => ?_
  unfold oRev at p1
  split at p1
  · rename_i l e1
    obtain ⟨a1, us, h1, h2, h3⟩ := lstOf_ok s1.mem r1 e1
    exact ⟨a1, us, h1, h2, mkL_new s1.mem p1 h3.reverse⟩
  · exact p1.elim
end
end Fn

set_option Elab.async false
set_option linter.all false
set_option maxRecDepth 100000
set_option maxHeartbeats 1000000
/-! FnEq: equality of exact data (no truths, nothing frozen, no cells) is equality. -/
namespace Fn
open PySem PySem.Spec PyProof.Rows L2
mutual
def exD : D → Bool
  | .non | .int _ | .str _ => true
  | .tup l => exL l
  | .lst l => exL l
  | _ => false
def exL : List D → Bool
  | [] => true
  | d :: r => exD d && exL r
end
theorem exL_iff : ∀ {l : List D}, exL l = true ↔ ∀ d ∈ l, exD d = true
  | [] => by simp [exL]
  | d :: r => by simp only [exL, Bool.and_eq_true, exL_iff, List.mem_cons, forall_eq_or_imp]
mutual
theorem eqv_ex : ∀ (a b : D) (p q : PyData), exD a = true → exD b = true → pyD a = some p → pyD b = some q → (PyData.eqv p q = true ↔ a = b)
  | .non, b, p, q, h1, h2, e1, e2 => by
    cases e1
    cases b <;> simp only [exD, Bool.false_eq_true] at h2 <;> simp only [pyD, Option.some.injEq, Option.map_eq_some_iff] at e2
    case non => subst e2; simp [PyData.eqv]
    case int => subst e2; simp [PyData.eqv]
    case str => subst e2; simp [PyData.eqv]
    case tup => obtain ⟨x, _, rfl⟩ := e2; simp [PyData.eqv]
    case lst => obtain ⟨x, _, rfl⟩ := e2; simp [PyData.eqv]
  | .int i, b, p, q, h1, h2, e1, e2 => by
    cases e1
    cases b <;> simp only [exD, Bool.false_eq_true] at h2 <;> simp only [pyD, Option.some.injEq, Option.map_eq_some_iff] at e2
    case non => subst e2; simp [PyData.eqv]
    case int => subst e2; simp [PyData.eqv]
    case str => subst e2; simp [PyData.eqv]
    case tup => obtain ⟨x, _, rfl⟩ := e2; simp [PyData.eqv]
    case lst => obtain ⟨x, _, rfl⟩ := e2; simp [PyData.eqv]
  | .str s, b, p, q, h1, h2, e1, e2 => by
    cases e1
    cases b <;> simp only [exD, Bool.false_eq_true] at h2 <;> simp only [pyD, Option.some.injEq, Option.map_eq_some_iff] at e2
    case non => subst e2; simp [PyData.eqv]
    case int => subst e2; simp [PyData.eqv]
    case str y =>
      subst e2
      simp only [PyData.eqv, beq_iff_eq, D.str.injEq]
      exact ⟨fun h => l2s_inj h, fun h => by rw [h]⟩
    case tup => obtain ⟨x, _, rfl⟩ := e2; simp [PyData.eqv]
    case lst => obtain ⟨x, _, rfl⟩ := e2; simp [PyData.eqv]
  | .tup l, b, p, q, h1, h2, e1, e2 => by
    simp only [pyD, Option.map_eq_some_iff] at e1
    obtain ⟨ps, k1, rfl⟩ := e1
    cases b <;> simp only [exD, Bool.false_eq_true] at h2 <;> simp only [pyD, Option.some.injEq, Option.map_eq_some_iff] at e2
    case non => subst e2; simp [PyData.eqv]
    case int => subst e2; simp [PyData.eqv]
    case str => subst e2; simp [PyData.eqv]
    case tup m =>
      obtain ⟨qs, k2, rfl⟩ := e2
      simp only [PyData.eqv, D.tup.injEq]
      exact eqv_exL l m ps qs (by simpa only [exD] using h1) h2 k1 k2
    case lst => obtain ⟨x, _, rfl⟩ := e2; simp [PyData.eqv]
  | .lst l, b, p, q, h1, h2, e1, e2 => by
    simp only [pyD, Option.map_eq_some_iff] at e1
    obtain ⟨ps, k1, rfl⟩ := e1
    cases b <;> simp only [exD, Bool.false_eq_true] at h2 <;> simp only [pyD, Option.some.injEq, Option.map_eq_some_iff] at e2
    case non => subst e2; simp [PyData.eqv]
    case int => subst e2; simp [PyData.eqv]
    case str => subst e2; simp [PyData.eqv]
    case tup => obtain ⟨x, _, rfl⟩ := e2; simp [PyData.eqv]
    case lst m =>
      obtain ⟨qs, k2, rfl⟩ := e2
      simp only [PyData.eqv, D.lst.injEq]
      exact eqv_exL l m ps qs (by simpa only [exD] using h1) h2 k1 k2
  | .bl _, b, p, q, h1, h2, e1, e2 => by simp only [exD, Bool.false_eq_true] at h1
  | .fz _, b, p, q, h1, h2, e1, e2 => by simp only [exD, Bool.false_eq_true] at h1
  | .ref _, b, p, q, h1, h2, e1, e2 => by simp only [exD, Bool.false_eq_true] at h1
theorem eqv_exL : ∀ (l m : List D) (ps qs : List PyData), exL l = true → exL m = true → pyL l = some ps → pyL m = some qs → (PyData.eqvAll ps qs = true ↔ l = m)
  | [], m, ps, qs, h1, h2, e1, e2 => by
    cases e1
    cases m with
    | nil => cases e2; simp [PyData.eqvAll]
    | cons b m =>
      simp only [pyL] at e2
      split at e2
      · cases e2; simp [PyData.eqvAll]
      · cases e2
  | a :: l, m, ps, qs, h1, h2, e1, e2 => by
    simp only [pyL] at e1
    split at e1
    · rename_i p ps' k1 k2
      cases e1
      cases m with
      | nil => cases e2; simp [PyData.eqvAll]
      | cons b m =>
        simp only [pyL] at e2
        split at e2
        · rename_i q qs' k3 k4
          cases e2
          simp only [exL, Bool.and_eq_true] at h1 h2
          simp only [PyData.eqvAll, Bool.and_eq_true, eqv_ex a b p q h1.1 h2.1 k1 k3, eqv_exL l m ps' qs' h1.2 h2.2 k2 k4, List.cons.injEq]
        · cases e2
    · cases e1
end
mutual
def dpD : D → Nat
  | .tup l => dpL l + 1
  | .lst l => dpL l + 1
  | _ => 0
def dpL : List D → Nat
  | [] => 0
  | d :: r => max (dpD d) (dpL r)
end
mutual
theorem ex_py : ∀ (a : D), exD a = true → ∃ p, pyD a = some p ∧ p.depth ≤ dpD a
  | .non, _ => ⟨_, rfl, by simp [PyData.depth]⟩
  | .int _, _ => ⟨_, rfl, by simp [PyData.depth]⟩
  | .str _, _ => ⟨_, rfl, by simp [PyData.depth]⟩
  | .tup l, h => by
    obtain ⟨ps, h1, h2⟩ := ex_pyL l (by simpa only [exD] using h)
    exact ⟨.tuple ps, by simp only [pyD, h1, Option.map_some], by simp only [PyData.depth, dpD]; omega⟩
  | .lst l, h => by
    obtain ⟨ps, h1, h2⟩ := ex_pyL l (by simpa only [exD] using h)
    exact ⟨.list ps, by simp only [pyD, h1, Option.map_some], by simp only [PyData.depth, dpD]; omega⟩
  | .bl _, h => by simp only [exD, Bool.false_eq_true] at h
  | .fz _, h => by simp only [exD, Bool.false_eq_true] at h
  | .ref _, h => by simp only [exD, Bool.false_eq_true] at h
theorem ex_pyL : ∀ (l : List D), exL l = true → ∃ ps, pyL l = some ps ∧ PyData.depthAll ps ≤ dpL l
  | [], _ => ⟨[], rfl, by simp [PyData.depthAll]⟩
  | d :: r, h => by
    simp only [exL, Bool.and_eq_true] at h
    obtain ⟨p, h1, h2⟩ := ex_py d h.1
    obtain ⟨ps, h3, h4⟩ := ex_pyL r h.2
    exact ⟨p :: ps, by simp only [pyL, h1, h3], by simp only [PyData.depthAll, dpL]; omega⟩
end
theorem ex_pl {a : D} (h : exD a = true) : Pl (dpD a) a := ex_py a h
theorem oEq_ex {ne : Bool} {a b : D} {M : Mem} (ha : exD a = true) (hb : exD b = true) (hd : dpD a ≤ 60) : oEq ne a b M = .ok (.bl (ne != (@decide (a = b) (Classical.propDecidable _)))) M := by
  obtain ⟨p, p1, p2⟩ := ex_py a ha
  obtain ⟨q, q1, q2⟩ := ex_py b hb
  have k1 : pyM M a = some p := pyGo_of p1
  have k2 : pyM M b = some q := pyGo_of q1
  have hm : min p.depth q.depth ≤ 60 := by omega
  have he : PyData.eqv p q = @decide (a = b) (Classical.propDecidable _) := by
    rw [Bool.eq_iff_iff, @decide_eq_true_iff _ (Classical.propDecidable _)]
    exact eqv_ex a b p q ha hb p1 q1
  simp only [oEq, k1, k2, if_pos hm, he]
  cases ne <;> simp
theorem oEq_exT {ne : Bool} {a : D} {M : Mem} (ha : exD a = true) (hd : dpD a ≤ 60) : oEq ne a a M = .ok (.bl (!ne)) M := by
  rw [oEq_ex ha ha hd]
  simp
theorem oEq_exF {ne : Bool} {a b : D} {M : Mem} (ha : exD a = true) (hb : exD b = true) (hd : dpD a ≤ 60) (h : a ≠ b) : oEq ne a b M = .ok (.bl ne) M := by
  rw [oEq_ex ha hb hd]
  simp [h]
theorem exL_strs (l : List (List Nat)) : exL (l.map .str) = true := by
  rw [exL_iff]; intro d hd; obtain ⟨w, _, rfl⟩ := List.mem_map.mp hd; rfl
theorem exL_ints (l : List Int) : exL (l.map .int) = true := by
  rw [exL_iff]; intro d hd; obtain ⟨w, _, rfl⟩ := List.mem_map.mp hd; rfl
theorem dpL_le {n : Nat} : ∀ {l : List D}, (∀ d ∈ l, dpD d ≤ n) → dpL l ≤ n
  | [], _ => Nat.zero_le _
  | d :: r, h => by
    have h1 := h d (List.mem_cons_self ..)
    have h2 := dpL_le (l := r) fun x hx => h x (List.mem_cons_of_mem _ hx)
    simp only [dpL]; omega
theorem dpL_strs (l : List (List Nat)) : dpL (l.map .str) = 0 := by
  have := dpL_le (n := 0) (l := l.map D.str) fun d hd => by obtain ⟨w, _, rfl⟩ := List.mem_map.mp hd; exact Nat.le_refl _
  omega
theorem dpL_ints (l : List Int) : dpL (l.map .int) = 0 := by
  have := dpL_le (n := 0) (l := l.map D.int) fun d hd => by obtain ⟨w, _, rfl⟩ := List.mem_map.mp hd; exact Nat.le_refl _
  omega
end Fn

set_option Elab.async false
set_option linter.all false
set_option maxRecDepth 100000
set_option maxHeartbeats 1000000
/-! FnOrd: < <= > >= of data of one make. -/
namespace Fn
open PySem PySem.Spec PyProof.Rows L2
variable {X : Cx} {G : Gx} {cl : Nat → Addr} {E : XK} {a b : Expr} {fa fb : FE} {pos : Pos}
/-- sw: the sides are exchanged; ng: the answer is turned -/
def ordV (sw ng : Bool) (d e : PyData) : Bool := ng != (if sw = true then PySem.W.dataLt e d else PySem.W.dataLt d e)
def rOrdP (sw ng : Bool) (K : PySem.W.Frag) : R2 := fun x y H Q => ∃ d e, Dp K H x d ∧ Dp K H y e ∧ PySem.W.alike d e = true ∧ d ≠ .none ∧ min d.depth e.depth ≤ 60 ∧ Q (.bl (ordV sw ng d e)) H
theorem op_ltP (hu : X.A.units + 64 < cLine) : OpR X (compareOp .Lt) (rOrdP false false X.K) := by
  intro pins s σ H x y v u Q I rx ry h
  obtain ⟨d, e, hd, he, sd, se, hm, q⟩ := h
  obtain ⟨as, r1⟩ := Dp.reads I d x v hd rx
  obtain ⟨bs, r2⟩ := Dp.reads I e y u he ry
  exact PySem.W.lt_data r1 r2 sd se (by omega) ⟨.bl _, H, I, rfl, by simpa [ordV] using q⟩
theorem op_gtP (hu : X.A.units + 64 < cLine) : OpR X (compareOp .Gt) (rOrdP true false X.K) := by
  intro pins s σ H x y v u Q I rx ry h
  obtain ⟨d, e, hd, he, sd, se, hm, q⟩ := h
  obtain ⟨as, r1⟩ := Dp.reads I d x v hd rx
  obtain ⟨bs, r2⟩ := Dp.reads I e y u he ry
  exact PySem.W.gt_data r1 r2 sd se (by omega) ⟨.bl _, H, I, rfl, by simpa [ordV] using q⟩
theorem op_leP (hu : X.A.units + 64 < cLine) : OpR X (compareOp .LtE) (rOrdP true true X.K) := by
  intro pins s σ H x y v u Q I rx ry h
  obtain ⟨d, e, hd, he, sd, se, hm, q⟩ := h
  obtain ⟨as, r1⟩ := Dp.reads I d x v hd rx
  obtain ⟨bs, r2⟩ := Dp.reads I e y u he ry
  exact PySem.W.le_data r1 r2 sd se (by omega) ⟨.bl _, H, I, rfl, by simpa [ordV] using q⟩
theorem op_geP (hu : X.A.units + 64 < cLine) : OpR X (compareOp .GtE) (rOrdP false true X.K) := by
  intro pins s σ H x y v u Q I rx ry h
  obtain ⟨d, e, hd, he, sd, se, hm, q⟩ := h
  obtain ⟨as, r1⟩ := Dp.reads I d x v hd rx
  obtain ⟨bs, r2⟩ := Dp.reads I e y u he ry
  exact PySem.W.ge_data r1 r2 sd se (by omega) ⟨.bl _, H, I, rfl, by simpa [ordV] using q⟩
def nnP : PyData → Bool
  | .none => false
  | _ => true
theorem nnP_ne {p : PyData} (h : nnP p = true) : p ≠ .none := fun e => by subst e; cases h
def oOrdD (sw ng : Bool) (a b : D) (M : Mem) : R D := match pyM M a, pyM M b with
  | some x, some y => if (PySem.W.alike x y && nnP x) = true ∧ min x.depth y.depth ≤ 60 then .ok (.bl (ordV sw ng x y)) M else .no
  | _, _ => .no
theorem op2_ordD {sw ng : Bool} : Op2 G E (rOrdP sw ng G.K) (oOrdD sw ng) := fun W H M a b u v Q m ra rb p => by
  simp only [oOrdD] at p
  split at p
  · rename_i x y e1 e2
    split at p
    · rename_i hc
      have h1 := hc.1
      rw [Bool.and_eq_true] at h1
      exact ⟨x, y, pyM_ok m ra e1, pyM_ok m rb e2, h1.1, nnP_ne h1.2, hc.2, p.here m _ rfl⟩
    · exact p.elim
  · exact p.elim
def oLtD := oOrdD false false
def oGtD := oOrdD true false
def oLeD := oOrdD true true
def oGeD := oOrdD false true
theorem sn_ltD (hu : X.A.units + 64 < cLine) (ha : PE X a (tE ⟨X.K, cl⟩ E fa)) (hb : PE X b (tE ⟨X.K, cl⟩ E fb)) : PE X (.Compare a [.Lt] [b] pos) (tE ⟨X.K, cl⟩ E (mOp oLtD fa fb)) := sn_cmp (op_ltP hu) op2_ordD (nomark _) ha hb
theorem sn_gtD (hu : X.A.units + 64 < cLine) (ha : PE X a (tE ⟨X.K, cl⟩ E fa)) (hb : PE X b (tE ⟨X.K, cl⟩ E fb)) : PE X (.Compare a [.Gt] [b] pos) (tE ⟨X.K, cl⟩ E (mOp oGtD fa fb)) := sn_cmp (op_gtP hu) op2_ordD (nomark _) ha hb
theorem sn_leD (hu : X.A.units + 64 < cLine) (ha : PE X a (tE ⟨X.K, cl⟩ E fa)) (hb : PE X b (tE ⟨X.K, cl⟩ E fb)) : PE X (.Compare a [.LtE] [b] pos) (tE ⟨X.K, cl⟩ E (mOp oLeD fa fb)) := sn_cmp (op_leP hu) op2_ordD (nomark _) ha hb
theorem sn_geD (hu : X.A.units + 64 < cLine) (ha : PE X a (tE ⟨X.K, cl⟩ E fa)) (hb : PE X b (tE ⟨X.K, cl⟩ E fb)) : PE X (.Compare a [.GtE] [b] pos) (tE ⟨X.K, cl⟩ E (mOp oGeD fa fb)) := sn_cmp (op_geP hu) op2_ordD (nomark _) ha hb
/-- two pairs of ints -/
theorem dlt_pair (a b c d : Int) : PySem.W.dataLt (.tuple [.int a, .int b]) (.tuple [.int c, .int d]) = decide (a < c ∨ (a = c ∧ b < d)) := by
  unfold PySem.W.dataLt
  simp only [PySem.W.keyToks, PySem.W.keyToksAll, List.cons_append, List.nil_append]
  have s1 : ∀ (z : Int) (r t : List (Int ⊕ List Nat)), PyProof.Rows.lexLt itemOrd (Sum.inl z :: r) (Sum.inl z :: t) = PyProof.Rows.lexLt itemOrd r t := fun z r t => lex_self (O := itemOrd) (Sum.inl z) r t
  have s2 : ∀ (y z : Int) (r t : List (Int ⊕ List Nat)), y ≠ z → PyProof.Rows.lexLt itemOrd (Sum.inl y :: r) (Sum.inl z :: t) = decide (y < z) := fun y z r t h => lex_diff (O := itemOrd) (by intro e; injection e with e; exact h e)
  rw [s1]
  by_cases h1 : a = c
  · subst h1
    rw [s1, s1]
    by_cases h2 : b = d
    · subst h2
      rw [s1, s1]
      simp [PyProof.Rows.lexLt]
    · rw [s2 _ _ _ _ h2]
      simp
  · rw [s2 _ _ _ _ h1]
    simp [h1]
def prI (a b : Int) : D := .tup [.int a, .int b]
theorem oLtD_pair (a b c d : Int) (M : Mem) : oLtD (prI a b) (prI c d) M = .ok (.bl (decide (a < c ∨ (a = c ∧ b < d)))) M := by
  have h1 : pyM M (prI a b) = some (.tuple [.int a, .int b]) := rfl
  have h2 : pyM M (prI c d) = some (.tuple [.int c, .int d]) := rfl
  simp only [oLtD, oOrdD, h1, h2]
  rw [if_pos ⟨rfl, by simp [PyData.depth, PyData.depthAll]⟩]
  simp only [ordV, Bool.false_eq_true, if_false, dlt_pair, Bool.false_bne]
theorem oGtD_pair (a b c d : Int) (M : Mem) : oGtD (prI a b) (prI c d) M = .ok (.bl (decide (c < a ∨ (c = a ∧ d < b)))) M := by
  have h1 : pyM M (prI a b) = some (.tuple [.int a, .int b]) := rfl
  have h2 : pyM M (prI c d) = some (.tuple [.int c, .int d]) := rfl
  simp only [oGtD, oOrdD, h1, h2]
  rw [if_pos ⟨rfl, by simp [PyData.depth, PyData.depthAll]⟩]
  simp only [ordV, if_true, dlt_pair, Bool.false_bne]
end Fn

set_option Elab.async false
set_option linter.all false
set_option maxRecDepth 100000
set_option maxHeartbeats 4000000
namespace K30
open PySem PySem.Spec PyProof.Rows L2 Fn
def topS (i : Nat) : Stmt := PySem.Challenge.pw_grantchain_k30_whole_kept_by_letters_in.main.body.getD i (.Pass ⟨0, 0, 0, 0⟩)
abbrev s_serves : Stmt := topS 3
theorem sc_serves : FnScope ["warrant", "holder", "right", "tick", "lease", "house", "number", "own", "chain", "rights", "given", "stamp"] ["warrant", "holder", "right", "tick", "lease"] (defScope s_serves) := ⟨rfl, rfl, rfl, by decide +kernel, rfl, by decide +kernel, by decide +kernel⟩
/-- serves(warrant, holder, right, tick, lease); slots: 0 warrant, 1 holder, 2 right, 3 tick, 4 lease, 5 house, 6 number, 7 own, 8 chain, 9 rights, 10 given, 11 stamp -/
noncomputable def B_serves : FS := (mSeq (mIfS (bOf (mUn (oIsN false) (mVar 0))) (mRet (mC (.bl false))) mPass) (mSeq (mAsg (mVar 0) (gT 7 (gsCons (gN 5) (gsCons (gN 6) (gsCons (gN 7) (gsCons (gN 8) (gsCons (gN 9) (gsCons (gN 10) (gsCons (gN 11) gsNil))))))))) (mRet (mAnd (mOp (oEq false) (mVar 7) (mVar 1)) (mAnd (mOp (oInF false) (mVar 2) (mVar 9)) (mChain oLe oLt (mVar 10) (mVar 3) (mOp (oAdd false) (mVar 10) (mVar 4))))))))
noncomputable def g_serves : FD := runB B_serves 12
abbrev s_later : Stmt := topS 4
theorem sc_later : FnScope ["one", "other", "first", "given", "stamp", "second", "other_given", "other_stamp"] ["one", "other"] (defScope s_later) := ⟨rfl, rfl, rfl, by decide +kernel, rfl, by decide +kernel, by decide +kernel⟩
/-- later(one, other); slots: 0 one, 1 other, 2 first, 3 given, 4 stamp, 5 second, 6 other_given, 7 other_stamp -/
noncomputable def B_later : FS := (mSeq (mIfS (tOrM (bOf (mUn (oIsN false) (mVar 0))) (bOf (mUn (oIsN false) (mVar 1)))) (mRet (mIf (bOf (mUn (oIsN false) (mVar 0))) (mVar 1) (mVar 0))) mPass) (mSeq (mAsg (mVar 0) (gS 3 0 (gsCons (gN 2) (gsCons (gN 3) (gsCons (gN 4) gsNil))))) (mSeq (mAsg (mVar 1) (gS 3 0 (gsCons (gN 5) (gsCons (gN 6) (gsCons (gN 7) gsNil))))) (mRet (mIf (bOf (mOp oLtD (mTup (aCons (mVar 3) (aCons (mVar 4) aNil))) (mTup (aCons (mVar 6) (aCons (mVar 7) aNil))))) (mVar 1) (mVar 0))))))
noncomputable def g_later : FD := runB B_later 8
abbrev s_Net___init__ : Stmt := inClass (topS 6) 0
theorem sc_Net___init__ : FnScope ["self", "weather"] ["self", "weather"] (defScope s_Net___init__) := ⟨rfl, rfl, rfl, by decide +kernel, rfl, by decide +kernel, by decide +kernel⟩
/-- Net.__init__(self, weather); slots: 0 self, 1 weather -/
noncomputable def B_Net___init__ : FS := (mSeq (mFldSet 0 "weather" (mVar 0) (mVar 1)) (mSeq (mFldSet 0 "sent" (mVar 0) (mC (.int 0))) (mFldSet 0 "coming" (mVar 0) (mLst true aNil))))
noncomputable def g_Net___init__ : FD := runB B_Net___init__ 2
abbrev s_Net_send : Stmt := inClass (topS 6) 1
theorem sc_Net_send : FnScope ["self", "letter", "tick", "delays", "delay"] ["self", "letter", "tick"] (defScope s_Net_send) := ⟨rfl, rfl, rfl, by decide +kernel, rfl, by decide +kernel, by decide +kernel⟩
/-- Net.send(self, letter, tick); slots: 0 self, 1 letter, 2 tick, 3 delays, 4 delay -/
noncomputable def C_Net_send_0 : FE := (mTup (aCons (mOp (oAdd false) (mVar 2) (mVar 4)) (aCons (mVar 1) aNil)))
noncomputable def B_Net_send : FS := (mSeq (mSet 3 (mTup (aCons (mC (.int 1)) aNil))) (mSeq (mIfS (bOf (mOp oGt (mCall oLen (aCons (mFld 0 "weather" (mVar 0)) aNil)) (mC (.int 0)))) (mSet 3 (mOp oIx (mFld 0 "weather" (mVar 0)) (mOp oMod (mFld 0 "sent" (mVar 0)) (mCall oLen (aCons (mFld 0 "weather" (mVar 0)) aNil))))) mPass) (mSeq (mFldAug 0 "sent" (fun i j => i + j) (mVar 0) (mC (.int 1))) (mExpr (mMeth "list" oExtend (mFld 0 "coming" (mVar 0)) (aCons (mLc false [4] (iSq (mVar 3)) (gN 4) tsYes C_Net_send_0) aNil))))))
noncomputable def g_Net_send : FD := runB B_Net_send 5
abbrev s_Net_due : Stmt := inClass (topS 6) 2
theorem sc_Net_due : FnScope ["self", "tick", "found", "at", "letter"] ["self", "tick"] (defScope s_Net_due) := ⟨rfl, rfl, rfl, by decide +kernel, rfl, by decide +kernel, by decide +kernel⟩
/-- Net.due(self, tick); slots: 0 self, 1 tick, 2 found, 3 at, 4 letter -/
noncomputable def T_Net_due_0 : FT := (bOf (mOp oLe (mVar 3) (mVar 1)))
noncomputable def C_Net_due_1 : FE := (mVar 4)
noncomputable def T_Net_due_2 : FT := (bOf (mOp oGt (mVar 3) (mVar 1)))
noncomputable def C_Net_due_3 : FE := (mTup (aCons (mVar 3) (aCons (mVar 4) aNil)))
noncomputable def B_Net_due : FS := (mSeq (mSet 2 (mLc false [3, 4] (iSq (mFld 0 "coming" (mVar 0))) (gT 2 (gsCons (gN 3) (gsCons (gN 4) gsNil))) T_Net_due_0 C_Net_due_1)) (mSeq (mFldSet 0 "coming" (mVar 0) (mLc true [3, 4] (iSq (mFld 0 "coming" (mVar 0))) (gT 2 (gsCons (gN 3) (gsCons (gN 4) gsNil))) T_Net_due_2 C_Net_due_3)) (mRet (mVar 2))))
noncomputable def g_Net_due : FD := runB B_Net_due 5
abbrev s_law_feed : Stmt := topS 8
theorem sc_law_feed : FnScope ["_law_script", "_law_k", "_law_cell", "_law_seed"] ["_law_script", "_law_k"] (defScope s_law_feed) := ⟨rfl, rfl, rfl, by decide +kernel, rfl, by decide +kernel, by decide +kernel⟩
/-- _law_feed(_law_script, _law_k); slots: 0 _law_script, 1 _law_k, 2 _law_cell, 3 _law_seed -/
noncomputable def B_law_feed : FS := (mSeq (mSet 2 (mOp (oAdd false) (mOp (oMul false) (mC (.int 7643)) (mVar 1)) (mC (.int 41)))) (mSeq (mIfS (bOf (mOp oLt (mVar 1) (mCall oLen (aCons (mVar 0) aNil)))) (mSet 2 (mCall oAbs (aCons (mOp oIx (mVar 0) (mVar 1)) aNil))) (mIfS (bOf (mOp oGt (mCall oLen (aCons (mVar 0) aNil)) (mC (.int 0)))) (mSet 2 (mOp (oAdd false) (mVar 2) (mOp (oMul false) (mOp oMod (mOp oIx (mVar 0) (mOp oMod (mVar 1) (mCall oLen (aCons (mVar 0) aNil)))) (mC (.int 2147483629))) (mC (.int 69623))))) mPass)) (mSeq (mSet 3 (mOp (oAdd false) (mOp oMod (mOp (oAdd false) (mOp (oAdd false) (mOp (oMul false) (mOp oMod (mVar 2) (mC (.int 2147483629))) (mC (.int 48271))) (mOp (oMul false) (mC (.int 40692)) (mVar 1))) (mC (.int 11))) (mC (.int 2147483629))) (mC (.int 1)))) (mRet (mLst true (aCons (mOp oIx (mLst false (aCons (mC (.int 0)) (aCons (mVar 2) aNil))) (mCall oInt (aCons (mOp oGe (mVar 2) (mOp oPow (mC (.int 10)) (mC (.int 18)))) aNil))) (aCons (mVar 3) (aCons (mC (.int 0)) aNil))))))))
noncomputable def g_law_feed : FD := runB B_law_feed 4
abbrev s_law_draw : Stmt := topS 9
theorem sc_law_draw : FnScope ["_law_feed_here", "_law_many", "_law_digit", "_law_one"] ["_law_feed_here", "_law_many"] (defScope s_law_draw) := ⟨rfl, rfl, rfl, by decide +kernel, rfl, by decide +kernel, by decide +kernel⟩
/-- _law_draw(_law_feed_here, _law_many); slots: 0 _law_feed_here, 1 _law_many, 2 _law_digit, 3 _law_one -/
noncomputable def B_law_draw : FS := (mSeq (mIfS (bOf (mOp oGt (mOp oIx (mVar 0) (mC (.int 0))) (mC (.int 0)))) (mSeq (mSet 2 (mOp oMod (mOp oIx (mVar 0) (mC (.int 0))) (mVar 1))) (mSeq (mAsg (mOp oDiv (mOp oIx (mVar 0) (mC (.int 0))) (mVar 1)) (gIx (mVar 0) (mC (.int 0)))) (mRet (mVar 2)))) mPass) (mSeq (mAsg (mOp (oAdd false) (mOp oIx (mVar 0) (mC (.int 2))) (mC (.int 1))) (gIx (mVar 0) (mC (.int 2)))) (mSeq (mSet 3 (mOp oMod (mOp (oMul false) (mOp (oAdd false) (mOp oIx (mVar 0) (mC (.int 1))) (mOp (oMul false) (mC (.int 104729)) (mOp oIx (mVar 0) (mC (.int 2))))) (mC (.int 69623))) (mC (.int 2147483647)))) (mSeq (mAsg (mOp (oAdd false) (mOp oMod (mOp (oAdd false) (mOp (oMul false) (mVar 3) (mC (.int 48271))) (mC (.int 30103))) (mC (.int 2147483629))) (mC (.int 1))) (gIx (mVar 0) (mC (.int 1)))) (mRet (mOp oMod (mOp oDiv (mOp (oAdd false) (mOp (oMul false) (mVar 3) (mC (.int 2147483647))) (mOp oIx (mVar 0) (mC (.int 1)))) (mC (.int 8191))) (mVar 1)))))))
noncomputable def g_law_draw : FD := runB B_law_draw 4
abbrev s_law_any_serves : Stmt := topS 14
theorem sc_law_any_serves : FnScope ["_law_came", "_law_at", "_law_tick", "_law_lease_own", "_law_other", "_law_one"] ["_law_came", "_law_at", "_law_tick", "_law_lease_own"] (defScope s_law_any_serves) := ⟨rfl, rfl, rfl, by decide +kernel, rfl, by decide +kernel, by decide +kernel⟩
/-- _law_any_serves(_law_came, _law_at, _law_tick, _law_lease_own); slots: 0 _law_came, 1 _law_at, 2 _law_tick, 3 _law_lease_own, 4 _law_other, 5 _law_one -/
noncomputable def C_law_any_serves_0 : FE := (mAnd (mOp (oEq false) (mVar 4) (mVar 1)) (mChain oLe oLt (mC (.int 0)) (mOp oSub (mVar 2) (mOp oIx (mVar 5) (mC (.int 5)))) (mVar 3)))
noncomputable def B_law_any_serves : FS := (mRet (mCall oAny (aCons (mLc false [4, 5] (iSq (mVar 0)) (gT 2 (gsCons (gN 4) (gsCons (gN 5) gsNil))) tsYes C_law_any_serves_0) aNil)))
noncomputable def g_law_any_serves : FD := runB B_law_any_serves 6
abbrev s_law_mixed : Stmt := topS 10
theorem sc_law_mixed : FnScope ["_law_feed_here", "_law_some", "_law_left", "_law_found"] ["_law_feed_here", "_law_some"] (defScope s_law_mixed) := ⟨rfl, rfl, rfl, by decide +kernel, rfl, by decide +kernel, by decide +kernel⟩
/-- _law_mixed(_law_feed_here, _law_some); slots: 0 _law_feed_here, 1 _law_some, 2 _law_left, 3 _law_found -/
noncomputable def T_law_mixed_0 : FT := (bOf (mOp (oEq true) (mVar 2) (mLst false aNil)))
noncomputable def L_law_mixed_1 : FS := (mExpr (mMeth "list" oAppend (mVar 3) (aCons (mMeth "list" oPopAt (mVar 2) (aCons (mFun 2 g_law_draw [] (aCons (mVar 0) (aCons (mCall oLen (aCons (mVar 2) aNil)) aNil))) aNil)) aNil)))
noncomputable def B_law_mixed : FS := (mSeq (mPar 2 3 (aCons (mCall (oList true) (aCons (mVar 1) aNil)) (aCons (mLst true aNil) aNil))) (mSeq (mWhile T_law_mixed_0 L_law_mixed_1) (mRet (mVar 3))))
noncomputable def g_law_mixed : FD := gcB B_law_mixed 4
abbrev s_law_grant : Stmt := topS 12
theorem sc_law_grant : FnScope ["_law_feed_here", "_law_names_here", "_law_chain", "_law_k", "_law_rights"] ["_law_feed_here", "_law_names_here"] (defScope s_law_grant) := ⟨rfl, rfl, rfl, by decide +kernel, rfl, by decide +kernel, by decide +kernel⟩
/-- _law_grant(_law_feed_here, _law_names_here); slots: 0 _law_feed_here, 1 _law_names_here, 2 _law_chain, 3 _law_k, 4 _law_rights -/
noncomputable def C_law_grant_0 : FE := (mFun 2 g_law_draw [] (aCons (mVar 0) (aCons (mC (.int 9)) aNil)))
noncomputable def B_law_grant : FS := (mSeq (mSet 2 (mCall (oSortSet false) (aCons (mLc false [3] (iR1 (aCons (mOp (oAdd false) (mC (.int 1)) (mFun 2 g_law_draw [] (aCons (mVar 0) (aCons (mC (.int 5)) aNil)))) aNil)) (gN 3) tsYes C_law_grant_0) aNil))) (mSeq (mSet 4 (mCall oTuple (aCons (mCall (oSorted false) (aCons (mSl false (mVar 1) pNone (pSome (mOp (oAdd false) (mC (.int 1)) (mFun 2 g_law_draw [] (aCons (mVar 0) (aCons (mC (.int 4)) aNil)))))) aNil)) aNil))) (mRet (mTup (aCons (mOp oIx (mVar 1) (mC (.int 4))) (aCons (mOp oIx (mVar 2) (mUn oNeg (mC (.int 1)))) (aCons (mTup (aCons (mOp oIx (mVar 1) (mOp (oAdd false) (mC (.int 4)) (mFun 2 g_law_draw [] (aCons (mVar 0) (aCons (mC (.int 2)) aNil))))) (aCons (mOp oIx (mVar 1) (mFun 2 g_law_draw [] (aCons (mVar 0) (aCons (mC (.int 6)) aNil)))) aNil))) (aCons (mCall oTuple (aCons (mVar 2) aNil)) (aCons (mVar 4) aNil)))))))))
noncomputable def g_law_grant : FD := runB B_law_grant 5
abbrev s_law_weather : Stmt := topS 13
theorem sc_law_weather : FnScope ["_law_feed_here", "_law_found", "_law_k", "_law_many", "_law_turn"] ["_law_feed_here"] (defScope s_law_weather) := ⟨rfl, rfl, rfl, by decide +kernel, rfl, by decide +kernel, by decide +kernel⟩
/-- _law_weather(_law_feed_here); slots: 0 _law_feed_here, 1 _law_found, 2 _law_k, 3 _law_many, 4 _law_turn -/
noncomputable def C_law_weather_0 : FE := (mOp (oAdd false) (mC (.int 1)) (mFun 2 g_law_draw [] (aCons (mVar 0) (aCons (mC (.int 4)) aNil))))
noncomputable def L_law_weather_1 : FS := (mSeq (mSet 3 (mOp oIx (mLst false (aCons (mC (.int 0)) (aCons (mC (.int 1)) (aCons (mC (.int 1)) (aCons (mC (.int 1)) (aCons (mC (.int 2)) (aCons (mC (.int 3)) aNil))))))) (mFun 2 g_law_draw [] (aCons (mVar 0) (aCons (mC (.int 6)) aNil))))) (mExpr (mMeth "list" oAppend (mVar 1) (aCons (mCall oTuple (aCons (mLc false [4] (iR1 (aCons (mVar 3) aNil)) (gN 4) tsYes C_law_weather_0) aNil)) aNil))))
noncomputable def B_law_weather : FS := (mSeq (mSet 1 (mLst true aNil)) (mSeq (mFor (iR1 (aCons (mFun 2 g_law_draw [] (aCons (mVar 0) (aCons (mC (.int 13)) aNil))) aNil)) (gN 2) L_law_weather_1) (mRet (mCall oTuple (aCons (mVar 1) aNil)))))
noncomputable def g_law_weather : FD := gcB B_law_weather 5
abbrev s_law_kept_right : Stmt := topS 15
theorem sc_law_kept_right : FnScope ["_law_kept", "_law_came", "_law_grants", "_law_tick", "_law_at", "_law_lease_own", "_law_due"] ["_law_kept", "_law_came", "_law_grants", "_law_tick"] (defScope s_law_kept_right) := ⟨rfl, rfl, rfl, by decide +kernel, rfl, by decide +kernel, by decide +kernel⟩
/-- _law_kept_right(_law_kept, _law_came, _law_grants, _law_tick); slots: 0 _law_kept, 1 _law_came, 2 _law_grants, 3 _law_tick, 4 _law_at, 5 _law_lease_own, 6 _law_due -/
noncomputable def L_law_kept_right_0 : FS := (mSeq (mSet 6 (mFun 4 g_law_any_serves [] (aCons (mVar 1) (aCons (mVar 4) (aCons (mVar 3) (aCons (mVar 5) aNil)))))) (mIfS (bOf (mOp (oEq true) (mFunKw 4 1 5 piApp [] g_serves (aCons (mOp oIx (mVar 0) (mVar 4)) (aCons (mOp oIx (mOp oIx (mVar 2) (mVar 4)) (mC (.int 2))) (aCons (mOp oIx (mOp oIx (mOp oIx (mVar 2) (mVar 4)) (mC (.int 4))) (mC (.int 0))) (aCons (mVar 3) aNil)))) (aCons (mVar 5) aNil)) (mVar 6))) (mRet (mC (.bl false))) mPass))
noncomputable def L_law_kept_right_1 : FS := (mSeq (mIfS (tAndM (bOf (mUn (oIsN true) (mOp oIx (mVar 0) (mVar 4)))) (bOf (mOp (oInD true) (mTup (aCons (mVar 4) (aCons (mOp oIx (mVar 0) (mVar 4)) aNil))) (mVar 1)))) (mRet (mC (.bl false))) mPass) (mFor (iR2 (aCons (mC (.int 2)) (aCons (mC (.int 10)) aNil))) (gN 5) L_law_kept_right_0))
noncomputable def B_law_kept_right : FS := (mSeq (mFor (iR1 (aCons (mC (.int 2)) aNil)) (gN 4) L_law_kept_right_1) (mRet (mC (.bl true))))
noncomputable def g_law_kept_right : FD := runB B_law_kept_right 7
abbrev s_law_names : Stmt := topS 11
theorem sc_law_names : FnScope ["_law_feed_here", "_law_many", "_law_letters", "_law_stem", "_law_k", "_law_at", "_law_first"] ["_law_feed_here", "_law_many"] (defScope s_law_names) := ⟨rfl, rfl, rfl, by decide +kernel, rfl, by decide +kernel, by decide +kernel⟩
/-- _law_names(_law_feed_here, _law_many); slots: 0 _law_feed_here, 1 _law_many, 2 _law_letters, 3 _law_stem, 4 _law_k, 5 _law_at, 6 _law_first -/
noncomputable def C_law_names_0 : FE := (mOp oIx (mVar 2) (mFun 2 g_law_draw [] (aCons (mVar 0) (aCons (mC (.int 26)) aNil))))
noncomputable def C_law_names_1 : FE := (mOp (oAdd false) (mOp (oAdd false) (mSl false (mVar 3) pNone (pSome (mVar 5))) (mOp oIx (mVar 2) (mOp oMod (mOp (oAdd false) (mVar 6) (mOp (oMul false) (mC (.int 7)) (mVar 4))) (mC (.int 26))))) (mSl false (mVar 3) (pSome (mVar 5)) pNone))
noncomputable def B_law_names : FS := (mSeq (mSet 2 (mC (.str [97, 98, 99, 100, 101, 102, 103, 104, 105, 106, 107, 108, 109, 110, 111, 112, 113, 114, 115, 116, 117, 118, 119, 120, 121, 122]))) (mSeq (mSet 3 (mMeth "str" oJoin (mC (.str [])) (aCons (mLc false [4] (iR1 (aCons (mFun 2 g_law_draw [] (aCons (mVar 0) (aCons (mC (.int 6)) aNil))) aNil)) (gN 4) tsYes C_law_names_0) aNil))) (mSeq (mAsg (mTup (aCons (mFun 2 g_law_draw [] (aCons (mVar 0) (aCons (mOp (oAdd false) (mCall oLen (aCons (mVar 3) aNil)) (mC (.int 1))) aNil))) (aCons (mFun 2 g_law_draw [] (aCons (mVar 0) (aCons (mC (.int 26)) aNil))) aNil))) (gT 2 (gsCons (gN 5) (gsCons (gN 6) gsNil)))) (mRet (mFun 2 g_law_mixed [] (aCons (mVar 0) (aCons (mLc false [4] (iR1 (aCons (mVar 1) aNil)) (gN 4) tsYes C_law_names_1) aNil)))))))
noncomputable def g_law_names : FD := runB B_law_names 7
abbrev s_law : Stmt := topS 16
theorem sc_law : FnScope ["_law_script", "_law_feed_here", "_law_names_here", "_law_grants", "_law_net", "_law_kept", "_law_came", "_law_tick", "_law_k", "_law_sender", "_law_to", "_law_what", "_law_at", "_law_warrant", "_law_turn"] ["_law_script"] (defScope s_law) := ⟨rfl, rfl, rfl, by decide +kernel, rfl, by decide +kernel, by decide +kernel⟩
/-- law(_law_script); slots: 0 _law_script, 1 _law_feed_here, 2 _law_names_here, 3 _law_grants, 4 _law_net, 5 _law_kept, 6 _law_came, 7 _law_tick, 8 _law_k, 9 _law_sender, 10 _law_to, 11 _law_what, 12 _law_at, 13 _law_warrant, 14 _law_turn -/
noncomputable def L_law_0 : FS := (mSeq (mAsg (mVar 11) (gT 2 (gsCons (gN 12) (gsCons (gN 13) gsNil)))) (mSeq (mExpr (mMeth "list" oAppend (mVar 6) (aCons (mTup (aCons (mVar 12) (aCons (mVar 13) aNil))) aNil))) (mAsg (mIf (bOf (mOp (oEq false) (mFun 2 g_law_draw [] (aCons (mVar 1) (aCons (mC (.int 2)) aNil))) (mC (.int 0)))) (mFun 2 g_later [] (aCons (mOp oIx (mVar 5) (mVar 12)) (aCons (mVar 13) aNil))) (mFun 2 g_later [] (aCons (mVar 13) (aCons (mOp oIx (mVar 5) (mVar 12)) aNil)))) (gIx (mVar 5) (mVar 12)))))
noncomputable def L_law_1 : FS := (mSeq (mSet 12 (mFun 2 g_law_draw [] (aCons (mVar 1) (aCons (mC (.int 2)) aNil)))) (mExpr (mMth 0 "send" 3 g_Net_send [] (mVar 4) (aCons (mTup (aCons (mOp oIx (mVar 2) (mC (.int 0))) (aCons (mOp oIx (mVar 2) (mC (.int 1))) (aCons (mTup (aCons (mVar 12) (aCons (mOp (oAdd false) (mOp oIx (mVar 3) (mVar 12)) (mTup (aCons (mVar 7) (aCons (mOp (oAdd false) (mOp (oMul false) (mC (.int 20)) (mVar 8)) (mFun 2 g_law_draw [] (aCons (mVar 1) (aCons (mC (.int 30)) aNil)))) aNil)))) aNil))) aNil)))) (aCons (mVar 7) aNil)))))
noncomputable def L_law_2 : FS := (mSeq (mSet 1 (mFun 2 g_law_feed [] (aCons (mVar 0) (aCons (mOp (oAdd false) (mVar 8) (mC (.int 1))) aNil)))) (mSeq (mFor (iSq (mMth 0 "due" 2 g_Net_due [] (mVar 4) (aCons (mVar 7) aNil))) (gT 3 (gsCons (gN 9) (gsCons (gN 10) (gsCons (gN 11) gsNil)))) L_law_0) (mSeq (mIfS (tNotM (bOf (mFun 4 g_law_kept_right [] (aCons (mVar 5) (aCons (mVar 6) (aCons (mVar 3) (aCons (mVar 7) aNil))))))) (mRet (mC (.bl false))) mPass) (mSeq (mFor (iR1 (aCons (mFun 2 g_law_draw [] (aCons (mVar 1) (aCons (mC (.int 4)) aNil))) aNil)) (gN 14) L_law_1) (mSet 7 (mOp (oAdd false) (mOp (oAdd false) (mVar 7) (mC (.int 1))) (mFun 2 g_law_draw [] (aCons (mVar 1) (aCons (mC (.int 2)) aNil)))))))))
noncomputable def C_law_3 : FE := (mFun 5 g_serves [.int 6] (aCons (mOp oIx (mVar 5) (mVar 12)) (aCons (mOp oIx (mOp oIx (mVar 3) (mVar 12)) (mC (.int 2))) (aCons (mOp oIx (mOp oIx (mOp oIx (mVar 3) (mVar 12)) (mC (.int 4))) (mC (.int 0))) (aCons (mOp (oAdd false) (mVar 7) (mC (.int 20))) aNil)))))
noncomputable def B_law : FS := (mSeq (mSet 1 (mFun 2 g_law_feed [] (aCons (mVar 0) (aCons (mC (.int 0)) aNil)))) (mSeq (mSet 2 (mFun 2 g_law_names [] (aCons (mVar 1) (aCons (mC (.int 6)) aNil)))) (mSeq (mSet 3 (mLst false (aCons (mFun 2 g_law_grant [] (aCons (mVar 1) (aCons (mVar 2) aNil))) (aCons (mFun 2 g_law_grant [] (aCons (mVar 1) (aCons (mUn (oRev false) (mVar 2)) aNil))) aNil)))) (mSeq (mAsg (mTup (aCons (mMakeKw 0 1 2 piApp [] g_Net___init__ (aCons (mFun 1 g_law_weather [] (aCons (mVar 1) aNil)) aNil)) (aCons (mLst true (aCons (mC .non) (aCons (mC .non) aNil))) (aCons (mLst true aNil) (aCons (mC (.int 0)) aNil))))) (gT 4 (gsCons (gN 4) (gsCons (gN 5) (gsCons (gN 6) (gsCons (gN 7) gsNil)))))) (mSeq (mFor (iR1 (aCons (mCall oMax (aCons (mC (.int 4)) (aCons (mCall oMin (aCons (mC (.int 10)) (aCons (mCall oLen (aCons (mVar 0) aNil)) aNil))) aNil))) aNil)) (gN 8) L_law_2) (mRet (mNot (mCall oAny (aCons (mLc false [12] (iR1 (aCons (mC (.int 2)) aNil)) (gN 12) tsYes C_law_3) aNil)))))))))
noncomputable def g_law : FD := runB B_law 15
end K30

set_option Elab.async false
set_option linter.all false
set_option maxRecDepth 100000
set_option maxHeartbeats 4000000
namespace K30
open PySem PySem.Spec PyProof.Rows L2 Fn
theorem drawOk : DrawOk g_law_draw := drawOk_of (B := B_law_draw) rfl rfl
theorem draw_eq {M0 M : Mem} {i : Nat} (h : FdAt M0 i M) (many : Int) (h0 : 0 < many) (h1 : many < 1000000000000000000000000) : ∃ (v : Nat) (M' : Mem), (v : Int) < many ∧ FdAt M0 i M' ∧ g_law_draw [.ref i, .int many] M = .ok (.int v) M' := by
  obtain ⟨v, M', a, b, c, d⟩ := drawOk M0 M i many h h0 h1
  obtain ⟨n, rfl⟩ : ∃ n : Nat, v = (n : Int) := ⟨v.toNat, by omega⟩
  exact ⟨n, M', b, c, d⟩
theorem feed_eq (ns : List Int) (k : Nat) (M : Mem) : ∃ s : Fd, g_law_feed [.fz (intsD ns), .int k] M = .ok (.ref M.length) (M ++ [s.c]) := by
  obtain ⟨s, h⟩ := feed_run ns k M
  exact ⟨s, runB_rt h⟩
theorem mixed_eq {M0 M : Mem} {i n : Nat} (h : FdAt M0 i M) (l : List D) (hp : PlL n l) (hlen : l.length ≤ 100000) : ∃ (l' : List D) (M' : Mem), l'.Perm l ∧ FdAt M0 i M' ∧ g_law_mixed [.ref i, .lst l] M = .ok (.lst l') M' := mixed_run drawOk h l hp hlen
abbrev abc : List Nat := [97, 98, 99, 100, 101, 102, 103, 104, 105, 106, 107, 108, 109, 110, 111, 112, 113, 114, 115, 116, 117, 118, 119, 120, 121, 122]
theorem abc_at (v : Nat) (h : v < 26) : atI abc (v : Int) = (some (97 + v) : Option Nat) := by
  have : ∀ v : Nat, v < 26 → atI abc (v : Int) = (some (97 + v) : Option Nat) := by decide
  exact this v h
theorem map_of {α : Type} (mk : α → D) : ∀ {l : List D}, (∀ d ∈ l, ∃ x, d = mk x) → ∃ xs : List α, l = xs.map mk
  | [], _ => ⟨[], rfl⟩
  | d :: r, h => by
    obtain ⟨x, rfl⟩ := h d (List.mem_cons_self ..)
    obtain ⟨xs, rfl⟩ := map_of mk (l := r) fun d hd => h d (List.mem_cons_of_mem _ hd)
    exact ⟨x :: xs, rfl⟩
theorem perm_map {α : Type} {mk : α → D} (un : D → α) (hu : ∀ a, un (mk a) = a) {l : List D} {xs : List α} (h : l.Perm (xs.map mk)) : ∃ ys : List α, l = ys.map mk ∧ ys.Perm xs := by
  obtain ⟨ys, rfl⟩ := map_of mk (l := l) fun d hd => by obtain ⟨x, _, rfl⟩ := List.mem_map.mp (h.mem_iff.mp hd); exact ⟨x, rfl⟩
  have h2 := h.map un
  have hm : ∀ zs : List α, (zs.map mk).map un = zs := fun zs => by induction zs with
    | nil => rfl
    | cons z r ih => simp only [List.map_cons, hu, ih]
  rw [hm, hm] at h2
  exact ⟨ys, rfl, h2⟩
def unStr : D → List Nat
  | .str s => s
  | _ => []
theorem word_comp {M0 M : Mem} {i : Nat} (h : FdAt M0 i M) (n : Nat) (env : Fn.Env) (he : ∀ (x : D), (env.set 4 (some x))[2]? = some (some (.str abc)) ∧ (env.set 4 (some x))[0]? = some (some (.ref i)))
    (f : FE) (hf : f = mOp oIx (mVar 2) (mFun 2 g_law_draw [] (aCons (mVar 0) (aCons (mC (.int 26)) aNil)))) :
    ∃ (w : List Nat) (M' : Mem), w.length = n ∧ (∀ c ∈ w, c ∈ abc) ∧ FdAt M0 i M' ∧ compL (fun _ => True) (gN 4) tsYes f env (rngItems 0 n) M = .ok (w.map fun c => .str [c]) M' := by
  subst hf
  obtain ⟨ys, M2, e2, l2, y2, h2⟩ := compL_inv (g := gN 4) (f := mOp oIx (mVar 2) (mFun 2 g_law_draw [] (aCons (mVar 0) (aCons (mC (.int 26)) aNil)))) (env := env) (fun _ M => FdAt M0 i M) (fun _ _ y => ∃ c : Nat, y = .str [c] ∧ c ∈ abc) (rngItems 0 n) 0 M h fun k d M2 hk h2 => by
    obtain ⟨u, M3, u1, h3, e3⟩ := draw_eq h2 26 (by omega) (by omega)
    have hc := abc_at u (by omega)
    obtain ⟨q1, q2⟩ := he d
    refine ⟨.str [97 + u], M3, ?_, ⟨97 + u, rfl, ?_⟩, h3⟩
    · simp -implicitDefEqProofs only [mSeq_eq, mIfS_eq, mSet_eq, mRet_eq, mRetN_eq, mExpr_eq, mPass_eq, mAsg_eq, mPar_eq, mAug_eq, bOf_eq, tOf_eq, tAndM_eq, tOrM_eq, tNotM_eq, tsYes_eq, mOp_eq, mUn_eq, mVar_eq, mC_eq, mCall_eq, mFun_eq, mFunKw_eq, mMeth_eq, mAnd_eq, mOr_eq, mNot_eq, mIf_eq, mChain_eq, mSl_eq, pNone_eq, pSome_eq, aCons_eq, aNil_eq, mTup_eq, mLst_eq, gN_eq, gT_eq, gsNil_eq, gsCons_eq, mkL_t, mkL_f, R.bind_ok, R.bind_no, R.nox_ok, List.getElem?_cons_zero, List.getElem?_cons_succ, List.set_cons_zero, List.set_cons_succ, List.length_cons, List.length_nil, List.append_nil, List.nil_append, List.cons_append, piApp_on, oLen_fz, oLen_lst, oLen_tup, oLt_int, oLe_int, oGt_int, oGe_int, oAdd_int, oSub_int, oIx_fz, oIx_lst, oIx_tup, oMax_int, oMin_int, oInt_bl, oInt_int, oIsi_bl, oNeg_int, oTuple_lst, oTuple_tup, iR1_eq, iR2_eq, iSq_eq, iStrM_eq, srcOf_tup, srcOf_lst, srcOf_fz, if_true, if_false, Bool.false_eq_true, Bool.true_eq_false, reduceIte, Nat.reduceAdd, Nat.reduceLeDiff, Nat.reduceEqDiff, decide_true, decide_false, and_self, and_true, true_and, q1, q2, e3, oIx_str (show abc.length ≤ 16777216 by decide) hc]
    · have : ∀ u, u < 26 → 97 + u ∈ abc := by decide
      exact this u (by omega)
  have hl : ys.length = n := by rw [l2, rngItems_len]
  have hy : ∀ d ∈ ys, ∃ c : Nat, d = .str [c] ∧ c ∈ abc := fun d hd => allY l2 y2 hd
  obtain ⟨w, hw, lw, rfl⟩ := strsOf_of (l := ys) fun d hd => by obtain ⟨c, h, _⟩ := hy d hd; exact ⟨c, h⟩
  refine ⟨w, M2, by omega, fun c hc => ?_, h2, e2⟩
  obtain ⟨c', e, hm⟩ := hy (.str [c]) (List.mem_map.mpr ⟨c, hc, rfl⟩)
  cases e
  exact hm
theorem join_eq {w : List Nat} {M : Mem} (h : w.length < 10000) : oJoin (.str []) [.lst (w.map fun c => .str [c])] M = .ok (.str w) M := by
  have : strsOf (w.map fun c => D.str [c]) = some (w.map fun c => [c]) := by
    clear h
    induction w with
    | nil => rfl
    | cons c r ih => simp only [List.map_cons, strsOf, ih]; rfl
  have hsum : ((w.map fun c => [c]).map (·.length)).sum + (w.map fun c => [c]).length * ([] : List Nat).length ≤ 16777216 := by rw [sum_ones]; simp; omega
  simp only [oJoin, seqOf, lstOf, Option.bind_some, this, hsum, if_true, join_signs]
/-- the k-th name -/
def nmAt (w : List Nat) (at_ f k : Nat) : List Nat := w.take at_ ++ [97 + (f + 7 * k) % 26] ++ w.drop at_
theorem nmAt_inj {w : List Nat} {at_ f k j : Nat} (hk : k < 26) (hj : j < 26) (h : nmAt w at_ f k = nmAt w at_ f j) : k = j := by
  unfold nmAt at h
  rw [List.append_assoc, List.append_assoc] at h
  have h2 := List.append_cancel_left h
  have h3 : 97 + (f + 7 * k) % 26 = 97 + (f + 7 * j) % 26 := by simpa using h2
  omega
/-- unlike names of one to six small letters -/
theorem names_eq {M0 M : Mem} {i : Nat} (h : FdAt M0 i M) (many : Nat) (hm : many ≤ 26) : ∃ (F : List (List Nat)) (M' : Mem), F.Nodup ∧ F.length = many ∧ (∀ w ∈ F, 1 ≤ w.length ∧ w.length ≤ 6 ∧ ∀ c ∈ w, c ∈ abc) ∧ FdAt M0 i M' ∧ g_law_names [.ref i, .int many] M = .ok (.lst (F.map .str)) M' := by
  obtain ⟨v, M1, v1, h1, e1⟩ := draw_eq h 6 (by omega) (by omega)
  obtain ⟨w, M2, lw, aw, h2, e2⟩ := word_comp h1 v (wipeE [some (.ref i), some (.int many), some (.str abc), none, none, none, none] [4]) (fun x => ⟨rfl, rfl⟩) C_law_names_0 rfl
  obtain ⟨v2, M3, p2, h3, e3⟩ := draw_eq h2 (w.length + 1) (by omega) (by omega)
  obtain ⟨v3, M4, p3, h4, e4⟩ := draw_eq h3 26 (by omega) (by omega)
  have hat : v2 ≤ w.length := by omega
  have t1 : cutD w none (some (v2 : Int)) = w.take v2 := cutD_take w v2
  have t2 : cutD w (some (v2 : Int)) none = w.drop v2 := cutD_drop w v2
  have hlen : ∀ k, (nmAt w v2 v3 k).length = w.length + 1 := fun k => by unfold nmAt; simp; omega
  have e5 : compL (fun _ => True) (gN 4) tsYes C_law_names_1 (wipeE [some (.ref i), some (.int many), some (.str abc), some (.str w), none, some (.int v2), some (.int v3)] [4]) (rngItems 0 many) M4 = .ok ((List.range many).map fun k => .str (nmAt w v2 v3 k)) M4 := by
    have hr : rngItems 0 many = (List.range many).map fun k : Nat => D.int k := by unfold rngItems; simp
    rw [hr]
    refine compL_m (M := M4) trivial (fun k : Nat => D.int k) (fun k => .str (nmAt w v2 v3 k)) (List.range many) fun k hk => ⟨[some (.ref i), some (.int many), some (.str abc), some (.str w), some (.int k), some (.int v2), some (.int v3)], rfl, ?_⟩
    have hc := abc_at ((v3 + 7 * k) % 26) (Nat.mod_lt _ (by omega))
    have hcast : ((v3 : Int) + 7 * (k : Int)) % 26 = (((v3 + 7 * k) % 26 : Nat) : Int) := by simp
    have a1 : oAdd false (.str (w.take v2)) (.str [97 + (v3 + 7 * k) % 26]) M4 = .ok (.str (w.take v2 ++ [97 + (v3 + 7 * k) % 26])) M4 := oAdd_str (by simp; omega)
    have a2 : oAdd false (.str (w.take v2 ++ [97 + (v3 + 7 * k) % 26])) (.str (w.drop v2)) M4 = .ok (.str (nmAt w v2 v3 k)) M4 := oAdd_str (by simp; omega)
    simp -implicitDefEqProofs (disch := first | assumption | omega | (simp only [List.length_cons, List.length_nil, List.length_append, List.length_map, List.length_take, List.length_drop, rngItems_len]; omega)) only [mSeq_eq, mIfS_eq, mSet_eq, mRet_eq, mRetN_eq, mExpr_eq, mPass_eq, mAsg_eq, mPar_eq, mAug_eq, bOf_eq, tOf_eq, tAndM_eq, tOrM_eq, tNotM_eq, tsYes_eq, mOp_eq, mUn_eq, mVar_eq, mC_eq, mCall_eq, mFun_eq, mFunKw_eq, mMeth_eq, mAnd_eq, mOr_eq, mNot_eq, mIf_eq, mChain_eq, mSl_eq, pNone_eq, pSome_eq, aCons_eq, aNil_eq, mTup_eq, mLst_eq, gN_eq, gT_eq, gsNil_eq, gsCons_eq, mkL_t, mkL_f, R.bind_ok, R.bind_no, R.nox_ok, List.getElem?_cons_zero, List.getElem?_cons_succ, List.set_cons_zero, List.set_cons_succ, List.length_cons, List.length_nil, List.append_nil, List.nil_append, List.cons_append, piApp_on, oLen_fz, oLen_lst, oLen_tup, oLt_int, oLe_int, oGt_int, oGe_int, oAdd_int, oSub_int, oIx_fz, oIx_lst, oIx_tup, oMax_int, oMin_int, oInt_bl, oInt_int, oIsi_bl, oNeg_int, oTuple_lst, oTuple_tup, iR1_eq, iR2_eq, iSq_eq, iStrM_eq, srcOf_tup, srcOf_lst, srcOf_fz, if_true, if_false, Bool.false_eq_true, Bool.true_eq_false, reduceIte, Nat.reduceAdd, Nat.reduceLeDiff, Nat.reduceEqDiff, decide_true, decide_false, and_self, and_true, true_and, oMod_int, oMul_r, oMul_l, oLen_str, oAdd_str, oSl_str, oSl_tup, oSl_lst, oSl_fz, rngOk_of, oEq_int, oEq_bl, beq_self_eq_true, Int.toNat_natCast, mFor_eq, mLc_eq, app_get0, app_get1, app_set0, app_set1, tyOk, oTuple_ref, oList_ref, oLen_refM, oIx_refM, oAppM, oExtM, srcOf_refM, ifLt24, ifLe24, C_law_names_1, t1, t2, hcast, oIx_str (show abc.length ≤ 16777216 by decide) hc, a1, a2]
  have hpl : PlL 0 ((List.range many).map fun k => D.str (nmAt w v2 v3 k)) := fun d hd => by obtain ⟨k, _, rfl⟩ := List.mem_map.mp hd; exact Pl.str _
  obtain ⟨l', M5, p6, h6, e6⟩ := mixed_eq h4 _ hpl (by simp; omega)
  have hmm : ((List.range many).map fun k => D.str (nmAt w v2 v3 k)) = ((List.range many).map fun k => nmAt w v2 v3 k).map D.str := by rw [List.map_map]; rfl
  rw [hmm] at p6
  obtain ⟨F, rfl, pF⟩ := perm_map unStr (fun _ => rfl) p6
  have nd : ((List.range many).map fun k => nmAt w v2 v3 k).Nodup := by
    unfold List.Nodup
    rw [List.pairwise_map]
    refine (List.pairwise_lt_range (n := many)).imp_of_mem fun {a b} ha hb hlt hab => ?_
    have ha := List.mem_range.mp ha
    have hb := List.mem_range.mp hb
    have := nmAt_inj (by omega) (by omega) hab
    omega
  refine ⟨F, M5, pF.nodup_iff.mpr nd, by rw [pF.length_eq]; simp, fun x hx => ?_, h6, runB_rt (N := 7) ?_⟩
  · obtain ⟨k, hk, rfl⟩ := List.mem_map.mp (pF.mem_iff.mp hx)
    refine ⟨by rw [hlen]; omega, by rw [hlen]; omega, fun c hc => ?_⟩
    unfold nmAt at hc
    simp only [List.mem_append, List.mem_singleton] at hc
    rcases hc with (hc | rfl) | hc
    · exact aw c (List.mem_of_mem_take hc)
    · have : ∀ u, u < 26 → 97 + u ∈ abc := by decide
      exact this _ (Nat.mod_lt _ (by omega))
    · exact aw c (List.mem_of_mem_drop hc)
  · have hj : oJoin (.str []) [.lst (w.map fun c => .str [c])] M2 = .ok (.str w) M2 := join_eq (by omega)
    show B_law_names [some (.ref i), some (.int many), none, none, none, none, none] M = _
    simp -implicitDefEqProofs (disch := first | assumption | omega | (simp only [List.length_cons, List.length_nil, List.length_append, List.length_map, List.length_take, List.length_drop, rngItems_len]; omega)) only [mSeq_eq, mIfS_eq, mSet_eq, mRet_eq, mRetN_eq, mExpr_eq, mPass_eq, mAsg_eq, mPar_eq, mAug_eq, bOf_eq, tOf_eq, tAndM_eq, tOrM_eq, tNotM_eq, tsYes_eq, mOp_eq, mUn_eq, mVar_eq, mC_eq, mCall_eq, mFun_eq, mFunKw_eq, mMeth_eq, mAnd_eq, mOr_eq, mNot_eq, mIf_eq, mChain_eq, mSl_eq, pNone_eq, pSome_eq, aCons_eq, aNil_eq, mTup_eq, mLst_eq, gN_eq, gT_eq, gsNil_eq, gsCons_eq, mkL_t, mkL_f, R.bind_ok, R.bind_no, R.nox_ok, List.getElem?_cons_zero, List.getElem?_cons_succ, List.set_cons_zero, List.set_cons_succ, List.length_cons, List.length_nil, List.append_nil, List.nil_append, List.cons_append, piApp_on, oLen_fz, oLen_lst, oLen_tup, oLt_int, oLe_int, oGt_int, oGe_int, oAdd_int, oSub_int, oIx_fz, oIx_lst, oIx_tup, oMax_int, oMin_int, oInt_bl, oInt_int, oIsi_bl, oNeg_int, oTuple_lst, oTuple_tup, iR1_eq, iR2_eq, iSq_eq, iStrM_eq, srcOf_tup, srcOf_lst, srcOf_fz, if_true, if_false, Bool.false_eq_true, Bool.true_eq_false, reduceIte, Nat.reduceAdd, Nat.reduceLeDiff, Nat.reduceEqDiff, decide_true, decide_false, and_self, and_true, true_and, oMod_int, oMul_r, oMul_l, oLen_str, oAdd_str, oSl_str, oSl_tup, oSl_lst, oSl_fz, rngOk_of, oEq_int, oEq_bl, beq_self_eq_true, Int.toNat_natCast, mFor_eq, mLc_eq, app_get0, app_get1, app_set0, app_set1, tyOk, oTuple_ref, oList_ref, oLen_refM, oIx_refM, oAppM, oExtM, srcOf_refM, ifLt24, ifLe24, B_law_names, e1, e2, hj, e3, e4, e5, e6]
/-! ### warrants -/
structure Wr where
  h : List Nat
  n : Int
  o1 : List Nat
  o2 : List Nat
  ch : List Int
  rs : List (List Nat)
def Wr.g4 (w : Wr) : List D := [.str w.h, .int w.n, .tup [.str w.o1, .str w.o2], .tup (w.ch.map .int), .tup (w.rs.map .str)]
/-- a grant: from drawn names -/
theorem grant_eq {M0 M : Mem} {i : Nat} (h : FdAt M0 i M) (F : List (List Nat)) (hF : F.length = 6) : ∃ (w : Wr) (M' : Mem), w.o1 ∈ F ∧ w.o2 ∈ F ∧ 0 < w.rs.length ∧ w.rs.length ≤ 4 ∧ (∀ r ∈ w.rs, r ∈ F) ∧ FdAt M0 i M' ∧ g_law_grant [.ref i, .lst (F.map .str)] M = .ok (.tup w.g4) M' := by
  obtain ⟨v, M1, v1, h1, e1⟩ := draw_eq h 5 (by omega) (by omega)
  have c1 : (1 : Int) + (v : Int) = ((1 + v : Nat) : Int) := by simp
  obtain ⟨ys, M2, e2, l2, y2, h2⟩ := compL_inv (g := gN 3) (f := C_law_grant_0) (env := wipeE [some (.ref i), some (.lst (F.map .str)), none, none, none] [3]) (fun _ M => FdAt M0 i M) (fun _ _ y => ∃ c : Int, y = .int c) (rngItems 0 (1 + v)) 0 M1 h1 fun k d M2 hk h2 => by
    obtain ⟨u, M3, u1, h3, e3⟩ := draw_eq h2 9 (by omega) (by omega)
    exact ⟨.int u, M3, by simp -implicitDefEqProofs only [mSeq_eq, mIfS_eq, mSet_eq, mRet_eq, mRetN_eq, mExpr_eq, mPass_eq, mAsg_eq, mPar_eq, mAug_eq, bOf_eq, tOf_eq, tAndM_eq, tOrM_eq, tNotM_eq, tsYes_eq, mOp_eq, mUn_eq, mVar_eq, mC_eq, mCall_eq, mFun_eq, mFunKw_eq, mMeth_eq, mAnd_eq, mOr_eq, mNot_eq, mIf_eq, mChain_eq, mSl_eq, pNone_eq, pSome_eq, aCons_eq, aNil_eq, mTup_eq, mLst_eq, gN_eq, gT_eq, gsNil_eq, gsCons_eq, mkL_t, mkL_f, R.bind_ok, R.bind_no, R.nox_ok, List.getElem?_cons_zero, List.getElem?_cons_succ, List.set_cons_zero, List.set_cons_succ, List.length_cons, List.length_nil, List.append_nil, List.nil_append, List.cons_append, piApp_on, oLen_fz, oLen_lst, oLen_tup, oLt_int, oLe_int, oGt_int, oGe_int, oAdd_int, oSub_int, oIx_fz, oIx_lst, oIx_tup, oMax_int, oMin_int, oInt_bl, oInt_int, oIsi_bl, oNeg_int, oTuple_lst, oTuple_tup, iR1_eq, iR2_eq, iSq_eq, iStrM_eq, srcOf_tup, srcOf_lst, srcOf_fz, if_true, if_false, Bool.false_eq_true, Bool.true_eq_false, reduceIte, Nat.reduceAdd, Nat.reduceLeDiff, Nat.reduceEqDiff, decide_true, decide_false, and_self, and_true, true_and, C_law_grant_0, wipeE, e3], ⟨_, rfl⟩, h3⟩
  obtain ⟨cs, rfl⟩ := map_of D.int (l := ys) fun d hd => allY l2 y2 hd
  rw [rngItems_len, List.length_map] at l2
  have hss : oSortSet false [.lst (cs.map .int)] M2 = .ok (.lst ((setSort cs).map .int)) M2 := by
    simp only [oSortSet, lstOf, Option.bind_some, intsOf_map]
    rw [if_pos (by omega), mkL_f]
  have hne : setSort cs ≠ [] := by
    cases cs with
    | nil => simp at l2; omega
    | cons c r => intro e; have : c ∈ setSort (c :: r) := setSort_mem.mpr (List.mem_cons_self ..); rw [e] at this; cases this
  obtain ⟨S, hS⟩ : ∃ S, setSort cs = S := ⟨_, rfl⟩
  rw [hS] at hss hne
  obtain ⟨s0, z, hz⟩ := snoc_of hne
  obtain ⟨u, M3, u1, h3, e3⟩ := draw_eq h2 4 (by omega) (by omega)
  have c2 : (1 : Int) + (u : Int) = ((1 + u : Nat) : Int) := by simp
  have hcut : cutD (F.map D.str) none (some ((1 + u : Nat) : Int)) = (F.take (1 + u)).map D.str := by rw [cutD_take, List.map_take]
  obtain ⟨rs, hrs⟩ : ∃ rs, ((F.take (1 + u)).mergeSort fun a b => decide (a ≤ b)) = rs := ⟨_, rfl⟩
  have hso : oSorted false [.lst ((F.take (1 + u)).map .str)] M3 = .ok (.lst (rs.map .str)) M3 := by rw [oSorted_strs rfl, hrs, mkL_f]
  have pr : rs.Perm (F.take (1 + u)) := hrs ▸ List.mergeSort_perm _ _
  obtain ⟨v4, M4, p4, h4, e4⟩ := draw_eq h3 2 (by omega) (by omega)
  obtain ⟨v5, M5, p5, h5, e5⟩ := draw_eq h4 6 (by omega) (by omega)
  have pick : ∀ k : Nat, k < 6 → ∃ w, w ∈ F ∧ atI (F.map D.str) (k : Int) = some (.str w) := fun k hk => by
    have hk' : k < F.length := by omega
    exact ⟨F[k], List.getElem_mem hk', atI_nat (by rw [List.getElem?_map, List.getElem?_eq_getElem hk']; rfl)⟩
  obtain ⟨w4, m4, k4⟩ := pick 4 (by omega)
  obtain ⟨a, ma, ka⟩ := pick (4 + v4) (by omega)
  obtain ⟨b, mb, kb⟩ := pick v5 (by omega)
  have k4' : atI (F.map D.str) 4 = some (.str w4) := k4
  have c4 : (4 : Int) + (v4 : Int) = ((4 + v4 : Nat) : Int) := by simp
  have hlast : atI (S.map D.int) (-1) = some (.int z) := by rw [hz, List.map_append]; exact atLast _ _
  have lr := pr.length_eq
  rw [List.length_take] at lr
  refine ⟨⟨w4, z, a, b, S, rs⟩, M5, ma, mb, by show 0 < rs.length; omega, by show rs.length ≤ 4; omega, fun r hr => List.mem_of_mem_take (pr.mem_iff.mp hr), h5, runB_rt (N := 5) ?_⟩
  show B_law_grant [some (.ref i), some (.lst (F.map .str)), none, none, none] M = _
  have n1 : oNeg (.int 1) M3 = .ok (.int (-1)) M3 := rfl
  simp -implicitDefEqProofs (disch := first | assumption | omega | (simp only [List.length_cons, List.length_nil, List.length_append, List.length_map, List.length_take, List.length_drop, rngItems_len]; omega)) only [mSeq_eq, mIfS_eq, mSet_eq, mRet_eq, mRetN_eq, mExpr_eq, mPass_eq, mAsg_eq, mPar_eq, mAug_eq, bOf_eq, tOf_eq, tAndM_eq, tOrM_eq, tNotM_eq, tsYes_eq, mOp_eq, mUn_eq, mVar_eq, mC_eq, mCall_eq, mFun_eq, mFunKw_eq, mMeth_eq, mAnd_eq, mOr_eq, mNot_eq, mIf_eq, mChain_eq, mSl_eq, pNone_eq, pSome_eq, aCons_eq, aNil_eq, mTup_eq, mLst_eq, gN_eq, gT_eq, gsNil_eq, gsCons_eq, mkL_t, mkL_f, R.bind_ok, R.bind_no, R.nox_ok, List.getElem?_cons_zero, List.getElem?_cons_succ, List.set_cons_zero, List.set_cons_succ, List.length_cons, List.length_nil, List.append_nil, List.nil_append, List.cons_append, piApp_on, oLen_fz, oLen_lst, oLen_tup, oLt_int, oLe_int, oGt_int, oGe_int, oAdd_int, oSub_int, oIx_fz, oIx_lst, oIx_tup, oMax_int, oMin_int, oInt_bl, oInt_int, oIsi_bl, oNeg_int, oTuple_lst, oTuple_tup, iR1_eq, iR2_eq, iSq_eq, iStrM_eq, srcOf_tup, srcOf_lst, srcOf_fz, if_true, if_false, Bool.false_eq_true, Bool.true_eq_false, reduceIte, Nat.reduceAdd, Nat.reduceLeDiff, Nat.reduceEqDiff, decide_true, decide_false, and_self, and_true, true_and, oMod_int, oMul_r, oMul_l, oLen_str, oAdd_str, oSl_str, oSl_tup, oSl_lst, oSl_fz, rngOk_of, oEq_int, oEq_bl, beq_self_eq_true, Int.toNat_natCast, mFor_eq, mLc_eq, app_get0, app_get1, app_set0, app_set1, tyOk, oTuple_ref, oList_ref, oLen_refM, oIx_refM, oAppM, oExtM, srcOf_refM, ifLt24, ifLe24, B_law_grant, e1, c1, e2, hss, e3, c2, hcut, hso, k4', n1, hlast, e4, c4, ka, e5, kb]
  rfl
/-- a warrant: given at a tick, with a stamp -/
def Wr.full (w : Wr) (given stamp : Int) : D := .tup [.str w.h, .int w.n, .tup [.str w.o1, .str w.o2], .tup (w.ch.map .int), .tup (w.rs.map .str), .int given, .int stamp]
theorem full_add (w : Wr) (gi st : Int) (M : Mem) : oAdd false (.tup w.g4) (.tup [.int gi, .int st]) M = .ok (w.full gi st) M := rfl
theorem addL {l m : List D} {M : Mem} (h : l.length + m.length ≤ 10000) : oAdd false (.lst l) (.lst m) M = .ok (.lst (l ++ m)) M := by
  show oAddL false (.lst l) (.lst m) M = _
  simp only [oAddL, Fn.ownOf, mkL_f]
  rw [if_pos (by omega)]
theorem full_ex (w : Wr) (g s : Int) : exD (w.full g s) = true := by
  simp only [Wr.full, exD, exL, exL_ints, exL_strs, Bool.and_self]
theorem full_dp (w : Wr) (g s : Int) : dpD (w.full g s) ≤ 60 := by
  have h : dpD (w.full g s) ≤ 2 := by
    simp only [Wr.full, dpD, dpL, dpL_ints, dpL_strs]
    decide
  omega
theorem full_pl (w : Wr) (g s : Int) : Pl 2 (w.full g s) := by
  refine Pl.tup (.cons (.str _) (.cons (.int _) (.cons (.tup (.cons (.str _) (.cons (.str _) .nil))) (.cons (.tup fun d hd => ?_) (.cons (.tup fun d hd => ?_) (.cons (.int _) (.cons (.int _) .nil)))))))
  · obtain ⟨x, _, rfl⟩ := List.mem_map.mp hd; exact .int _
  · obtain ⟨x, _, rfl⟩ := List.mem_map.mp hd; exact .str _
/-! ### the later of two -/
abbrev GS := Option (Int × Int)
def laterV : GS → GS → GS
  | none, b => b
  | a, none => a
  | some (g, s), some (g', s') => if g < g' ∨ (g = g' ∧ s < s') then some (g', s') else some (g, s)
theorem laterV_none (a : GS) : laterV a none = a := by cases a <;> rfl
theorem none_laterV (a : GS) : laterV none a = a := rfl
theorem laterV_self (a : GS) : laterV a a = a := by
  rcases a with _ | ⟨g, s⟩
  · rfl
  · simp only [laterV]; split <;> rfl
theorem laterV_comm (a b : GS) : laterV a b = laterV b a := by
  rcases a with _ | ⟨g, s⟩ <;> rcases b with _ | ⟨g', s'⟩ <;> try rfl
  simp only [laterV]
  split <;> split <;> simp only [Option.some.injEq, Prod.mk.injEq] <;> omega
theorem laterV_some (g s g' s' : Int) : laterV (some (g, s)) (some (g', s')) = if g < g' ∨ (g = g' ∧ s < s') then some (g', s') else some (g, s) := rfl
theorem laterV_right (a b c : GS) : laterV (laterV a b) c = laterV (laterV a c) b := by
  rcases a with _ | ⟨g, s⟩ <;> rcases b with _ | ⟨g', s'⟩ <;> rcases c with _ | ⟨g2, s2⟩ <;> try simp only [laterV_none, none_laterV]
  · exact laterV_comm _ _
  · grind [laterV_some]
theorem laterV_twice (a b : GS) : laterV (laterV a b) b = laterV a b := by
  rcases a with _ | ⟨g, s⟩ <;> rcases b with _ | ⟨g', s'⟩ <;> try simp only [laterV_none, none_laterV]
  · exact laterV_self _
  · grind [laterV_some]
def keptV (xs : List GS) : GS := xs.foldl laterV none
theorem kept_stays {y : GS} : ∀ (r : List GS) (j : GS), laterV j y = j → laterV (r.foldl laterV j) y = r.foldl laterV j
  | [], j, h => h
  | z :: r, j, h => kept_stays r (laterV j z) (by rw [laterV_right, h])
theorem kept_mem {y : GS} : ∀ (l : List GS) (j : GS), y ∈ l → laterV (l.foldl laterV j) y = l.foldl laterV j
  | z :: r, j, h => by
    rcases List.mem_cons.mp h with rfl | h
    · exact kept_stays r _ (laterV_twice _ _)
    · exact kept_mem r _ h
theorem kept_more {l : List GS} : ∀ {m : List GS}, (∀ y ∈ m, y ∈ l) → (l ++ m).foldl laterV none = l.foldl laterV none := by
  intro m h
  rw [List.foldl_append]
  have : ∀ (m : List GS) (K : GS), (∀ y ∈ m, laterV K y = K) → m.foldl laterV K = K := by
    intro m
    induction m with
    | nil => intros; rfl
    | cons z r ih => intro K hk; rw [List.foldl_cons, hk z (List.mem_cons_self ..)]; exact ih K fun y hy => hk y (List.mem_cons_of_mem _ hy)
  exact this m _ fun y hy => kept_mem l none (h y hy)
theorem kept_perm {l m : List GS} (h : l.Perm m) : l.foldl laterV none = m.foldl laterV none := h.foldl_eq' (fun x _ y _ z => laterV_right z x y) none
def wo (w : Wr) : GS → D
  | none => .non
  | some (g, s) => w.full g s
theorem wo_ex (w : Wr) (a : GS) : exD (wo w a) = true := by
  rcases a with _ | ⟨g, s⟩
  · rfl
  · exact full_ex w g s
theorem wo_dp (w : Wr) (a : GS) : dpD (wo w a) ≤ 60 := by
  rcases a with _ | ⟨g, s⟩
  · exact Nat.zero_le _
  · exact full_dp w g s
theorem wo_pl (w : Wr) (a : GS) : Pl 2 (wo w a) := by
  rcases a with _ | ⟨g, s⟩
  · exact .non
  · exact full_pl w g s
theorem later_eq (w : Wr) (a b : GS) (M : Mem) : g_later [wo w a, wo w b] M = .ok (wo w (laterV a b)) M := by
  refine runB_rt (N := 8) ?_
  show B_later [some (wo w a), some (wo w b), none, none, none, none, none, none] M = _
  have e0 : oIsN false .non M = .ok (.bl true) M := rfl
  have e1 : ∀ g s, oIsN false (w.full g s) M = .ok (.bl false) M := fun _ _ => rfl
  rcases a with _ | ⟨g, s⟩ <;> rcases b with _ | ⟨g', s'⟩
  · simp -implicitDefEqProofs (disch := first | assumption | omega | (simp only [List.length_cons, List.length_nil, List.length_append, List.length_map, List.length_take, List.length_drop, rngItems_len]; omega)) only [mSeq_eq, mIfS_eq, mSet_eq, mRet_eq, mRetN_eq, mExpr_eq, mPass_eq, mAsg_eq, mPar_eq, mAug_eq, bOf_eq, tOf_eq, tAndM_eq, tOrM_eq, tNotM_eq, tsYes_eq, mOp_eq, mUn_eq, mVar_eq, mC_eq, mCall_eq, mFun_eq, mFunKw_eq, mMeth_eq, mAnd_eq, mOr_eq, mNot_eq, mIf_eq, mChain_eq, mSl_eq, pNone_eq, pSome_eq, aCons_eq, aNil_eq, mTup_eq, mLst_eq, gN_eq, gT_eq, gsNil_eq, gsCons_eq, mkL_t, mkL_f, R.bind_ok, R.bind_no, R.nox_ok, List.getElem?_cons_zero, List.getElem?_cons_succ, List.set_cons_zero, List.set_cons_succ, List.length_cons, List.length_nil, List.append_nil, List.nil_append, List.cons_append, piApp_on, oLen_fz, oLen_lst, oLen_tup, oLt_int, oLe_int, oGt_int, oGe_int, oAdd_int, oSub_int, oIx_fz, oIx_lst, oIx_tup, oMax_int, oMin_int, oInt_bl, oInt_int, oIsi_bl, oNeg_int, oTuple_lst, oTuple_tup, iR1_eq, iR2_eq, iSq_eq, iStrM_eq, srcOf_tup, srcOf_lst, srcOf_fz, if_true, if_false, Bool.false_eq_true, Bool.true_eq_false, reduceIte, Nat.reduceAdd, Nat.reduceLeDiff, Nat.reduceEqDiff, decide_true, decide_false, and_self, and_true, true_and, oMod_int, oMul_r, oMul_l, oLen_str, oAdd_str, oSl_str, oSl_tup, oSl_lst, oSl_fz, rngOk_of, oEq_int, oEq_bl, beq_self_eq_true, Int.toNat_natCast, mFor_eq, mLc_eq, app_get0, app_get1, app_set0, app_set1, tyOk, oTuple_ref, oList_ref, oLen_refM, oIx_refM, oAppM, oExtM, srcOf_refM, ifLt24, ifLe24, B_later, wo, e0]; rfl
  · simp -implicitDefEqProofs (disch := first | assumption | omega | (simp only [List.length_cons, List.length_nil, List.length_append, List.length_map, List.length_take, List.length_drop, rngItems_len]; omega)) only [mSeq_eq, mIfS_eq, mSet_eq, mRet_eq, mRetN_eq, mExpr_eq, mPass_eq, mAsg_eq, mPar_eq, mAug_eq, bOf_eq, tOf_eq, tAndM_eq, tOrM_eq, tNotM_eq, tsYes_eq, mOp_eq, mUn_eq, mVar_eq, mC_eq, mCall_eq, mFun_eq, mFunKw_eq, mMeth_eq, mAnd_eq, mOr_eq, mNot_eq, mIf_eq, mChain_eq, mSl_eq, pNone_eq, pSome_eq, aCons_eq, aNil_eq, mTup_eq, mLst_eq, gN_eq, gT_eq, gsNil_eq, gsCons_eq, mkL_t, mkL_f, R.bind_ok, R.bind_no, R.nox_ok, List.getElem?_cons_zero, List.getElem?_cons_succ, List.set_cons_zero, List.set_cons_succ, List.length_cons, List.length_nil, List.append_nil, List.nil_append, List.cons_append, piApp_on, oLen_fz, oLen_lst, oLen_tup, oLt_int, oLe_int, oGt_int, oGe_int, oAdd_int, oSub_int, oIx_fz, oIx_lst, oIx_tup, oMax_int, oMin_int, oInt_bl, oInt_int, oIsi_bl, oNeg_int, oTuple_lst, oTuple_tup, iR1_eq, iR2_eq, iSq_eq, iStrM_eq, srcOf_tup, srcOf_lst, srcOf_fz, if_true, if_false, Bool.false_eq_true, Bool.true_eq_false, reduceIte, Nat.reduceAdd, Nat.reduceLeDiff, Nat.reduceEqDiff, decide_true, decide_false, and_self, and_true, true_and, oMod_int, oMul_r, oMul_l, oLen_str, oAdd_str, oSl_str, oSl_tup, oSl_lst, oSl_fz, rngOk_of, oEq_int, oEq_bl, beq_self_eq_true, Int.toNat_natCast, mFor_eq, mLc_eq, app_get0, app_get1, app_set0, app_set1, tyOk, oTuple_ref, oList_ref, oLen_refM, oIx_refM, oAppM, oExtM, srcOf_refM, ifLt24, ifLe24, B_later, wo, e0, e1]; rfl
  · simp -implicitDefEqProofs (disch := first | assumption | omega | (simp only [List.length_cons, List.length_nil, List.length_append, List.length_map, List.length_take, List.length_drop, rngItems_len]; omega)) only [mSeq_eq, mIfS_eq, mSet_eq, mRet_eq, mRetN_eq, mExpr_eq, mPass_eq, mAsg_eq, mPar_eq, mAug_eq, bOf_eq, tOf_eq, tAndM_eq, tOrM_eq, tNotM_eq, tsYes_eq, mOp_eq, mUn_eq, mVar_eq, mC_eq, mCall_eq, mFun_eq, mFunKw_eq, mMeth_eq, mAnd_eq, mOr_eq, mNot_eq, mIf_eq, mChain_eq, mSl_eq, pNone_eq, pSome_eq, aCons_eq, aNil_eq, mTup_eq, mLst_eq, gN_eq, gT_eq, gsNil_eq, gsCons_eq, mkL_t, mkL_f, R.bind_ok, R.bind_no, R.nox_ok, List.getElem?_cons_zero, List.getElem?_cons_succ, List.set_cons_zero, List.set_cons_succ, List.length_cons, List.length_nil, List.append_nil, List.nil_append, List.cons_append, piApp_on, oLen_fz, oLen_lst, oLen_tup, oLt_int, oLe_int, oGt_int, oGe_int, oAdd_int, oSub_int, oIx_fz, oIx_lst, oIx_tup, oMax_int, oMin_int, oInt_bl, oInt_int, oIsi_bl, oNeg_int, oTuple_lst, oTuple_tup, iR1_eq, iR2_eq, iSq_eq, iStrM_eq, srcOf_tup, srcOf_lst, srcOf_fz, if_true, if_false, Bool.false_eq_true, Bool.true_eq_false, reduceIte, Nat.reduceAdd, Nat.reduceLeDiff, Nat.reduceEqDiff, decide_true, decide_false, and_self, and_true, true_and, oMod_int, oMul_r, oMul_l, oLen_str, oAdd_str, oSl_str, oSl_tup, oSl_lst, oSl_fz, rngOk_of, oEq_int, oEq_bl, beq_self_eq_true, Int.toNat_natCast, mFor_eq, mLc_eq, app_get0, app_get1, app_set0, app_set1, tyOk, oTuple_ref, oList_ref, oLen_refM, oIx_refM, oAppM, oExtM, srcOf_refM, ifLt24, ifLe24, B_later, wo, e0, e1]; rfl
  · have f1 : ∀ g s (x : FGs) env, gS 3 0 x (w.full g s) env M = x [.lst [.str w.h, .int w.n, .tup [.str w.o1, .str w.o2], .tup (w.ch.map .int), .tup (w.rs.map .str)], .int g, .int s] env M := fun _ _ _ _ => rfl
    have f2 : oLtD (.tup [.int g, .int s]) (.tup [.int g', .int s']) M = .ok (.bl (decide (g < g' ∨ (g = g' ∧ s < s')))) M := oLtD_pair g s g' s' M
    have f3 : laterV (some (g, s)) (some (g', s')) = if g < g' ∨ (g = g' ∧ s < s') then some (g', s') else some (g, s) := rfl
    rw [f3]
    by_cases hc : g < g' ∨ (g = g' ∧ s < s')
    · simp -implicitDefEqProofs (disch := first | assumption | omega | (simp only [List.length_cons, List.length_nil, List.length_append, List.length_map, List.length_take, List.length_drop, rngItems_len]; omega)) only [mSeq_eq, mIfS_eq, mSet_eq, mRet_eq, mRetN_eq, mExpr_eq, mPass_eq, mAsg_eq, mPar_eq, mAug_eq, bOf_eq, tOf_eq, tAndM_eq, tOrM_eq, tNotM_eq, tsYes_eq, mOp_eq, mUn_eq, mVar_eq, mC_eq, mCall_eq, mFun_eq, mFunKw_eq, mMeth_eq, mAnd_eq, mOr_eq, mNot_eq, mIf_eq, mChain_eq, mSl_eq, pNone_eq, pSome_eq, aCons_eq, aNil_eq, mTup_eq, mLst_eq, gN_eq, gT_eq, gsNil_eq, gsCons_eq, mkL_t, mkL_f, R.bind_ok, R.bind_no, R.nox_ok, List.getElem?_cons_zero, List.getElem?_cons_succ, List.set_cons_zero, List.set_cons_succ, List.length_cons, List.length_nil, List.append_nil, List.nil_append, List.cons_append, piApp_on, oLen_fz, oLen_lst, oLen_tup, oLt_int, oLe_int, oGt_int, oGe_int, oAdd_int, oSub_int, oIx_fz, oIx_lst, oIx_tup, oMax_int, oMin_int, oInt_bl, oInt_int, oIsi_bl, oNeg_int, oTuple_lst, oTuple_tup, iR1_eq, iR2_eq, iSq_eq, iStrM_eq, srcOf_tup, srcOf_lst, srcOf_fz, if_true, if_false, Bool.false_eq_true, Bool.true_eq_false, reduceIte, Nat.reduceAdd, Nat.reduceLeDiff, Nat.reduceEqDiff, decide_true, decide_false, and_self, and_true, true_and, oMod_int, oMul_r, oMul_l, oLen_str, oAdd_str, oSl_str, oSl_tup, oSl_lst, oSl_fz, rngOk_of, oEq_int, oEq_bl, beq_self_eq_true, Int.toNat_natCast, mFor_eq, mLc_eq, app_get0, app_get1, app_set0, app_set1, tyOk, oTuple_ref, oList_ref, oLen_refM, oIx_refM, oAppM, oExtM, srcOf_refM, ifLt24, ifLe24, B_later, wo, e1, f1, f2, decide_eq_true hc, if_pos hc]
    · simp -implicitDefEqProofs (disch := first | assumption | omega | (simp only [List.length_cons, List.length_nil, List.length_append, List.length_map, List.length_take, List.length_drop, rngItems_len]; omega)) only [mSeq_eq, mIfS_eq, mSet_eq, mRet_eq, mRetN_eq, mExpr_eq, mPass_eq, mAsg_eq, mPar_eq, mAug_eq, bOf_eq, tOf_eq, tAndM_eq, tOrM_eq, tNotM_eq, tsYes_eq, mOp_eq, mUn_eq, mVar_eq, mC_eq, mCall_eq, mFun_eq, mFunKw_eq, mMeth_eq, mAnd_eq, mOr_eq, mNot_eq, mIf_eq, mChain_eq, mSl_eq, pNone_eq, pSome_eq, aCons_eq, aNil_eq, mTup_eq, mLst_eq, gN_eq, gT_eq, gsNil_eq, gsCons_eq, mkL_t, mkL_f, R.bind_ok, R.bind_no, R.nox_ok, List.getElem?_cons_zero, List.getElem?_cons_succ, List.set_cons_zero, List.set_cons_succ, List.length_cons, List.length_nil, List.append_nil, List.nil_append, List.cons_append, piApp_on, oLen_fz, oLen_lst, oLen_tup, oLt_int, oLe_int, oGt_int, oGe_int, oAdd_int, oSub_int, oIx_fz, oIx_lst, oIx_tup, oMax_int, oMin_int, oInt_bl, oInt_int, oIsi_bl, oNeg_int, oTuple_lst, oTuple_tup, iR1_eq, iR2_eq, iSq_eq, iStrM_eq, srcOf_tup, srcOf_lst, srcOf_fz, if_true, if_false, Bool.false_eq_true, Bool.true_eq_false, reduceIte, Nat.reduceAdd, Nat.reduceLeDiff, Nat.reduceEqDiff, decide_true, decide_false, and_self, and_true, true_and, oMod_int, oMul_r, oMul_l, oLen_str, oAdd_str, oSl_str, oSl_tup, oSl_lst, oSl_fz, rngOk_of, oEq_int, oEq_bl, beq_self_eq_true, Int.toNat_natCast, mFor_eq, mLc_eq, app_get0, app_get1, app_set0, app_set1, tyOk, oTuple_ref, oList_ref, oLen_refM, oIx_refM, oAppM, oExtM, srcOf_refM, ifLt24, ifLe24, B_later, wo, e1, f1, f2, decide_eq_false hc, if_neg hc]
/-! ### k28 -/
abbrev prD (x y : List Nat) : D := .tup [.str x, .str y]
def servesV (w : Wr) (given : Int) (x y r : List Nat) (t l : Int) : Bool := decide (w.o1 = x ∧ w.o2 = y) && (decide (r ∈ w.rs) && (decide (given ≤ t) && decide (t < given + l)))
theorem oEq_pr (neg : Bool) (a b x y : List Nat) (M : Mem) : oEq neg (prD a b) (prD x y) M = .ok (.bl (neg != decide (a = x ∧ b = y))) M := by
  by_cases e : a = x ∧ b = y
  · obtain ⟨rfl, rfl⟩ := e
    rw [oEq_exT rfl (by have : dpD (prD a b) = 1 := rfl; omega), decide_eq_true ⟨rfl, rfl⟩]; cases neg <;> rfl
  · rw [oEq_exF rfl rfl (by have : dpD (prD a b) = 1 := rfl; omega) (fun h => by injection h with h; injection h with h1 h; injection h with h2 _; injection h1 with h1; injection h2 with h2; exact e ⟨h1, h2⟩), decide_eq_false e]; cases neg <;> rfl
theorem serves_eq (w : Wr) (given stamp : Int) (x y r : List Nat) (t l : Int) (M : Mem) : g_serves [w.full given stamp, prD x y, .str r, .int t, .int l] M = .ok (.bl (servesV w given x y r t l)) M := by
  refine runB_rt (N := 12) ?_
  show B_serves [some (w.full given stamp), some (prD x y), some (.str r), some (.int t), some (.int l), none, none, none, none, none, none, none] M = _
  have e0 : oIsN false (w.full given stamp) M = .ok (.bl false) M := rfl
  have e2 : oInF false (.str r) (.tup (w.rs.map .str)) M = .ok (.bl (decide (r ∈ w.rs))) M := by rw [oInF_strs rfl]; simp
  unfold servesV
  unfold Wr.full at e0 ⊢
  by_cases h1 : w.o1 = x ∧ w.o2 = y
  · by_cases h2 : r ∈ w.rs
    · by_cases h3 : given ≤ t
      · simp -implicitDefEqProofs (disch := first | assumption | omega | (simp only [List.length_cons, List.length_nil, List.length_append, List.length_map, List.length_take, List.length_drop, rngItems_len]; omega)) only [mSeq_eq, mIfS_eq, mSet_eq, mRet_eq, mRetN_eq, mExpr_eq, mPass_eq, mAsg_eq, mPar_eq, mAug_eq, bOf_eq, tOf_eq, tAndM_eq, tOrM_eq, tNotM_eq, tsYes_eq, mOp_eq, mUn_eq, mVar_eq, mC_eq, mCall_eq, mFun_eq, mFunKw_eq, mMeth_eq, mAnd_eq, mOr_eq, mNot_eq, mIf_eq, mChain_eq, mSl_eq, pNone_eq, pSome_eq, aCons_eq, aNil_eq, mTup_eq, mLst_eq, gN_eq, gT_eq, gsNil_eq, gsCons_eq, mkL_t, mkL_f, R.bind_ok, R.bind_no, R.nox_ok, List.getElem?_cons_zero, List.getElem?_cons_succ, List.set_cons_zero, List.set_cons_succ, List.length_cons, List.length_nil, List.append_nil, List.nil_append, List.cons_append, piApp_on, oLen_fz, oLen_lst, oLen_tup, oLt_int, oLe_int, oGt_int, oGe_int, oAdd_int, oSub_int, oIx_fz, oIx_lst, oIx_tup, oMax_int, oMin_int, oInt_bl, oInt_int, oIsi_bl, oNeg_int, oTuple_lst, oTuple_tup, iR1_eq, iR2_eq, iSq_eq, iStrM_eq, srcOf_tup, srcOf_lst, srcOf_fz, if_true, if_false, Bool.false_eq_true, Bool.true_eq_false, reduceIte, Nat.reduceAdd, Nat.reduceLeDiff, Nat.reduceEqDiff, decide_true, decide_false, and_self, and_true, true_and, oMod_int, oMul_r, oMul_l, oLen_str, oAdd_str, oSl_str, oSl_tup, oSl_lst, oSl_fz, rngOk_of, oEq_int, oEq_bl, beq_self_eq_true, Int.toNat_natCast, mFor_eq, mLc_eq, app_get0, app_get1, app_set0, app_set1, tyOk, oTuple_ref, oList_ref, oLen_refM, oIx_refM, oAppM, oExtM, srcOf_refM, ifLt24, ifLe24, B_serves, e0, oEq_pr, e2, decide_eq_true h1, decide_eq_true h2, decide_eq_true h3, Bool.false_bne, Bool.true_and]
      · simp -implicitDefEqProofs (disch := first | assumption | omega | (simp only [List.length_cons, List.length_nil, List.length_append, List.length_map, List.length_take, List.length_drop, rngItems_len]; omega)) only [mSeq_eq, mIfS_eq, mSet_eq, mRet_eq, mRetN_eq, mExpr_eq, mPass_eq, mAsg_eq, mPar_eq, mAug_eq, bOf_eq, tOf_eq, tAndM_eq, tOrM_eq, tNotM_eq, tsYes_eq, mOp_eq, mUn_eq, mVar_eq, mC_eq, mCall_eq, mFun_eq, mFunKw_eq, mMeth_eq, mAnd_eq, mOr_eq, mNot_eq, mIf_eq, mChain_eq, mSl_eq, pNone_eq, pSome_eq, aCons_eq, aNil_eq, mTup_eq, mLst_eq, gN_eq, gT_eq, gsNil_eq, gsCons_eq, mkL_t, mkL_f, R.bind_ok, R.bind_no, R.nox_ok, List.getElem?_cons_zero, List.getElem?_cons_succ, List.set_cons_zero, List.set_cons_succ, List.length_cons, List.length_nil, List.append_nil, List.nil_append, List.cons_append, piApp_on, oLen_fz, oLen_lst, oLen_tup, oLt_int, oLe_int, oGt_int, oGe_int, oAdd_int, oSub_int, oIx_fz, oIx_lst, oIx_tup, oMax_int, oMin_int, oInt_bl, oInt_int, oIsi_bl, oNeg_int, oTuple_lst, oTuple_tup, iR1_eq, iR2_eq, iSq_eq, iStrM_eq, srcOf_tup, srcOf_lst, srcOf_fz, if_true, if_false, Bool.false_eq_true, Bool.true_eq_false, reduceIte, Nat.reduceAdd, Nat.reduceLeDiff, Nat.reduceEqDiff, decide_true, decide_false, and_self, and_true, true_and, oMod_int, oMul_r, oMul_l, oLen_str, oAdd_str, oSl_str, oSl_tup, oSl_lst, oSl_fz, rngOk_of, oEq_int, oEq_bl, beq_self_eq_true, Int.toNat_natCast, mFor_eq, mLc_eq, app_get0, app_get1, app_set0, app_set1, tyOk, oTuple_ref, oList_ref, oLen_refM, oIx_refM, oAppM, oExtM, srcOf_refM, ifLt24, ifLe24, B_serves, e0, oEq_pr, e2, decide_eq_true h1, decide_eq_true h2, decide_eq_false h3, Bool.false_bne, Bool.true_and, Bool.false_and]
    · simp -implicitDefEqProofs (disch := first | assumption | omega | (simp only [List.length_cons, List.length_nil, List.length_append, List.length_map, List.length_take, List.length_drop, rngItems_len]; omega)) only [mSeq_eq, mIfS_eq, mSet_eq, mRet_eq, mRetN_eq, mExpr_eq, mPass_eq, mAsg_eq, mPar_eq, mAug_eq, bOf_eq, tOf_eq, tAndM_eq, tOrM_eq, tNotM_eq, tsYes_eq, mOp_eq, mUn_eq, mVar_eq, mC_eq, mCall_eq, mFun_eq, mFunKw_eq, mMeth_eq, mAnd_eq, mOr_eq, mNot_eq, mIf_eq, mChain_eq, mSl_eq, pNone_eq, pSome_eq, aCons_eq, aNil_eq, mTup_eq, mLst_eq, gN_eq, gT_eq, gsNil_eq, gsCons_eq, mkL_t, mkL_f, R.bind_ok, R.bind_no, R.nox_ok, List.getElem?_cons_zero, List.getElem?_cons_succ, List.set_cons_zero, List.set_cons_succ, List.length_cons, List.length_nil, List.append_nil, List.nil_append, List.cons_append, piApp_on, oLen_fz, oLen_lst, oLen_tup, oLt_int, oLe_int, oGt_int, oGe_int, oAdd_int, oSub_int, oIx_fz, oIx_lst, oIx_tup, oMax_int, oMin_int, oInt_bl, oInt_int, oIsi_bl, oNeg_int, oTuple_lst, oTuple_tup, iR1_eq, iR2_eq, iSq_eq, iStrM_eq, srcOf_tup, srcOf_lst, srcOf_fz, if_true, if_false, Bool.false_eq_true, Bool.true_eq_false, reduceIte, Nat.reduceAdd, Nat.reduceLeDiff, Nat.reduceEqDiff, decide_true, decide_false, and_self, and_true, true_and, oMod_int, oMul_r, oMul_l, oLen_str, oAdd_str, oSl_str, oSl_tup, oSl_lst, oSl_fz, rngOk_of, oEq_int, oEq_bl, beq_self_eq_true, Int.toNat_natCast, mFor_eq, mLc_eq, app_get0, app_get1, app_set0, app_set1, tyOk, oTuple_ref, oList_ref, oLen_refM, oIx_refM, oAppM, oExtM, srcOf_refM, ifLt24, ifLe24, B_serves, e0, oEq_pr, e2, decide_eq_true h1, decide_eq_false h2, Bool.false_bne, Bool.true_and, Bool.false_and]
  · simp -implicitDefEqProofs (disch := first | assumption | omega | (simp only [List.length_cons, List.length_nil, List.length_append, List.length_map, List.length_take, List.length_drop, rngItems_len]; omega)) only [mSeq_eq, mIfS_eq, mSet_eq, mRet_eq, mRetN_eq, mExpr_eq, mPass_eq, mAsg_eq, mPar_eq, mAug_eq, bOf_eq, tOf_eq, tAndM_eq, tOrM_eq, tNotM_eq, tsYes_eq, mOp_eq, mUn_eq, mVar_eq, mC_eq, mCall_eq, mFun_eq, mFunKw_eq, mMeth_eq, mAnd_eq, mOr_eq, mNot_eq, mIf_eq, mChain_eq, mSl_eq, pNone_eq, pSome_eq, aCons_eq, aNil_eq, mTup_eq, mLst_eq, gN_eq, gT_eq, gsNil_eq, gsCons_eq, mkL_t, mkL_f, R.bind_ok, R.bind_no, R.nox_ok, List.getElem?_cons_zero, List.getElem?_cons_succ, List.set_cons_zero, List.set_cons_succ, List.length_cons, List.length_nil, List.append_nil, List.nil_append, List.cons_append, piApp_on, oLen_fz, oLen_lst, oLen_tup, oLt_int, oLe_int, oGt_int, oGe_int, oAdd_int, oSub_int, oIx_fz, oIx_lst, oIx_tup, oMax_int, oMin_int, oInt_bl, oInt_int, oIsi_bl, oNeg_int, oTuple_lst, oTuple_tup, iR1_eq, iR2_eq, iSq_eq, iStrM_eq, srcOf_tup, srcOf_lst, srcOf_fz, if_true, if_false, Bool.false_eq_true, Bool.true_eq_false, reduceIte, Nat.reduceAdd, Nat.reduceLeDiff, Nat.reduceEqDiff, decide_true, decide_false, and_self, and_true, true_and, oMod_int, oMul_r, oMul_l, oLen_str, oAdd_str, oSl_str, oSl_tup, oSl_lst, oSl_fz, rngOk_of, oEq_int, oEq_bl, beq_self_eq_true, Int.toNat_natCast, mFor_eq, mLc_eq, app_get0, app_get1, app_set0, app_set1, tyOk, oTuple_ref, oList_ref, oLen_refM, oIx_refM, oAppM, oExtM, srcOf_refM, ifLt24, ifLe24, B_serves, e0, oEq_pr, decide_eq_false h1, Bool.false_bne, Bool.false_and]
theorem servesN_eq (d : D) (r : D) (t l : Int) (M : Mem) : g_serves [.non, d, r, .int t, .int l] M = .ok (.bl false) M := by
  refine runB_rt (N := 12) ?_
  show B_serves [some .non, some d, some r, some (.int t), some (.int l), none, none, none, none, none, none, none] M = _
  have e0 : oIsN false .non M = .ok (.bl true) M := rfl
  simp -implicitDefEqProofs (disch := first | assumption | omega | (simp only [List.length_cons, List.length_nil, List.length_append, List.length_map, List.length_take, List.length_drop, rngItems_len]; omega)) only [mSeq_eq, mIfS_eq, mSet_eq, mRet_eq, mRetN_eq, mExpr_eq, mPass_eq, mAsg_eq, mPar_eq, mAug_eq, bOf_eq, tOf_eq, tAndM_eq, tOrM_eq, tNotM_eq, tsYes_eq, mOp_eq, mUn_eq, mVar_eq, mC_eq, mCall_eq, mFun_eq, mFunKw_eq, mMeth_eq, mAnd_eq, mOr_eq, mNot_eq, mIf_eq, mChain_eq, mSl_eq, pNone_eq, pSome_eq, aCons_eq, aNil_eq, mTup_eq, mLst_eq, gN_eq, gT_eq, gsNil_eq, gsCons_eq, mkL_t, mkL_f, R.bind_ok, R.bind_no, R.nox_ok, List.getElem?_cons_zero, List.getElem?_cons_succ, List.set_cons_zero, List.set_cons_succ, List.length_cons, List.length_nil, List.append_nil, List.nil_append, List.cons_append, piApp_on, oLen_fz, oLen_lst, oLen_tup, oLt_int, oLe_int, oGt_int, oGe_int, oAdd_int, oSub_int, oIx_fz, oIx_lst, oIx_tup, oMax_int, oMin_int, oInt_bl, oInt_int, oIsi_bl, oNeg_int, oTuple_lst, oTuple_tup, iR1_eq, iR2_eq, iSq_eq, iStrM_eq, srcOf_tup, srcOf_lst, srcOf_fz, if_true, if_false, Bool.false_eq_true, Bool.true_eq_false, reduceIte, Nat.reduceAdd, Nat.reduceLeDiff, Nat.reduceEqDiff, decide_true, decide_false, and_self, and_true, true_and, oMod_int, oMul_r, oMul_l, oLen_str, oAdd_str, oSl_str, oSl_tup, oSl_lst, oSl_fz, rngOk_of, oEq_int, oEq_bl, beq_self_eq_true, Int.toNat_natCast, mFor_eq, mLc_eq, app_get0, app_get1, app_set0, app_set1, tyOk, oTuple_ref, oList_ref, oLen_refM, oIx_refM, oAppM, oExtM, srcOf_refM, ifLt24, ifLe24, B_serves, e0]
def isRow (d : D) : Prop := ∃ r : List Int, d = .tup (r.map .int) ∧ r.length ≤ 6 ∧ ∀ t ∈ r, 1 ≤ t ∧ t ≤ 4
theorem ints_of : ∀ {l : List D}, (∀ d ∈ l, ∃ t : Int, d = .int t ∧ 1 ≤ t ∧ t ≤ 4) → ∃ r : List Int, l = r.map .int ∧ ∀ t ∈ r, 1 ≤ t ∧ t ≤ 4
  | [], _ => ⟨[], rfl, fun t ht => by cases ht⟩
  | d :: r, h => by
    obtain ⟨c, rfl, hc⟩ := h d (List.mem_cons_self ..)
    obtain ⟨w, h1, h2⟩ := ints_of (l := r) fun d hd => h d (List.mem_cons_of_mem _ hd)
    refine ⟨c :: w, by rw [h1]; rfl, fun t ht => ?_⟩
    rcases List.mem_cons.mp ht with rfl | ht
    · exact hc
    · exact h2 t ht
theorem weather_turn {M0 A : Mem} {i : Nat} (h : FdAt M0 i A) (l : List D) (hl : l.length < 1000) (k : Int) (x3 x4 : Option D) : ∃ (d : D) (A' : Mem) (y3 y4 : Option D), isRow d ∧ FdAt M0 i A' ∧
    L_law_weather_1 [some (.ref i), some (.ref M0.length), some (.int k), x3, x4] (A ++ [.lst l]) = .ok (.nx [some (.ref i), some (.ref M0.length), some (.int k), y3, y4]) (A' ++ [.lst (l ++ [d])]) := by
  obtain ⟨v, A1, v0, v1, h1, e1⟩ := drawOk.app h (B := [.lst l]) (many := 6) (by omega) (by omega)
  obtain ⟨m, hm, hmm⟩ := atI_some (xs := [D.int 0, D.int 1, D.int 1, D.int 1, D.int 2, D.int 3]) v0 (by simpa using v1)
  obtain ⟨n, rfl, hn⟩ : ∃ n : Nat, m = .int n ∧ n ≤ 6 := by
    simp only [List.mem_cons, List.not_mem_nil, or_false] at hmm
    rcases hmm with rfl | rfl | rfl | rfl | rfl | rfl
    · exact ⟨0, rfl, by omega⟩
    · exact ⟨1, rfl, by omega⟩
    · exact ⟨1, rfl, by omega⟩
    · exact ⟨1, rfl, by omega⟩
    · exact ⟨2, rfl, by omega⟩
    · exact ⟨3, rfl, by omega⟩
  have turn : ∀ (k' : Nat) d M2, (rngItems 0 n)[k']? = some d → (∃ A2, FdAt M0 i A2 ∧ M2 = A2 ++ [.lst l]) → ∃ y m', ((gN 4 d (wipeE [some (.ref i), some (.ref M0.length), some (.int k), some (.int n), x4] [4]) M2).bind fun e1 m1 => C_law_weather_0 e1 m1) = .ok y m' ∧ (∃ t : Int, y = .int t ∧ 1 ≤ t ∧ t ≤ 4) ∧ ∃ A2, FdAt M0 i A2 ∧ m' = A2 ++ [.lst l] := by
    rintro k' d M2 hk ⟨A2, h2, rfl⟩
    obtain ⟨u, A3, u0, u1, h3, e3⟩ := drawOk.app h2 (B := [.lst l]) (many := 4) (by omega) (by omega)
    refine ⟨.int (1 + u), _, ?_, ⟨_, rfl, by omega, by omega⟩, A3, h3, rfl⟩
    simp -implicitDefEqProofs only [mSeq_eq, mIfS_eq, mSet_eq, mRet_eq, mRetN_eq, mExpr_eq, mPass_eq, mAsg_eq, mPar_eq, mAug_eq, bOf_eq, tOf_eq, tAndM_eq, tOrM_eq, tNotM_eq, tsYes_eq, mOp_eq, mUn_eq, mVar_eq, mC_eq, mCall_eq, mFun_eq, mFunKw_eq, mMeth_eq, mAnd_eq, mOr_eq, mNot_eq, mIf_eq, mChain_eq, mSl_eq, pNone_eq, pSome_eq, aCons_eq, aNil_eq, mTup_eq, mLst_eq, gN_eq, gT_eq, gsNil_eq, gsCons_eq, mkL_t, mkL_f, R.bind_ok, R.bind_no, R.nox_ok, List.getElem?_cons_zero, List.getElem?_cons_succ, List.set_cons_zero, List.set_cons_succ, List.length_cons, List.length_nil, List.append_nil, List.nil_append, List.cons_append, piApp_on, oLen_fz, oLen_lst, oLen_tup, oLt_int, oLe_int, oGt_int, oGe_int, oAdd_int, oSub_int, oIx_fz, oIx_lst, oIx_tup, oMax_int, oMin_int, oInt_bl, oInt_int, oIsi_bl, oNeg_int, oTuple_lst, oTuple_tup, iR1_eq, iR2_eq, iSq_eq, iStrM_eq, srcOf_tup, srcOf_lst, srcOf_fz, if_true, if_false, Bool.false_eq_true, Bool.true_eq_false, reduceIte, Nat.reduceAdd, Nat.reduceLeDiff, Nat.reduceEqDiff, decide_true, decide_false, and_self, and_true, true_and, C_law_weather_0, wipeE, e3]
  obtain ⟨ys, M2, e2, l2, y2, A2, h2, rfl⟩ := compL_inv (g := gN 4) (f := C_law_weather_0) (env := wipeE [some (.ref i), some (.ref M0.length), some (.int k), some (.int n), x4] [4]) (fun _ M2 => ∃ A2, FdAt M0 i A2 ∧ M2 = A2 ++ [.lst l]) (fun _ _ y => ∃ t : Int, y = .int t ∧ 1 ≤ t ∧ t ≤ 4) (rngItems 0 n) 0 _ ⟨A1, h1, rfl⟩ fun k d M2 hk h2 => turn k d M2 hk h2
  obtain ⟨r, rfl, hr⟩ := ints_of (l := ys) fun d hd => allY l2 y2 hd
  have hrl : r.length ≤ 6 := by rw [← List.length_map (f := D.int), l2, rngItems_len]; exact hn
  have g0 : ∀ {A : Mem}, FdAt M0 i A → (A ++ [.lst l])[M0.length]? = some (.lst l) := fun {A} h => app_get0 h.len
  have hz1 : (rngItems 0 n).length < 16777216 := by rw [rngItems_len]; omega
  refine ⟨.tup (r.map .int), A2, some (.int n), x4, ⟨r, rfl, hrl, hr⟩, h2, ?_⟩
  simp -implicitDefEqProofs only [mSeq_eq, mIfS_eq, mSet_eq, mRet_eq, mRetN_eq, mExpr_eq, mPass_eq, mAsg_eq, mPar_eq, mAug_eq, bOf_eq, tOf_eq, tAndM_eq, tOrM_eq, tNotM_eq, tsYes_eq, mOp_eq, mUn_eq, mVar_eq, mC_eq, mCall_eq, mFun_eq, mFunKw_eq, mMeth_eq, mAnd_eq, mOr_eq, mNot_eq, mIf_eq, mChain_eq, mSl_eq, pNone_eq, pSome_eq, aCons_eq, aNil_eq, mTup_eq, mLst_eq, gN_eq, gT_eq, gsNil_eq, gsCons_eq, mkL_t, mkL_f, R.bind_ok, R.bind_no, R.nox_ok, List.getElem?_cons_zero, List.getElem?_cons_succ, List.set_cons_zero, List.set_cons_succ, List.length_cons, List.length_nil, List.append_nil, List.nil_append, List.cons_append, piApp_on, oLen_fz, oLen_lst, oLen_tup, oLt_int, oLe_int, oGt_int, oGe_int, oAdd_int, oSub_int, oIx_fz, oIx_lst, oIx_tup, oMax_int, oMin_int, oInt_bl, oInt_int, oIsi_bl, oNeg_int, oTuple_lst, oTuple_tup, iR1_eq, iR2_eq, iSq_eq, iStrM_eq, srcOf_tup, srcOf_lst, srcOf_fz, if_true, if_false, Bool.false_eq_true, Bool.true_eq_false, reduceIte, Nat.reduceAdd, Nat.reduceLeDiff, Nat.reduceEqDiff, decide_true, decide_false, and_self, and_true, true_and, L_law_weather_1, e1, hm, tyOk_at (g0 h1), mLc_eq, rngOk_of (show (0 : Int) ≤ (n : Int) by omega) (by omega), Int.toNat_natCast, hz1, e2, oAppend_at (g0 h2) (show l.length < 16777216 by omega), app_set0 h2.len]
theorem isRow.pl {d : D} (h : isRow d) : Pl 1 d := by
  obtain ⟨r, rfl, _⟩ := h
  exact Pl.tup (n := 0) fun d hd => by obtain ⟨t, _, rfl⟩ := List.mem_map.mp hd; exact Pl.int _
theorem weather_eq {M0 M : Mem} {i : Nat} (h : FdAt M0 i M) : ∃ (ws : List D) (M' : Mem), (∀ d ∈ ws, isRow d) ∧ ws.length ≤ 12 ∧ FdAt M0 i M' ∧ g_law_weather [.ref i] M = .ok (.tup ws) M' := by
  obtain ⟨v, A1, v0, v1, h1, e1⟩ := drawOk.app h.self (B := [.lst []]) (many := 13) (by omega) (by omega)
  obtain ⟨env', m', e2, ws, A2, y3, y4, x2, rfl, rfl, h2, hw, hl⟩ := forL_inv (g := gN 2) (body := L_law_weather_1) (fun k env M2 => ∃ (ws : List D) (A : Mem) (y3 y4 x2 : Option D), env = [some (.ref i), some (.ref M.length), x2, y3, y4] ∧ M2 = A ++ [.lst ws] ∧ FdAt M i A ∧ (∀ d ∈ ws, isRow d) ∧ ws.length = k) (rngItems 0 v.toNat) 0 [some (.ref i), some (.ref M.length), none, none, none] (A1 ++ [.lst []])
    ⟨[], A1, none, none, none, rfl, rfl, h1, fun d hd => (by cases hd), rfl⟩ (by
      rintro k d env M2 hk ⟨ws, A, y3, y4, x2, rfl, rfl, hA, hw, hl⟩
      obtain ⟨rfl, hkv⟩ := rngItems_get hk
      obtain ⟨d, A', z3, z4, hd, hA', e⟩ := weather_turn hA ws (by omega) (0 + (k : Int)) y3 y4
      refine ⟨_, _, ?_, ws ++ [d], A', z3, z4, some (.int (0 + (k : Int))), rfl, rfl, hA', fun x hx => ?_, by rw [List.length_append, hl]; rfl⟩
      · show L_law_weather_1 [some (.ref i), some (.ref M.length), some (.int (0 + (k : Int))), y3, y4] (A ++ [.lst ws]) = _
        exact e
      · rcases List.mem_append.mp hx with hx | hx
        · exact hw x hx
        · rw [List.mem_singleton.mp hx]; exact hd)
  have hB : B_law_weather [some (.ref i), none, none, none, none] M = .ok (.rt (.tup ws)) (A2 ++ [.lst ws]) := by
    have ht : oTuple [.ref M.length] (A2 ++ [.lst ws]) = .ok (.tup ws) (A2 ++ [.lst ws]) := by
      simp only [oTuple, lstOf_at (show (A2 ++ [.lst ws])[M.length]? = some (.lst ws) from app_get0 h2.len)]
    simp -implicitDefEqProofs only [mSeq_eq, mIfS_eq, mSet_eq, mRet_eq, mRetN_eq, mExpr_eq, mPass_eq, mAsg_eq, mPar_eq, mAug_eq, bOf_eq, tOf_eq, tAndM_eq, tOrM_eq, tNotM_eq, tsYes_eq, mOp_eq, mUn_eq, mVar_eq, mC_eq, mCall_eq, mFun_eq, mFunKw_eq, mMeth_eq, mAnd_eq, mOr_eq, mNot_eq, mIf_eq, mChain_eq, mSl_eq, pNone_eq, pSome_eq, aCons_eq, aNil_eq, mTup_eq, mLst_eq, gN_eq, gT_eq, gsNil_eq, gsCons_eq, mkL_t, mkL_f, R.bind_ok, R.bind_no, R.nox_ok, List.getElem?_cons_zero, List.getElem?_cons_succ, List.set_cons_zero, List.set_cons_succ, List.length_cons, List.length_nil, List.append_nil, List.nil_append, List.cons_append, piApp_on, oLen_fz, oLen_lst, oLen_tup, oLt_int, oLe_int, oGt_int, oGe_int, oAdd_int, oSub_int, oIx_fz, oIx_lst, oIx_tup, oMax_int, oMin_int, oInt_bl, oInt_int, oIsi_bl, oNeg_int, oTuple_lst, oTuple_tup, iR1_eq, iR2_eq, iSq_eq, iStrM_eq, srcOf_tup, srcOf_lst, srcOf_fz, if_true, if_false, Bool.false_eq_true, Bool.true_eq_false, reduceIte, Nat.reduceAdd, Nat.reduceLeDiff, Nat.reduceEqDiff, decide_true, decide_false, and_self, and_true, true_and, B_law_weather, mFor_eq, e1, rngOk_of v0 (by omega), e2, ht]
  have hpl : PlL 1 ws := fun d hd => (hw d hd).pl
  obtain ⟨ps, hps, _⟩ := hpl.py
  have hfz : frzD (A2 ++ [.lst ws]) M.length (.tup ws) = .tup ws := by simp only [frzD, frzL_py _ _ _ _ hps]
  have hc : cutOk M (A2 ++ [.lst ws]) (frzD (A2 ++ [.lst ws]) M.length (.tup ws)) := by
    rw [hfz]
    obtain ⟨s, e⟩ := h2.at_
    rw [e]
    exact cut_set (d := .tup ws) (junk := [.lst ws]) (by simp only [bdD]; exact pyL_bd hps) rfl
  refine ⟨ws, A2, hw, ?_, h.trans h2, ?_⟩
  · rw [hl, rngItems_len]; omega
  · show gcR M (runB B_law_weather 5 [.ref i] M) = _
    rw [runB_rt (N := 5) hB, gcR, if_pos hc, hfz, List.take_append_of_le_length (by rw [h2.len]; omega), List.take_of_length_le (by rw [h2.len]; omega)]
/-- a letter: plain -/
def netF (W : D) (s : Int) (j : Nat) : List (Str × D) := [("weather", W), ("sent", .int s), ("coming", .ref j)]
section
variable (W : D) (s : Int) (j : Nat)
theorem ne1 : (("sent" : Str) == "weather") = false := by decide +kernel
theorem ne2 : (("coming" : Str) == "weather") = false := by decide +kernel
theorem ne3 : (("coming" : Str) == "sent") = false := by decide +kernel
theorem nw1 : ¬ (("weather" : Str) = "sent") := by decide +kernel
theorem nw2 : ¬ (("weather" : Str) = "coming") := by decide +kernel
theorem nw3 : ¬ (("sent" : Str) = "coming") := by decide +kernel
theorem lk_weather : (netF W s j).lookup ("weather" : Str) = some W := by simp only [netF, List.lookup, beq_self_eq_true]
theorem lk_sent : (netF W s j).lookup ("sent" : Str) = some (.int s) := by simp only [netF, List.lookup, ne1, beq_self_eq_true]
theorem lk_coming : (netF W s j).lookup ("coming" : Str) = some (.ref j) := by simp only [netF, List.lookup, ne2, ne3, beq_self_eq_true]
theorem put_sent (x : Int) : putD "sent" (.int x) (netF W s j) = netF W x j := by simp only [netF, putD, nw1, if_false, if_true]
theorem put_coming (x : Nat) : putD "coming" (.ref x) (netF W s j) = netF W s x := by simp only [netF, putD, nw2, nw3, if_false, if_true]
theorem lk_send : (netF W s j).lookup ("send" : Str) = none := by
  simp only [netF, List.lookup, show (("send" : Str) == "weather") = false by decide +kernel, show (("send" : Str) == "sent") = false by decide +kernel, show (("send" : Str) == "coming") = false by decide +kernel]
theorem lk_due : (netF W s j).lookup ("due" : Str) = none := by
  simp only [netF, List.lookup, show (("due" : Str) == "weather") = false by decide +kernel, show (("due" : Str) == "sent") = false by decide +kernel, show (("due" : Str) == "coming") = false by decide +kernel]
theorem lk_uw : (netF W s j).lookup ("under_way" : Str) = none := by
  simp only [netF, List.lookup, show (("under_way" : Str) == "weather") = false by decide +kernel, show (("under_way" : Str) == "sent") = false by decide +kernel, show (("under_way" : Str) == "coming") = false by decide +kernel]
theorem netF_len : (netF W s j).length = 3 := rfl
end
theorem k0 : (0 < 1000) = True := by simp
theorem k1 : (1 < 1000) = True := by simp
theorem k2 : (2 < 1000) = True := by simp
theorem k3 : (3 < 1000) = True := by simp
def rowD (r : List Int) : D := .tup (r.map .int)
def wthD (rs : List (List Int)) : D := .tup (rs.map rowD)
/-- the delays of the n-th letter -/
def dels (rs : List (List Int)) (n : Nat) : List Int := if rs.length = 0 then [1] else rs.getD (n % rs.length) []
def comD (ps : List (Int × D)) : List D := ps.map fun p => .tup [.int p.1, p.2]
theorem comD_len (ps : List (Int × D)) : (comD ps).length = ps.length := by simp [comD]
theorem comD_app (ps qs : List (Int × D)) : comD (ps ++ qs) = comD ps ++ comD qs := by simp [comD]
/-- a net at i: its weather, how many letters were sent, what is under way (at j) -/
structure NetAt (M : Mem) (i j : Nat) (rs : List (List Int)) (n : Nat) (ps : List (Int × D)) : Prop where
  net : M[i]? = some (.ins 0 (netF (wthD rs) n j))
  com : M[j]? = some (.lst (comD ps))
  ne : i ≠ j
theorem send_comp {P : Mem → Prop} {M : Mem} (hP : P M) (x0 x3 x4 : Option D) (lt : D) (t : Int) (r : List Int) : compL P (gN 4) tsYes C_Net_send_0 (wipeE [x0, some lt, some (.int t), x3, x4] [4]) (r.map .int) M = .ok (comD (r.map fun d => (t + d, lt))) M := by
  rw [compL_m hP (M := M) D.int (fun d => .tup [.int (t + d), lt]) r fun d _ => ⟨[x0, some lt, some (.int t), x3, some (.int d)], rfl, by simp -implicitDefEqProofs only [mSeq_eq, mIfS_eq, mSet_eq, mRet_eq, mRetN_eq, mExpr_eq, mPass_eq, mAsg_eq, mPar_eq, mAug_eq, bOf_eq, tOf_eq, tAndM_eq, tOrM_eq, tNotM_eq, tsYes_eq, mOp_eq, mUn_eq, mVar_eq, mC_eq, mCall_eq, mFun_eq, mFunKw_eq, mMeth_eq, mAnd_eq, mOr_eq, mNot_eq, mIf_eq, mChain_eq, mSl_eq, pNone_eq, pSome_eq, aCons_eq, aNil_eq, mTup_eq, mLst_eq, gN_eq, gT_eq, gsNil_eq, gsCons_eq, mkL_t, mkL_f, R.bind_ok, R.bind_no, R.nox_ok, List.getElem?_cons_zero, List.getElem?_cons_succ, List.set_cons_zero, List.set_cons_succ, List.length_cons, List.length_nil, List.append_nil, List.nil_append, List.cons_append, piApp_on, oLen_fz, oLen_lst, oLen_tup, oLt_int, oLe_int, oGt_int, oGe_int, oAdd_int, oSub_int, oIx_fz, oIx_lst, oIx_tup, oMax_int, oMin_int, oInt_bl, oInt_int, oIsi_bl, oNeg_int, oTuple_lst, oTuple_tup, iR1_eq, iR2_eq, iSq_eq, iStrM_eq, srcOf_tup, srcOf_lst, srcOf_fz, if_true, if_false, Bool.false_eq_true, Bool.true_eq_false, reduceIte, Nat.reduceAdd, Nat.reduceLeDiff, Nat.reduceEqDiff, decide_true, decide_false, and_self, and_true, true_and, C_Net_send_0]⟩]
  simp [comD]
theorem dels_get {rs : List (List Int)} (h : ¬ rs.length = 0) (n : Nat) : oIx (wthD rs) (.int ((n : Int) % (rs.length : Int))) M = .ok (rowD (dels rs n)) M := by
  have hk : ((n : Int) % (rs.length : Int)) = ((n % rs.length : Nat) : Int) := by simp
  have hl : n % rs.length < rs.length := Nat.mod_lt _ (by omega)
  have hat : atI (rs.map rowD) ((n % rs.length : Nat) : Int) = some (rowD (dels rs n)) := atI_nat (by
    rw [List.getElem?_map, List.getElem?_eq_getElem hl, dels, if_neg h]
    simp [List.getD, List.getElem?_eq_getElem hl])
  rw [hk]
  unfold wthD
  rw [oIx_tup, hat]
theorem wth_len (rs : List (List Int)) {M : Mem} : oLen [wthD rs] M = .ok (.int rs.length) M := by
  unfold wthD
  rw [oLen_tup, List.length_map]
theorem dels_len {rs : List (List Int)} (hr : ∀ r ∈ rs, r.length ≤ 6) (n : Nat) : (dels rs n).length ≤ 6 := by
  unfold dels
  split
  · simp
  · rename_i h
    have hl : n % rs.length < rs.length := Nat.mod_lt _ (by omega)
    rw [List.getD, List.getElem?_eq_getElem hl]
    exact hr _ (List.getElem_mem hl)
theorem dels_mem {rs : List (List Int)} (hr : ∀ r ∈ rs, ∀ t ∈ r, 1 ≤ t ∧ t ≤ 4) (n : Nat) : ∀ t ∈ dels rs n, 1 ≤ t ∧ t ≤ 4 := by
  unfold dels
  split
  · intro t ht
    rw [List.mem_singleton.mp ht]; omega
  · rename_i h
    have hl : n % rs.length < rs.length := Nat.mod_lt _ (by omega)
    rw [List.getD, List.getElem?_eq_getElem hl]
    exact hr _ (List.getElem_mem hl)
theorem srcOf_row {M : Mem} (r : List Int) : srcOf M (rowD r) = some ⟨r.map .int, fun _ => True⟩ := rfl
theorem send_eq {M : Mem} {i j n : Nat} {rs : List (List Int)} {ps : List (Int × D)} (h : NetAt M i j rs n ps) (hr : ∀ r ∈ rs, r.length ≤ 6) (hp : ps.length < 1000000) (lt : D) (t : Int) :
    g_Net_send [.ref i, lt, .int t] M = .ok .non ((M.set i (.ins 0 (netF (wthD rs) (n + 1 : Nat) j))).set j (.lst (comD (ps ++ (dels rs n).map fun d => (t + d, lt))))) := by
  refine runB_nx (N := 5) (env := [some (.ref i), some lt, some (.int t), some (rowD (dels rs n)), none]) ?_
  have hM := insOf_at h.net
  have hi : i < M.length := (List.getElem?_eq_some_iff.mp h.net).1
  have hM2 : (M.set i (.ins 0 (netF (wthD rs) (n + 1 : Nat) j)))[i]? = some (.ins 0 (netF (wthD rs) (n + 1 : Nat) j)) := List.getElem?_set_self hi
  have hj2 : (M.set i (.ins 0 (netF (wthD rs) (n + 1 : Nat) j)))[j]? = some (.lst (comD ps)) := by rw [List.getElem?_set_ne h.ne]; exact h.com
  have hl6 := dels_len hr n
  have hlen : ((dels rs n).map D.int).length < 16777216 := by rw [List.length_map]; omega
  have hcomp := send_comp (P := fun _ => True) (M := M.set i (.ins 0 (netF (wthD rs) (n + 1 : Nat) j))) trivial (some (.ref i)) (some (rowD (dels rs n))) none lt t (dels rs n)
  have hext : oExtend (.ref j) [.lst (comD ((dels rs n).map fun d => (t + d, lt)))] (M.set i (.ins 0 (netF (wthD rs) (n + 1 : Nat) j))) = .ok .non ((M.set i (.ins 0 (netF (wthD rs) (n + 1 : Nat) j))).set j (.lst (comD (ps ++ (dels rs n).map fun d => (t + d, lt))))) := by
    rw [comD_app]
    exact oExtend_at hj2 rfl (by rw [comD_len, comD_len, List.length_map]; omega)
  have hcast : ((n : Int) + 1) = ((n + 1 : Nat) : Int) := by simp
  show B_Net_send [some (.ref i), some lt, some (.int t), none, none] M = _
  by_cases h0 : rs.length = 0
  · have hd : decide ((0 : Int) < (rs.length : Int)) = false := decide_eq_false (by omega)
    have e1 : D.tup [D.int 1] = rowD (dels rs n) := by unfold dels; rw [if_pos h0]; rfl
    simp -implicitDefEqProofs only [mSeq_eq, mIfS_eq, mSet_eq, mRet_eq, mRetN_eq, mExpr_eq, mPass_eq, mAsg_eq, mPar_eq, mAug_eq, bOf_eq, tOf_eq, tAndM_eq, tOrM_eq, tNotM_eq, tsYes_eq, mOp_eq, mUn_eq, mVar_eq, mC_eq, mCall_eq, mFun_eq, mFunKw_eq, mMeth_eq, mAnd_eq, mOr_eq, mNot_eq, mIf_eq, mChain_eq, mSl_eq, pNone_eq, pSome_eq, aCons_eq, aNil_eq, mTup_eq, mLst_eq, gN_eq, gT_eq, gsNil_eq, gsCons_eq, mkL_t, mkL_f, R.bind_ok, R.bind_no, R.nox_ok, List.getElem?_cons_zero, List.getElem?_cons_succ, List.set_cons_zero, List.set_cons_succ, List.length_cons, List.length_nil, List.append_nil, List.nil_append, List.cons_append, piApp_on, oLen_fz, oLen_lst, oLen_tup, oLt_int, oLe_int, oGt_int, oGe_int, oAdd_int, oSub_int, oIx_fz, oIx_lst, oIx_tup, oMax_int, oMin_int, oInt_bl, oInt_int, oIsi_bl, oNeg_int, oTuple_lst, oTuple_tup, iR1_eq, iR2_eq, iSq_eq, iStrM_eq, srcOf_tup, srcOf_lst, srcOf_fz, if_true, if_false, Bool.false_eq_true, Bool.true_eq_false, reduceIte, Nat.reduceAdd, Nat.reduceLeDiff, Nat.reduceEqDiff, decide_true, decide_false, and_self, and_true, true_and, B_Net_send, mFld_eq, mFldAug_eq, hM, lk_weather, lk_sent, wth_len, hd, netF_len, put_sent, hcast, insOf_at hM2, lk_coming, e1, tyOk_at hj2, mLc_eq, srcOf_row, hlen, k3, hcomp, hext]
  · have hd : decide ((0 : Int) < (rs.length : Int)) = true := decide_eq_true (by omega)
    simp -implicitDefEqProofs only [mSeq_eq, mIfS_eq, mSet_eq, mRet_eq, mRetN_eq, mExpr_eq, mPass_eq, mAsg_eq, mPar_eq, mAug_eq, bOf_eq, tOf_eq, tAndM_eq, tOrM_eq, tNotM_eq, tsYes_eq, mOp_eq, mUn_eq, mVar_eq, mC_eq, mCall_eq, mFun_eq, mFunKw_eq, mMeth_eq, mAnd_eq, mOr_eq, mNot_eq, mIf_eq, mChain_eq, mSl_eq, pNone_eq, pSome_eq, aCons_eq, aNil_eq, mTup_eq, mLst_eq, gN_eq, gT_eq, gsNil_eq, gsCons_eq, mkL_t, mkL_f, R.bind_ok, R.bind_no, R.nox_ok, List.getElem?_cons_zero, List.getElem?_cons_succ, List.set_cons_zero, List.set_cons_succ, List.length_cons, List.length_nil, List.append_nil, List.nil_append, List.cons_append, piApp_on, oLen_fz, oLen_lst, oLen_tup, oLt_int, oLe_int, oGt_int, oGe_int, oAdd_int, oSub_int, oIx_fz, oIx_lst, oIx_tup, oMax_int, oMin_int, oInt_bl, oInt_int, oIsi_bl, oNeg_int, oTuple_lst, oTuple_tup, iR1_eq, iR2_eq, iSq_eq, iStrM_eq, srcOf_tup, srcOf_lst, srcOf_fz, if_true, if_false, Bool.false_eq_true, Bool.true_eq_false, reduceIte, Nat.reduceAdd, Nat.reduceLeDiff, Nat.reduceEqDiff, decide_true, decide_false, and_self, and_true, true_and, B_Net_send, mFld_eq, mFldAug_eq, hM, lk_weather, lk_sent, wth_len, hd, oMod_int _ (rs.length : Int) (by omega), dels_get h0, netF_len, put_sent, hcast, insOf_at hM2, lk_coming, tyOk_at hj2, mLc_eq, srcOf_row, hlen, k3, hcomp, hext]
def fnd (ps : List (Int × D)) (t : Int) : List D := (ps.filter fun p => decide (p.1 ≤ t)).map (·.2)
def rst (ps : List (Int × D)) (t : Int) : List (Int × D) := ps.filter fun p => decide (t < p.1)
theorem due_eq {M : Mem} {i j n : Nat} {rs : List (List Int)} {ps : List (Int × D)} (h : NetAt M i j rs n ps) (hp : ps.length < 1000000) (t : Int) :
    g_Net_due [.ref i, .int t] M = .ok (.lst (fnd ps t)) ((M ++ [Cell.lst (comD (rst ps t))]).set i (.ins 0 (netF (wthD rs) n M.length))) := by
  refine runB_rt (N := 5) ?_
  have hi : i < M.length := (List.getElem?_eq_some_iff.mp h.net).1
  have hlen : (comD ps).length < 16777216 := by rw [comD_len]; omega
  have hs1 : srcOf M (.ref j) = some ⟨comD ps, fun M' => M'[j]? = some (.lst (comD ps))⟩ := by simp only [srcOf, h.com]
  have hi2 : (M ++ [Cell.lst (comD (rst ps t))])[i]? = some (.ins 0 (netF (wthD rs) n j)) := by rw [List.getElem?_append_left hi]; exact h.net
  have c1 : ∀ (x2 x3 x4 : Option D), compL (fun M' => M'[j]? = some (.lst (comD ps))) (gT 2 (gsCons (gN 3) (gsCons (gN 4) gsNil))) T_Net_due_0 C_Net_due_1 (wipeE [some (.ref i), some (.int t), x2, x3, x4] [3, 4]) (comD ps) M = .ok (fnd ps t) M := fun x2 x3 x4 =>
    compL_fm (M := M) h.com (fun p : Int × D => D.tup [.int p.1, p.2]) (fun p => decide (p.1 ≤ t)) (fun p => p.2) ps fun p _ => ⟨[some (.ref i), some (.int t), x2, some (.int p.1), some p.2], rfl, by simp -implicitDefEqProofs only [mSeq_eq, mIfS_eq, mSet_eq, mRet_eq, mRetN_eq, mExpr_eq, mPass_eq, mAsg_eq, mPar_eq, mAug_eq, bOf_eq, tOf_eq, tAndM_eq, tOrM_eq, tNotM_eq, tsYes_eq, mOp_eq, mUn_eq, mVar_eq, mC_eq, mCall_eq, mFun_eq, mFunKw_eq, mMeth_eq, mAnd_eq, mOr_eq, mNot_eq, mIf_eq, mChain_eq, mSl_eq, pNone_eq, pSome_eq, aCons_eq, aNil_eq, mTup_eq, mLst_eq, gN_eq, gT_eq, gsNil_eq, gsCons_eq, mkL_t, mkL_f, R.bind_ok, R.bind_no, R.nox_ok, List.getElem?_cons_zero, List.getElem?_cons_succ, List.set_cons_zero, List.set_cons_succ, List.length_cons, List.length_nil, List.append_nil, List.nil_append, List.cons_append, piApp_on, oLen_fz, oLen_lst, oLen_tup, oLt_int, oLe_int, oGt_int, oGe_int, oAdd_int, oSub_int, oIx_fz, oIx_lst, oIx_tup, oMax_int, oMin_int, oInt_bl, oInt_int, oIsi_bl, oNeg_int, oTuple_lst, oTuple_tup, iR1_eq, iR2_eq, iSq_eq, iStrM_eq, srcOf_tup, srcOf_lst, srcOf_fz, if_true, if_false, Bool.false_eq_true, Bool.true_eq_false, reduceIte, Nat.reduceAdd, Nat.reduceLeDiff, Nat.reduceEqDiff, decide_true, decide_false, and_self, and_true, true_and, T_Net_due_0], fun _ => by simp -implicitDefEqProofs only [mSeq_eq, mIfS_eq, mSet_eq, mRet_eq, mRetN_eq, mExpr_eq, mPass_eq, mAsg_eq, mPar_eq, mAug_eq, bOf_eq, tOf_eq, tAndM_eq, tOrM_eq, tNotM_eq, tsYes_eq, mOp_eq, mUn_eq, mVar_eq, mC_eq, mCall_eq, mFun_eq, mFunKw_eq, mMeth_eq, mAnd_eq, mOr_eq, mNot_eq, mIf_eq, mChain_eq, mSl_eq, pNone_eq, pSome_eq, aCons_eq, aNil_eq, mTup_eq, mLst_eq, gN_eq, gT_eq, gsNil_eq, gsCons_eq, mkL_t, mkL_f, R.bind_ok, R.bind_no, R.nox_ok, List.getElem?_cons_zero, List.getElem?_cons_succ, List.set_cons_zero, List.set_cons_succ, List.length_cons, List.length_nil, List.append_nil, List.nil_append, List.cons_append, piApp_on, oLen_fz, oLen_lst, oLen_tup, oLt_int, oLe_int, oGt_int, oGe_int, oAdd_int, oSub_int, oIx_fz, oIx_lst, oIx_tup, oMax_int, oMin_int, oInt_bl, oInt_int, oIsi_bl, oNeg_int, oTuple_lst, oTuple_tup, iR1_eq, iR2_eq, iSq_eq, iStrM_eq, srcOf_tup, srcOf_lst, srcOf_fz, if_true, if_false, Bool.false_eq_true, Bool.true_eq_false, reduceIte, Nat.reduceAdd, Nat.reduceLeDiff, Nat.reduceEqDiff, decide_true, decide_false, and_self, and_true, true_and, C_Net_due_1]⟩
  have c2 : ∀ (x2 x3 x4 : Option D), compL (fun M' => M'[j]? = some (.lst (comD ps))) (gT 2 (gsCons (gN 3) (gsCons (gN 4) gsNil))) T_Net_due_2 C_Net_due_3 (wipeE [some (.ref i), some (.int t), x2, x3, x4] [3, 4]) (comD ps) M = .ok (comD (rst ps t)) M := fun x2 x3 x4 =>
    compL_fm (M := M) h.com (fun p : Int × D => D.tup [.int p.1, p.2]) (fun p => decide (t < p.1)) (fun p => .tup [.int p.1, p.2]) ps fun p _ => ⟨[some (.ref i), some (.int t), x2, some (.int p.1), some p.2], rfl, by simp -implicitDefEqProofs only [mSeq_eq, mIfS_eq, mSet_eq, mRet_eq, mRetN_eq, mExpr_eq, mPass_eq, mAsg_eq, mPar_eq, mAug_eq, bOf_eq, tOf_eq, tAndM_eq, tOrM_eq, tNotM_eq, tsYes_eq, mOp_eq, mUn_eq, mVar_eq, mC_eq, mCall_eq, mFun_eq, mFunKw_eq, mMeth_eq, mAnd_eq, mOr_eq, mNot_eq, mIf_eq, mChain_eq, mSl_eq, pNone_eq, pSome_eq, aCons_eq, aNil_eq, mTup_eq, mLst_eq, gN_eq, gT_eq, gsNil_eq, gsCons_eq, mkL_t, mkL_f, R.bind_ok, R.bind_no, R.nox_ok, List.getElem?_cons_zero, List.getElem?_cons_succ, List.set_cons_zero, List.set_cons_succ, List.length_cons, List.length_nil, List.append_nil, List.nil_append, List.cons_append, piApp_on, oLen_fz, oLen_lst, oLen_tup, oLt_int, oLe_int, oGt_int, oGe_int, oAdd_int, oSub_int, oIx_fz, oIx_lst, oIx_tup, oMax_int, oMin_int, oInt_bl, oInt_int, oIsi_bl, oNeg_int, oTuple_lst, oTuple_tup, iR1_eq, iR2_eq, iSq_eq, iStrM_eq, srcOf_tup, srcOf_lst, srcOf_fz, if_true, if_false, Bool.false_eq_true, Bool.true_eq_false, reduceIte, Nat.reduceAdd, Nat.reduceLeDiff, Nat.reduceEqDiff, decide_true, decide_false, and_self, and_true, true_and, T_Net_due_2], fun _ => by simp -implicitDefEqProofs only [mSeq_eq, mIfS_eq, mSet_eq, mRet_eq, mRetN_eq, mExpr_eq, mPass_eq, mAsg_eq, mPar_eq, mAug_eq, bOf_eq, tOf_eq, tAndM_eq, tOrM_eq, tNotM_eq, tsYes_eq, mOp_eq, mUn_eq, mVar_eq, mC_eq, mCall_eq, mFun_eq, mFunKw_eq, mMeth_eq, mAnd_eq, mOr_eq, mNot_eq, mIf_eq, mChain_eq, mSl_eq, pNone_eq, pSome_eq, aCons_eq, aNil_eq, mTup_eq, mLst_eq, gN_eq, gT_eq, gsNil_eq, gsCons_eq, mkL_t, mkL_f, R.bind_ok, R.bind_no, R.nox_ok, List.getElem?_cons_zero, List.getElem?_cons_succ, List.set_cons_zero, List.set_cons_succ, List.length_cons, List.length_nil, List.append_nil, List.nil_append, List.cons_append, piApp_on, oLen_fz, oLen_lst, oLen_tup, oLt_int, oLe_int, oGt_int, oGe_int, oAdd_int, oSub_int, oIx_fz, oIx_lst, oIx_tup, oMax_int, oMin_int, oInt_bl, oInt_int, oIsi_bl, oNeg_int, oTuple_lst, oTuple_tup, iR1_eq, iR2_eq, iSq_eq, iStrM_eq, srcOf_tup, srcOf_lst, srcOf_fz, if_true, if_false, Bool.false_eq_true, Bool.true_eq_false, reduceIte, Nat.reduceAdd, Nat.reduceLeDiff, Nat.reduceEqDiff, decide_true, decide_false, and_self, and_true, true_and, C_Net_due_3]⟩
  show B_Net_due [some (.ref i), some (.int t), none, none, none] M = _
  simp -implicitDefEqProofs only [mSeq_eq, mIfS_eq, mSet_eq, mRet_eq, mRetN_eq, mExpr_eq, mPass_eq, mAsg_eq, mPar_eq, mAug_eq, bOf_eq, tOf_eq, tAndM_eq, tOrM_eq, tNotM_eq, tsYes_eq, mOp_eq, mUn_eq, mVar_eq, mC_eq, mCall_eq, mFun_eq, mFunKw_eq, mMeth_eq, mAnd_eq, mOr_eq, mNot_eq, mIf_eq, mChain_eq, mSl_eq, pNone_eq, pSome_eq, aCons_eq, aNil_eq, mTup_eq, mLst_eq, gN_eq, gT_eq, gsNil_eq, gsCons_eq, mkL_t, mkL_f, R.bind_ok, R.bind_no, R.nox_ok, List.getElem?_cons_zero, List.getElem?_cons_succ, List.set_cons_zero, List.set_cons_succ, List.length_cons, List.length_nil, List.append_nil, List.nil_append, List.cons_append, piApp_on, oLen_fz, oLen_lst, oLen_tup, oLt_int, oLe_int, oGt_int, oGe_int, oAdd_int, oSub_int, oIx_fz, oIx_lst, oIx_tup, oMax_int, oMin_int, oInt_bl, oInt_int, oIsi_bl, oNeg_int, oTuple_lst, oTuple_tup, iR1_eq, iR2_eq, iSq_eq, iStrM_eq, srcOf_tup, srcOf_lst, srcOf_fz, if_true, if_false, Bool.false_eq_true, Bool.true_eq_false, reduceIte, Nat.reduceAdd, Nat.reduceLeDiff, Nat.reduceEqDiff, decide_true, decide_false, and_self, and_true, true_and, B_Net_due, mFld_eq, mFldSet_eq, insOf_at h.net, lk_coming, hs1, mLc_eq, hlen, c1, c2, insOf_at hi2, netF_len, put_coming, k3]
theorem init_eq (M : Mem) (W : D) : g_Net___init__ [.ref M.length, W] (M ++ [.ins 0 []]) = .ok .non (M ++ [.ins 0 (netF W 0 (M.length + 1)), .lst []]) := by
  have hg : ∀ {c : Cell} {B : Mem}, (M ++ c :: B)[M.length]? = some c := fun {c B} => app_get0 rfl
  have hs : ∀ {c d : Cell} {B : Mem}, (M ++ c :: B).set M.length d = M ++ d :: B := fun {c d B} => app_set0 rfl
  have e1 : putD "weather" W [] = ([("weather", W)] : List (Str × D)) := rfl
  have e2 : putD "sent" (.int 0) ([("weather", W)] : List (Str × D)) = ([("weather", W), ("sent", .int 0)] : List (Str × D)) := by simp only [putD, nw1, if_false]
  have e3 : putD "coming" (.ref (M.length + 1)) ([("weather", W), ("sent", .int 0)] : List (Str × D)) = netF W 0 (M.length + 1) := by simp only [putD, netF, nw2, nw3, if_false]
  show runB B_Net___init__ 2 _ _ = _
  refine runB_nx (N := 2) (env := [some (.ref M.length), some W]) ?_
  show B_Net___init__ [some (.ref M.length), some W] (M ++ [.ins 0 []]) = _
  simp -implicitDefEqProofs only [mSeq_eq, mIfS_eq, mSet_eq, mRet_eq, mRetN_eq, mExpr_eq, mPass_eq, mAsg_eq, mPar_eq, mAug_eq, bOf_eq, tOf_eq, tAndM_eq, tOrM_eq, tNotM_eq, tsYes_eq, mOp_eq, mUn_eq, mVar_eq, mC_eq, mCall_eq, mFun_eq, mFunKw_eq, mMeth_eq, mAnd_eq, mOr_eq, mNot_eq, mIf_eq, mChain_eq, mSl_eq, pNone_eq, pSome_eq, aCons_eq, aNil_eq, mTup_eq, mLst_eq, gN_eq, gT_eq, gsNil_eq, gsCons_eq, mkL_t, mkL_f, R.bind_ok, R.bind_no, R.nox_ok, List.getElem?_cons_zero, List.getElem?_cons_succ, List.set_cons_zero, List.set_cons_succ, List.length_cons, List.length_nil, List.append_nil, List.nil_append, List.cons_append, piApp_on, oLen_fz, oLen_lst, oLen_tup, oLt_int, oLe_int, oGt_int, oGe_int, oAdd_int, oSub_int, oIx_fz, oIx_lst, oIx_tup, oMax_int, oMin_int, oInt_bl, oInt_int, oIsi_bl, oNeg_int, oTuple_lst, oTuple_tup, iR1_eq, iR2_eq, iSq_eq, iStrM_eq, srcOf_tup, srcOf_lst, srcOf_fz, if_true, if_false, Bool.false_eq_true, Bool.true_eq_false, reduceIte, Nat.reduceAdd, Nat.reduceLeDiff, Nat.reduceEqDiff, decide_true, decide_false, and_self, and_true, true_and, B_Net___init__, mFldSet_eq, insOf_at hg, hs, e1, e2, e3, List.length_append, List.append_assoc, k0, k1, k2]
theorem rows_of : ∀ {ws : List D}, (∀ d ∈ ws, isRow d) → ∃ rs : List (List Int), ws = rs.map rowD ∧ (∀ r ∈ rs, r.length ≤ 6) ∧ ∀ r ∈ rs, ∀ t ∈ r, 1 ≤ t ∧ t ≤ 4
  | [], _ => ⟨[], rfl, fun _ h => (by cases h), fun _ h => (by cases h)⟩
  | d :: r, h => by
    obtain ⟨x, rfl, h1, h2⟩ := h d (List.mem_cons_self ..)
    obtain ⟨rs, rfl, h3, h4⟩ := rows_of (ws := r) fun d hd => h d (List.mem_cons_of_mem _ hd)
    refine ⟨x :: rs, rfl, fun y hy => ?_, fun y hy => ?_⟩
    · rcases List.mem_cons.mp hy with rfl | hy
      · exact h1
      · exact h3 y hy
    · rcases List.mem_cons.mp hy with rfl | hy
      · exact h2
      · exact h4 y hy
/-! ### in a list of exact data -/
open Classical in
theorem any_ex : ∀ {l : List D} {ps : List PyData} {a : D} {p : PyData}, exL l = true → exD a = true → pyL l = some ps → pyD a = some p → (ps.any fun z => PyData.eqv z p) = decide (a ∈ l)
  | [], ps, a, p, _, _, h, _ => by cases h; simp
  | d :: r, ps, a, p, hl, ha, h, hp => by
    simp only [exL, Bool.and_eq_true] at hl
    simp only [pyL] at h
    split at h
    · rename_i x xs k1 k2
      cases h
      have h1 := eqv_ex d a x p hl.1 ha k1 hp
      have h2 := any_ex (a := a) (p := p) hl.2 ha k2 hp
      rw [List.any_cons, h2, Bool.eq_iff_iff]
      simp only [Bool.or_eq_true, decide_eq_true_eq, h1, List.mem_cons]
      constructor
      · rintro (h | h)
        · exact .inl h.symm
        · exact .inr h
      · rintro (h | h)
        · exact .inl h.symm
        · exact .inr h
    · cases h
open Classical in
theorem oInD_cell {neg : Bool} {a : D} {b : Nat} {l : List D} {M : Mem} (hb : M[b]? = some (.lst l)) (hl : exL l = true) (ha : exD a = true) (hd : dpD a ≤ 60) : oInD neg a (.ref b) M = .ok (.bl (neg != decide (a ∈ l))) M := by
  obtain ⟨p, p1, p2⟩ := ex_py a ha
  obtain ⟨ps, q1, q2⟩ := ex_pyL l hl
  have k1 : pyM M a = some p := pyGo_of p1
  have k2 : pyM M (.ref b) = some (.list ps) := by
    show kN M 4 b = _
    simp only [kN, hb, pyGoL_of q1, Option.map_some]
  simp only [oInD, k1, k2]
  rw [if_pos (by omega), any_ex hl ha q1 p1]
  cases neg <;> simp
/-! ### k30: the state -/
/-- a letter under way: when it comes, of which grant, given, stamp -/
structure Lt where
  t : Int
  q : Nat
  g : Int
  s : Int
structure Fix where
  n0 : List Nat
  n1 : List Nat
  w0 : Wr
  w1 : Wr
def Fix.w (X : Fix) (q : Nat) : Wr := if q = 0 then X.w0 else X.w1
def Fix.lt (X : Fix) (e : Lt) : D := .tup [.str X.n0, .str X.n1, .tup [.int e.q, (X.w e.q).full e.g e.s]]
def Fix.ps (X : Fix) (L : List Lt) : List (Int × D) := L.map fun e => (e.t, X.lt e)
/-- what came -/
def Fix.cD (X : Fix) (e : Lt) : D := .tup [.int e.q, (X.w e.q).full e.g e.s]
def keptQ (q : Nat) (C : List Lt) : GS := keptV ((C.filter fun e => decide (e.q = q)).map fun e => some (e.g, e.s))
theorem keptQ_snoc_same (C : List Lt) (e : Lt) : keptQ e.q (C ++ [e]) = laterV (keptQ e.q C) (some (e.g, e.s)) := by
  unfold keptQ keptV
  simp
theorem keptQ_snoc_other (q : Nat) (C : List Lt) (e : Lt) (h : e.q ≠ q) : keptQ q (C ++ [e]) = keptQ q C := by
  unfold keptQ keptV
  simp [h]
structure Sk (X : Fix) (M : Mem) (f i j a b : Nat) (rs : List (List Int)) (n : Nat) (L C : List Lt) : Prop where
  fd : ∃ s : Fd, M[f]? = some s.c
  net : NetAt M i j rs n (X.ps L)
  kp : M[a]? = some (.lst [wo X.w0 (keptQ 0 C), wo X.w1 (keptQ 1 C)])
  cm : M[b]? = some (.lst (C.map X.cD))
  fi : f ≠ i
  fj : f ≠ j
  fa : f ≠ a
  fb : f ≠ b
  ia : i ≠ a
  ib : i ≠ b
  ja : j ≠ a
  jb : j ≠ b
  ab : a ≠ b
theorem Sk.lt {X : Fix} {M : Mem} {f i j a b : Nat} {rs : List (List Int)} {n : Nat} {L C : List Lt} (h : Sk X M f i j a b rs n L C) : f < M.length ∧ i < M.length ∧ j < M.length ∧ a < M.length ∧ b < M.length := by
  obtain ⟨s, hs⟩ := h.fd
  exact ⟨(List.getElem?_eq_some_iff.mp hs).1, (List.getElem?_eq_some_iff.mp h.net.net).1, (List.getElem?_eq_some_iff.mp h.net.com).1, (List.getElem?_eq_some_iff.mp h.kp).1, (List.getElem?_eq_some_iff.mp h.cm).1⟩
theorem Sk.draw {X : Fix} {M : Mem} {f i j a b : Nat} {rs : List (List Int)} {n : Nat} {L C : List Lt} (h : Sk X M f i j a b rs n L C) (many : Int) (h0 : 0 < many) (h1 : many < 1000000000000000000000000) : ∃ (v : Nat) (M' : Mem), (v : Int) < many ∧ Sk X M' f i j a b rs n L C ∧ M'.length = M.length ∧ g_law_draw [.ref f, .int many] M = .ok (.int v) M' := by
  obtain ⟨s, hs⟩ := h.fd
  have hf : FdAt M f M := FdAt.start hs
  obtain ⟨v, M', hv, hM, e⟩ := draw_eq hf many h0 h1
  obtain ⟨s', hs', _⟩ := hM.get
  exact ⟨v, M', hv, ⟨⟨s', hs'⟩, ⟨by rw [hM.other h.fi]; exact h.net.net, by rw [hM.other h.fj]; exact h.net.com, h.net.ne⟩, by rw [hM.other h.fa]; exact h.kp, by rw [hM.other h.fb]; exact h.cm, h.fi, h.fj, h.fa, h.fb, h.ia, h.ib, h.ja, h.jb, h.ab⟩, hM.len, e⟩
/-- a new feed -/
theorem Sk.feed {X : Fix} {M : Mem} {f i j a b : Nat} {rs : List (List Int)} {n : Nat} {L C : List Lt} (h : Sk X M f i j a b rs n L C) (ns : List Int) (k : Nat) : ∃ M', Sk X M' M.length i j a b rs n L C ∧ g_law_feed [.fz (intsD ns), .int k] M = .ok (.ref M.length) M' := by
  obtain ⟨s, e⟩ := feed_eq ns k M
  obtain ⟨l1, l2, l3, l4, l5⟩ := h.lt
  exact ⟨_, ⟨⟨s, by simp⟩, ⟨by rw [List.getElem?_append_left l2]; exact h.net.net, by rw [List.getElem?_append_left l3]; exact h.net.com, h.net.ne⟩, by rw [List.getElem?_append_left l4]; exact h.kp, by rw [List.getElem?_append_left l5]; exact h.cm, by omega, by omega, by omega, by omega, h.ia, h.ib, h.ja, h.jb, h.ab⟩, e⟩
theorem ps_fnd (X : Fix) (L : List Lt) (t : Int) : fnd (X.ps L) t = (L.filter fun e => decide (e.t ≤ t)).map X.lt := by
  unfold fnd Fix.ps
  rw [List.filter_map, List.map_map]
  rfl
theorem ps_rst (X : Fix) (L : List Lt) (t : Int) : rst (X.ps L) t = X.ps (L.filter fun e => decide (t < e.t)) := by
  unfold rst Fix.ps
  rw [List.filter_map]
  rfl
theorem Sk.due {X : Fix} {M : Mem} {f i j a b : Nat} {rs : List (List Int)} {n : Nat} {L C : List Lt} (h : Sk X M f i j a b rs n L C) (hL : L.length < 1000000) (t : Int) : ∃ M', Sk X M' f i M.length a b rs n (L.filter fun e => decide (t < e.t)) C ∧ g_Net_due [.ref i, .int t] M = .ok (.lst ((L.filter fun e => decide (e.t ≤ t)).map X.lt)) M' := by
  have e := due_eq h.net (by unfold Fix.ps; rw [List.length_map]; exact hL) t
  rw [ps_fnd, ps_rst] at e
  obtain ⟨l1, l2, l3, l4, l5⟩ := h.lt
  obtain ⟨s, hs⟩ := h.fd
  have := h.fi; have := h.fj; have := h.ia; have := h.ib
  refine ⟨_, ⟨⟨s, ?_⟩, ⟨?_, ?_, by omega⟩, ?_, ?_, h.fi, by omega, h.fa, h.fb, h.ia, h.ib, by omega, by omega, h.ab⟩, e⟩
  · rw [List.getElem?_set_ne (by omega), List.getElem?_append_left l1]; exact hs
  · rw [List.getElem?_set_self (by simp; omega)]
  · rw [List.getElem?_set_ne (by omega)]; simp
  · rw [List.getElem?_set_ne (by omega), List.getElem?_append_left l4]; exact h.kp
  · rw [List.getElem?_set_ne (by omega), List.getElem?_append_left l5]; exact h.cm
theorem ps_app (X : Fix) (L : List Lt) (q : Nat) (g s : Int) (t : Int) (r : List Int) : X.ps L ++ r.map (fun d => (t + d, D.tup [.str X.n0, .str X.n1, .tup [.int q, (X.w q).full g s]])) = X.ps (L ++ r.map fun d => ⟨t + d, q, g, s⟩) := by
  unfold Fix.ps
  rw [List.map_append, List.map_map]
  rfl
theorem Sk.send {X : Fix} {M : Mem} {f i j a b : Nat} {rs : List (List Int)} {n : Nat} {L C : List Lt} (h : Sk X M f i j a b rs n L C) (hr : ∀ r ∈ rs, r.length ≤ 6) (hL : L.length < 1000000) (q : Nat) (g s t : Int) : ∃ M', Sk X M' f i j a b rs (n + 1) (L ++ (dels rs n).map fun d => ⟨t + d, q, g, s⟩) C ∧ g_Net_send [.ref i, .tup [.str X.n0, .str X.n1, .tup [.int q, (X.w q).full g s]], .int t] M = .ok .non M' := by
  have e := send_eq h.net hr (by unfold Fix.ps; rw [List.length_map]; exact hL) (.tup [.str X.n0, .str X.n1, .tup [.int q, (X.w q).full g s]]) t
  rw [ps_app] at e
  obtain ⟨l1, l2, l3, l4, l5⟩ := h.lt
  obtain ⟨s', hs⟩ := h.fd
  have n1 := h.fi; have n2 := h.fj; have n3 := h.ia; have n4 := h.ib; have n5 := h.ja; have n6 := h.jb; have n7 := h.net.ne
  refine ⟨_, ⟨⟨s', ?_⟩, ⟨?_, ?_, h.net.ne⟩, ?_, ?_, h.fi, h.fj, h.fa, h.fb, h.ia, h.ib, h.ja, h.jb, h.ab⟩, e⟩
  · rw [List.getElem?_set_ne (by omega), List.getElem?_set_ne (by omega)]; exact hs
  · rw [List.getElem?_set_ne (by omega), List.getElem?_set_self l2]
  · rw [List.getElem?_set_self (by simp; omega)]
  · rw [List.getElem?_set_ne (by omega), List.getElem?_set_ne (by omega)]; exact h.kp
  · rw [List.getElem?_set_ne (by omega), List.getElem?_set_ne (by omega)]; exact h.cm
/-- one came -/
theorem Sk.come {X : Fix} {M : Mem} {f i j a b : Nat} {rs : List (List Int)} {n : Nat} {L C : List Lt} (h : Sk X M f i j a b rs n L C) (e : Lt) : M[b]? = some (.lst (C.map X.cD)) ∧
    ∀ (s : Fd), Sk X ((((M.set b (.lst ((C ++ [e]).map X.cD))).set f s.c).set a (.lst [wo X.w0 (keptQ 0 (C ++ [e])), wo X.w1 (keptQ 1 (C ++ [e]))]))) f i j a b rs n L (C ++ [e]) := by
  obtain ⟨l1, l2, l3, l4, l5⟩ := h.lt
  have n1 := h.fi; have n2 := h.fj; have n3 := h.ia; have n4 := h.ib; have n5 := h.ja; have n6 := h.jb; have n7 := h.fa; have n8 := h.fb; have n9 := h.ab
  refine ⟨h.cm, fun s => ⟨⟨s, ?_⟩, ⟨?_, ?_, h.net.ne⟩, ?_, ?_, h.fi, h.fj, h.fa, h.fb, h.ia, h.ib, h.ja, h.jb, h.ab⟩⟩
  · rw [List.getElem?_set_ne (by omega), List.getElem?_set_self (by simp; omega)]
  · rw [List.getElem?_set_ne (by omega), List.getElem?_set_ne (by omega), List.getElem?_set_ne (by omega)]; exact h.net.net
  · rw [List.getElem?_set_ne (by omega), List.getElem?_set_ne (by omega), List.getElem?_set_ne (by omega)]; exact h.net.com
  · rw [List.getElem?_set_self (by simp; omega)]
  · rw [List.getElem?_set_ne (by omega), List.getElem?_set_ne (by omega), List.getElem?_set_self (by omega)]
/-! ### k30: a turn -/
abbrev two (X : Fix) (C : List Lt) : List D := [wo X.w0 (keptQ 0 C), wo X.w1 (keptQ 1 C)]
theorem two_at (X : Fix) (C : List Lt) {q : Nat} (hq : q < 2) : atI (two X C) (q : Int) = some (wo (X.w q) (keptQ q C)) := by
  rcases (show q = 0 ∨ q = 1 by omega) with rfl | rfl <;> exact atI_nat rfl
theorem two_put (X : Fix) (C : List Lt) (e : Lt) (hq : e.q < 2) : (two X C).set e.q (wo (X.w e.q) (laterV (keptQ e.q C) (some (e.g, e.s)))) = two X (C ++ [e]) := by
  rcases (show e.q = 0 ∨ e.q = 1 by omega) with h | h
  · have h1 := keptQ_snoc_same C e
    have h2 := keptQ_snoc_other 1 C e (by omega)
    rw [h] at h1 ⊢
    unfold two
    rw [h1, h2]
    rfl
  · have h1 := keptQ_snoc_same C e
    have h2 := keptQ_snoc_other 0 C e (by omega)
    rw [h] at h1 ⊢
    unfold two
    rw [h1, h2]
    rfl
theorem come_turn (X : Fix) {M : Mem} {f i j a b : Nat} {rs : List (List Int)} {n : Nat} {L C : List Lt} (h : Sk X M f i j a b rs n L C) (e : Lt) (hq : e.q < 2) (hC : C.length < 100000) (x0 x2 x3 x4 x7 x8 x9 x10 x12 x13 x14 : Option D) :
    ∃ M' y12 y13, Sk X M' f i j a b rs n L (C ++ [e]) ∧ L_law_0 [x0, some (.ref f), x2, x3, x4, some (.ref a), some (.ref b), x7, x8, x9, x10, some (.tup [.int e.q, (X.w e.q).full e.g e.s]), x12, x13, x14] M = .ok (.nx [x0, some (.ref f), x2, x3, x4, some (.ref a), some (.ref b), x7, x8, x9, x10, some (.tup [.int e.q, (X.w e.q).full e.g e.s]), y12, y13, x14]) M' := by
  obtain ⟨hb, hS⟩ := h.come e
  obtain ⟨l1, l2, l3, l4, l5⟩ := h.lt
  have n7 := h.fa; have n8 := h.fb; have n9 := h.ab
  obtain ⟨s, hs⟩ := h.fd
  have hb' : (C.map X.cD ++ [.tup [.int e.q, wo (X.w e.q) (some (e.g, e.s))]]) = (C ++ [e]).map X.cD := by rw [List.map_append]; rfl
  have lb : (C.map X.cD).length < 16777216 := by rw [List.length_map]; omega
  obtain ⟨M1, hM1⟩ : ∃ M1, M.set b (.lst ((C ++ [e]).map X.cD)) = M1 := ⟨_, rfl⟩
  have hf : FdAt M1 f M1 := FdAt.start (s := s) (by rw [← hM1, List.getElem?_set_ne (by omega)]; exact hs)
  obtain ⟨v, M2, v2, hF, e1⟩ := draw_eq hf 2 (by omega) (by omega)
  obtain ⟨s', e2⟩ := hF.at_
  have ha1 : M1[a]? = some (.lst (two X C)) := by rw [← hM1, List.getElem?_set_ne (by omega)]; exact h.kp
  have ha2 : M2[a]? = some (.lst (two X C)) := by rw [hF.other h.fa]; exact ha1
  have fin := hS s'
  rw [hM1, ← e2] at fin
  have hp := two_put X C e hq
  have hw : (X.w e.q).full e.g e.s = wo (X.w e.q) (some (e.g, e.s)) := rfl
  have hk := two_at X C hq
  have ix : ixN 2 (e.q : Int) = some e.q := ixN_nat hq
  have ty : tyOk "list" M (.ref b) = true := tyOk_at hb
  refine ⟨_, some (.int e.q), some ((X.w e.q).full e.g e.s), fin, ?_⟩
  rcases (show v = 0 ∨ v = 1 by omega) with rfl | rfl
  · have z : (((0 : Nat) : Int) == 0) = true := rfl
    simp -implicitDefEqProofs (disch := first | assumption | omega | (simp only [List.length_cons, List.length_nil, List.length_append, List.length_map, List.length_take, List.length_drop, rngItems_len]; omega)) only [mSeq_eq, mIfS_eq, mSet_eq, mRet_eq, mRetN_eq, mExpr_eq, mPass_eq, mAsg_eq, mPar_eq, mAug_eq, bOf_eq, tOf_eq, tAndM_eq, tOrM_eq, tNotM_eq, tsYes_eq, mOp_eq, mUn_eq, mVar_eq, mC_eq, mCall_eq, mFun_eq, mFunKw_eq, mMeth_eq, mAnd_eq, mOr_eq, mNot_eq, mIf_eq, mChain_eq, mSl_eq, pNone_eq, pSome_eq, aCons_eq, aNil_eq, mTup_eq, mLst_eq, gN_eq, gT_eq, gsNil_eq, gsCons_eq, mkL_t, mkL_f, R.bind_ok, R.bind_no, R.nox_ok, List.getElem?_cons_zero, List.getElem?_cons_succ, List.set_cons_zero, List.set_cons_succ, List.length_cons, List.length_nil, List.append_nil, List.nil_append, List.cons_append, piApp_on, oLen_fz, oLen_lst, oLen_tup, oLt_int, oLe_int, oGt_int, oGe_int, oAdd_int, oSub_int, oIx_fz, oIx_lst, oIx_tup, oMax_int, oMin_int, oInt_bl, oInt_int, oIsi_bl, oNeg_int, oTuple_lst, oTuple_tup, iR1_eq, iR2_eq, iSq_eq, iStrM_eq, srcOf_tup, srcOf_lst, srcOf_fz, if_true, if_false, Bool.false_eq_true, Bool.true_eq_false, reduceIte, Nat.reduceAdd, Nat.reduceLeDiff, Nat.reduceEqDiff, decide_true, decide_false, and_self, and_true, true_and, oMod_int, oMul_r, oMul_l, oLen_str, oAdd_str, oSl_str, oSl_tup, oSl_lst, oSl_fz, rngOk_of, oEq_int, oEq_bl, beq_self_eq_true, Int.toNat_natCast, mFor_eq, mLc_eq, app_get0, app_get1, app_set0, app_set1, tyOk, oTuple_ref, oList_ref, oLen_refM, oIx_refM, oAppM, oExtM, srcOf_refM, ifLt24, ifLe24, L_law_0, hb, lb, hb', hM1, e1, z, ha2, hk, hw, later_eq, gIx_eq, ix, hp]
  · have z : (((1 : Nat) : Int) == 0) = false := rfl
    simp -implicitDefEqProofs (disch := first | assumption | omega | (simp only [List.length_cons, List.length_nil, List.length_append, List.length_map, List.length_take, List.length_drop, rngItems_len]; omega)) only [mSeq_eq, mIfS_eq, mSet_eq, mRet_eq, mRetN_eq, mExpr_eq, mPass_eq, mAsg_eq, mPar_eq, mAug_eq, bOf_eq, tOf_eq, tAndM_eq, tOrM_eq, tNotM_eq, tsYes_eq, mOp_eq, mUn_eq, mVar_eq, mC_eq, mCall_eq, mFun_eq, mFunKw_eq, mMeth_eq, mAnd_eq, mOr_eq, mNot_eq, mIf_eq, mChain_eq, mSl_eq, pNone_eq, pSome_eq, aCons_eq, aNil_eq, mTup_eq, mLst_eq, gN_eq, gT_eq, gsNil_eq, gsCons_eq, mkL_t, mkL_f, R.bind_ok, R.bind_no, R.nox_ok, List.getElem?_cons_zero, List.getElem?_cons_succ, List.set_cons_zero, List.set_cons_succ, List.length_cons, List.length_nil, List.append_nil, List.nil_append, List.cons_append, piApp_on, oLen_fz, oLen_lst, oLen_tup, oLt_int, oLe_int, oGt_int, oGe_int, oAdd_int, oSub_int, oIx_fz, oIx_lst, oIx_tup, oMax_int, oMin_int, oInt_bl, oInt_int, oIsi_bl, oNeg_int, oTuple_lst, oTuple_tup, iR1_eq, iR2_eq, iSq_eq, iStrM_eq, srcOf_tup, srcOf_lst, srcOf_fz, if_true, if_false, Bool.false_eq_true, Bool.true_eq_false, reduceIte, Nat.reduceAdd, Nat.reduceLeDiff, Nat.reduceEqDiff, decide_true, decide_false, and_self, and_true, true_and, oMod_int, oMul_r, oMul_l, oLen_str, oAdd_str, oSl_str, oSl_tup, oSl_lst, oSl_fz, rngOk_of, oEq_int, oEq_bl, beq_self_eq_true, Int.toNat_natCast, mFor_eq, mLc_eq, app_get0, app_get1, app_set0, app_set1, tyOk, oTuple_ref, oList_ref, oLen_refM, oIx_refM, oAppM, oExtM, srcOf_refM, ifLt24, ifLe24, L_law_0, hb, lb, hb', hM1, e1, z, ha2, hk, hw, later_eq, laterV_comm (some (e.g, e.s)), gIx_eq, ix, hp]
theorem comes (X : Fix) (f i j a b : Nat) (rs : List (List Int)) (n : Nat) (L : List Lt) (x0 x2 x3 x4 x7 x8 x14 : Option D) : ∀ (E : List Lt) (C : List Lt) (M : Mem) (x9 x10 x11 x12 x13 : Option D), Sk X M f i j a b rs n L C → (∀ e ∈ E, e.q < 2) → C.length + E.length < 100000 →
    ∃ M' y9 y10 y11 y12 y13, Sk X M' f i j a b rs n L (C ++ E) ∧ forL (fun _ => True) (gT 3 (gsCons (gN 9) (gsCons (gN 10) (gsCons (gN 11) gsNil)))) L_law_0 (E.map X.lt) [x0, some (.ref f), x2, x3, x4, some (.ref a), some (.ref b), x7, x8, x9, x10, x11, x12, x13, x14] M = .ok (.nx [x0, some (.ref f), x2, x3, x4, some (.ref a), some (.ref b), x7, x8, y9, y10, y11, y12, y13, x14]) M'
  | [], C, M, x9, x10, x11, x12, x13, h, _, _ => ⟨M, x9, x10, x11, x12, x13, by rw [List.append_nil]; exact h, forL_nil⟩
  | e :: E, C, M, x9, x10, x11, x12, x13, h, hq, hl => by
    obtain ⟨M1, y12, y13, h1, e1⟩ := come_turn X h e (hq e (List.mem_cons_self ..)) (by simp at hl; omega) x0 x2 x3 x4 x7 x8 (some (.str X.n0)) (some (.str X.n1)) x12 x13 x14
    obtain ⟨M2, z9, z10, z11, z12, z13, h2, e2⟩ := comes X f i j a b rs n L x0 x2 x3 x4 x7 x8 x14 E (C ++ [e]) M1 (some (.str X.n0)) (some (.str X.n1)) (some (.tup [.int e.q, (X.w e.q).full e.g e.s])) y12 y13 h1 (fun x hx => hq x (List.mem_cons_of_mem _ hx)) (by simp at hl ⊢; omega)
    refine ⟨M2, z9, z10, z11, z12, z13, by rw [List.append_assoc] at h2; exact h2, ?_⟩
    rw [List.map_cons, forL_cons]
    have g : ∀ env : Fn.Env, gT 3 (gsCons (gN 9) (gsCons (gN 10) (gsCons (gN 11) gsNil))) (X.lt e) env M = .ok (((env.set 9 (some (.str X.n0))).set 10 (some (.str X.n1))).set 11 (some (.tup [.int e.q, (X.w e.q).full e.g e.s]))) M := fun _ => rfl
    rw [g, R.bind_ok]
    show ((L_law_0 [x0, some (.ref f), x2, x3, x4, some (.ref a), some (.ref b), x7, x8, some (.str X.n0), some (.str X.n1), some (.tup [.int e.q, (X.w e.q).full e.g e.s]), x12, x13, x14] M).bind _) = _
    rw [e1, R.bind_ok]
    exact e2
/-! what is kept serves as what came -/
def sv (t l : Int) : GS → Bool
  | none => false
  | some (g, _) => decide (g ≤ t) && decide (t < g + l)
theorem sv_later {t l : Int} (a b : GS) (ha : ∀ g s, a = some (g, s) → g ≤ t) (hb : ∀ g s, b = some (g, s) → g ≤ t) : sv t l (laterV a b) = (sv t l a || sv t l b) ∧ ∀ g s, laterV a b = some (g, s) → g ≤ t := by
  rcases a with _ | ⟨g, s⟩ <;> rcases b with _ | ⟨g', s'⟩
  · exact ⟨rfl, fun _ _ h => by cases h⟩
  · exact ⟨by simp [laterV, sv], hb⟩
  · exact ⟨by simp [laterV, sv], ha⟩
  · have h1 := ha g s rfl
    have h2 := hb g' s' rfl
    rw [laterV_some]
    split
    · refine ⟨?_, hb⟩
      simp only [sv, decide_eq_true h1, decide_eq_true h2, Bool.true_and]
      by_cases h3 : t < g + l
      · rw [decide_eq_true h3, decide_eq_true (by omega)]; rfl
      · rw [decide_eq_false h3]; rfl
    · refine ⟨?_, ha⟩
      simp only [sv, decide_eq_true h1, decide_eq_true h2, Bool.true_and]
      by_cases h3 : t < g' + l
      · rw [decide_eq_true h3, decide_eq_true (by omega)]; rfl
      · rw [decide_eq_false h3]; simp
theorem sv_fold {t l : Int} : ∀ (xs : List GS) (a : GS), (∀ x ∈ xs, ∀ g s, x = some (g, s) → g ≤ t) → (∀ g s, a = some (g, s) → g ≤ t) → sv t l (xs.foldl laterV a) = (sv t l a || xs.any (sv t l)) ∧ ∀ g s, xs.foldl laterV a = some (g, s) → g ≤ t
  | [], a, _, ha => ⟨by simp, ha⟩
  | x :: r, a, h, ha => by
    obtain ⟨h1, h2⟩ := sv_later (l := l) a x ha (h x (List.mem_cons_self ..))
    obtain ⟨h3, h4⟩ := sv_fold (l := l) r (laterV a x) (fun y hy => h y (List.mem_cons_of_mem _ hy)) h2
    refine ⟨?_, h4⟩
    rw [List.foldl_cons, h3, h1, List.any_cons, Bool.or_assoc]
theorem sv_kept {t l : Int} (q : Nat) (C : List Lt) (h : ∀ e ∈ C, e.g ≤ t) : sv t l (keptQ q C) = C.any fun e => decide (e.q = q) && (decide (0 ≤ t - e.g) && decide (t - e.g < l)) := by
  unfold keptQ keptV
  rw [(sv_fold _ none (fun x hx g s hg => by
    obtain ⟨e, he, rfl⟩ := List.mem_map.mp hx
    cases hg
    exact h e (List.mem_filter.mp he).1) (fun _ _ hh => by cases hh)).1]
  simp only [sv, Bool.false_or]
  rw [List.any_map, List.any_filter]
  congr 1
  funext e
  simp only [Function.comp, sv]
  rw [show decide (e.g ≤ t) = decide (0 ≤ t - e.g) by rw [decide_eq_decide]; omega, show decide (t < e.g + l) = decide (t - e.g < l) by rw [decide_eq_decide]; omega]
theorem fold_mem : ∀ (xs : List GS) (a y : GS), xs.foldl laterV a = y → y = a ∨ y ∈ xs
  | [], a, y, h => .inl h.symm
  | x :: r, a, y, h => by
    rcases fold_mem r (laterV a x) y h with h1 | h1
    · have : laterV a x = a ∨ laterV a x = x := by
        rcases a with _ | ⟨g, s⟩ <;> rcases x with _ | ⟨g', s'⟩
        · exact .inl rfl
        · exact .inr rfl
        · exact .inl rfl
        · rw [laterV_some]; split
          · exact .inr rfl
          · exact .inl rfl
      rcases this with h2 | h2
      · exact .inl (h1.trans h2)
      · exact .inr (by rw [h1, h2]; exact List.mem_cons_self ..)
    · exact .inr (List.mem_cons_of_mem _ h1)
theorem kept_mem2 {q : Nat} {C : List Lt} {g s : Int} (h : keptQ q C = some (g, s)) : ∃ e ∈ C, e.q = q ∧ e.g = g ∧ e.s = s := by
  rcases fold_mem _ none _ h with h1 | h1
  · cases h1
  · obtain ⟨e, he, h2⟩ := List.mem_map.mp h1
    obtain ⟨h3, h4⟩ := List.mem_filter.mp he
    cases h2
    exact ⟨e, h3, by simpa using h4, rfl, rfl⟩
/-! ### k30: kept right -/
theorem cD_ex (X : Fix) (e : Lt) : exD (X.cD e) = true := by
  simp only [Fix.cD, exD, exL, full_ex, Bool.and_self]
theorem cD_dp (X : Fix) (e : Lt) : dpD (X.cD e) ≤ 60 := by
  have h : dpD ((X.w e.q).full e.g e.s) ≤ 2 := by
    simp only [Wr.full, dpD, dpL, dpL_ints, dpL_strs]
    decide
  simp only [Fix.cD, dpD, dpL]
  omega
def sone (t l : Int) (q : Nat) (C : List Lt) : Bool := C.any fun e => decide (e.q = q) && (decide (0 ≤ t - e.g) && decide (t - e.g < l))
theorem any_serves_eq (X : Fix) {M : Mem} {b : Nat} {C : List Lt} (hb : M[b]? = some (.lst (C.map X.cD))) (hC : C.length < 100000) (q : Nat) (t l : Int) : g_law_any_serves [.ref b, .int q, .int t, .int l] M = .ok (.bl (sone t l q C)) M := by
  refine runB_rt (N := 6) ?_
  show B_law_any_serves [some (.ref b), some (.int q), some (.int t), some (.int l), none, none] M = _
  have lb : (C.map X.cD).length < 16777216 := by rw [List.length_map]; omega
  have c := compL_m (P := fun M' => M'[b]? = some (.lst (C.map X.cD))) (M := M) hb (g := gT 2 (gsCons (gN 4) (gsCons (gN 5) gsNil))) (f := C_law_any_serves_0) (env := wipeE [some (.ref b), some (.int q), some (.int t), some (.int l), none, none] [4, 5]) X.cD (fun e => .bl (decide (e.q = q) && (decide (0 ≤ t - e.g) && decide (t - e.g < l)))) C fun e _ => by
    refine ⟨[some (.ref b), some (.int q), some (.int t), some (.int l), some (.int e.q), some ((X.w e.q).full e.g e.s)], rfl, ?_⟩
    have k5 : oIx ((X.w e.q).full e.g e.s) (.int 5) M = .ok (.int e.g) M := rfl
    have hq : (((e.q : Nat) : Int) == (q : Int)) = decide (e.q = q) := by
      rw [Bool.eq_iff_iff]; simp only [beq_iff_eq, decide_eq_true_eq]; omega
    cases h1 : decide (e.q = q) with
    | false => simp -implicitDefEqProofs (disch := first | assumption | omega | (simp only [List.length_cons, List.length_nil, List.length_append, List.length_map, List.length_take, List.length_drop, rngItems_len]; omega)) only [mSeq_eq, mIfS_eq, mSet_eq, mRet_eq, mRetN_eq, mExpr_eq, mPass_eq, mAsg_eq, mPar_eq, mAug_eq, bOf_eq, tOf_eq, tAndM_eq, tOrM_eq, tNotM_eq, tsYes_eq, mOp_eq, mUn_eq, mVar_eq, mC_eq, mCall_eq, mFun_eq, mFunKw_eq, mMeth_eq, mAnd_eq, mOr_eq, mNot_eq, mIf_eq, mChain_eq, mSl_eq, pNone_eq, pSome_eq, aCons_eq, aNil_eq, mTup_eq, mLst_eq, gN_eq, gT_eq, gsNil_eq, gsCons_eq, mkL_t, mkL_f, R.bind_ok, R.bind_no, R.nox_ok, List.getElem?_cons_zero, List.getElem?_cons_succ, List.set_cons_zero, List.set_cons_succ, List.length_cons, List.length_nil, List.append_nil, List.nil_append, List.cons_append, piApp_on, oLen_fz, oLen_lst, oLen_tup, oLt_int, oLe_int, oGt_int, oGe_int, oAdd_int, oSub_int, oIx_fz, oIx_lst, oIx_tup, oMax_int, oMin_int, oInt_bl, oInt_int, oIsi_bl, oNeg_int, oTuple_lst, oTuple_tup, iR1_eq, iR2_eq, iSq_eq, iStrM_eq, srcOf_tup, srcOf_lst, srcOf_fz, if_true, if_false, Bool.false_eq_true, Bool.true_eq_false, reduceIte, Nat.reduceAdd, Nat.reduceLeDiff, Nat.reduceEqDiff, decide_true, decide_false, and_self, and_true, true_and, oMod_int, oMul_r, oMul_l, oLen_str, oAdd_str, oSl_str, oSl_tup, oSl_lst, oSl_fz, rngOk_of, oEq_int, oEq_bl, beq_self_eq_true, Int.toNat_natCast, mFor_eq, mLc_eq, app_get0, app_get1, app_set0, app_set1, tyOk, oTuple_ref, oList_ref, oLen_refM, oIx_refM, oAppM, oExtM, srcOf_refM, ifLt24, ifLe24, C_law_any_serves_0, hq, h1, Bool.false_and]
    | true =>
      cases h2 : decide ((0 : Int) ≤ t - e.g) with
      | false => simp -implicitDefEqProofs (disch := first | assumption | omega | (simp only [List.length_cons, List.length_nil, List.length_append, List.length_map, List.length_take, List.length_drop, rngItems_len]; omega)) only [mSeq_eq, mIfS_eq, mSet_eq, mRet_eq, mRetN_eq, mExpr_eq, mPass_eq, mAsg_eq, mPar_eq, mAug_eq, bOf_eq, tOf_eq, tAndM_eq, tOrM_eq, tNotM_eq, tsYes_eq, mOp_eq, mUn_eq, mVar_eq, mC_eq, mCall_eq, mFun_eq, mFunKw_eq, mMeth_eq, mAnd_eq, mOr_eq, mNot_eq, mIf_eq, mChain_eq, mSl_eq, pNone_eq, pSome_eq, aCons_eq, aNil_eq, mTup_eq, mLst_eq, gN_eq, gT_eq, gsNil_eq, gsCons_eq, mkL_t, mkL_f, R.bind_ok, R.bind_no, R.nox_ok, List.getElem?_cons_zero, List.getElem?_cons_succ, List.set_cons_zero, List.set_cons_succ, List.length_cons, List.length_nil, List.append_nil, List.nil_append, List.cons_append, piApp_on, oLen_fz, oLen_lst, oLen_tup, oLt_int, oLe_int, oGt_int, oGe_int, oAdd_int, oSub_int, oIx_fz, oIx_lst, oIx_tup, oMax_int, oMin_int, oInt_bl, oInt_int, oIsi_bl, oNeg_int, oTuple_lst, oTuple_tup, iR1_eq, iR2_eq, iSq_eq, iStrM_eq, srcOf_tup, srcOf_lst, srcOf_fz, if_true, if_false, Bool.false_eq_true, Bool.true_eq_false, reduceIte, Nat.reduceAdd, Nat.reduceLeDiff, Nat.reduceEqDiff, decide_true, decide_false, and_self, and_true, true_and, oMod_int, oMul_r, oMul_l, oLen_str, oAdd_str, oSl_str, oSl_tup, oSl_lst, oSl_fz, rngOk_of, oEq_int, oEq_bl, beq_self_eq_true, Int.toNat_natCast, mFor_eq, mLc_eq, app_get0, app_get1, app_set0, app_set1, tyOk, oTuple_ref, oList_ref, oLen_refM, oIx_refM, oAppM, oExtM, srcOf_refM, ifLt24, ifLe24, C_law_any_serves_0, hq, h1, k5, h2, Bool.false_and, Bool.true_and]
      | true => simp -implicitDefEqProofs (disch := first | assumption | omega | (simp only [List.length_cons, List.length_nil, List.length_append, List.length_map, List.length_take, List.length_drop, rngItems_len]; omega)) only [mSeq_eq, mIfS_eq, mSet_eq, mRet_eq, mRetN_eq, mExpr_eq, mPass_eq, mAsg_eq, mPar_eq, mAug_eq, bOf_eq, tOf_eq, tAndM_eq, tOrM_eq, tNotM_eq, tsYes_eq, mOp_eq, mUn_eq, mVar_eq, mC_eq, mCall_eq, mFun_eq, mFunKw_eq, mMeth_eq, mAnd_eq, mOr_eq, mNot_eq, mIf_eq, mChain_eq, mSl_eq, pNone_eq, pSome_eq, aCons_eq, aNil_eq, mTup_eq, mLst_eq, gN_eq, gT_eq, gsNil_eq, gsCons_eq, mkL_t, mkL_f, R.bind_ok, R.bind_no, R.nox_ok, List.getElem?_cons_zero, List.getElem?_cons_succ, List.set_cons_zero, List.set_cons_succ, List.length_cons, List.length_nil, List.append_nil, List.nil_append, List.cons_append, piApp_on, oLen_fz, oLen_lst, oLen_tup, oLt_int, oLe_int, oGt_int, oGe_int, oAdd_int, oSub_int, oIx_fz, oIx_lst, oIx_tup, oMax_int, oMin_int, oInt_bl, oInt_int, oIsi_bl, oNeg_int, oTuple_lst, oTuple_tup, iR1_eq, iR2_eq, iSq_eq, iStrM_eq, srcOf_tup, srcOf_lst, srcOf_fz, if_true, if_false, Bool.false_eq_true, Bool.true_eq_false, reduceIte, Nat.reduceAdd, Nat.reduceLeDiff, Nat.reduceEqDiff, decide_true, decide_false, and_self, and_true, true_and, oMod_int, oMul_r, oMul_l, oLen_str, oAdd_str, oSl_str, oSl_tup, oSl_lst, oSl_fz, rngOk_of, oEq_int, oEq_bl, beq_self_eq_true, Int.toNat_natCast, mFor_eq, mLc_eq, app_get0, app_get1, app_set0, app_set1, tyOk, oTuple_ref, oList_ref, oLen_refM, oIx_refM, oAppM, oExtM, srcOf_refM, ifLt24, ifLe24, C_law_any_serves_0, hq, h1, k5, h2, Bool.true_and]
  simp -implicitDefEqProofs (disch := first | assumption | omega | (simp only [List.length_cons, List.length_nil, List.length_append, List.length_map, List.length_take, List.length_drop, rngItems_len]; omega)) only [mSeq_eq, mIfS_eq, mSet_eq, mRet_eq, mRetN_eq, mExpr_eq, mPass_eq, mAsg_eq, mPar_eq, mAug_eq, bOf_eq, tOf_eq, tAndM_eq, tOrM_eq, tNotM_eq, tsYes_eq, mOp_eq, mUn_eq, mVar_eq, mC_eq, mCall_eq, mFun_eq, mFunKw_eq, mMeth_eq, mAnd_eq, mOr_eq, mNot_eq, mIf_eq, mChain_eq, mSl_eq, pNone_eq, pSome_eq, aCons_eq, aNil_eq, mTup_eq, mLst_eq, gN_eq, gT_eq, gsNil_eq, gsCons_eq, mkL_t, mkL_f, R.bind_ok, R.bind_no, R.nox_ok, List.getElem?_cons_zero, List.getElem?_cons_succ, List.set_cons_zero, List.set_cons_succ, List.length_cons, List.length_nil, List.append_nil, List.nil_append, List.cons_append, piApp_on, oLen_fz, oLen_lst, oLen_tup, oLt_int, oLe_int, oGt_int, oGe_int, oAdd_int, oSub_int, oIx_fz, oIx_lst, oIx_tup, oMax_int, oMin_int, oInt_bl, oInt_int, oIsi_bl, oNeg_int, oTuple_lst, oTuple_tup, iR1_eq, iR2_eq, iSq_eq, iStrM_eq, srcOf_tup, srcOf_lst, srcOf_fz, if_true, if_false, Bool.false_eq_true, Bool.true_eq_false, reduceIte, Nat.reduceAdd, Nat.reduceLeDiff, Nat.reduceEqDiff, decide_true, decide_false, and_self, and_true, true_and, oMod_int, oMul_r, oMul_l, oLen_str, oAdd_str, oSl_str, oSl_tup, oSl_lst, oSl_fz, rngOk_of, oEq_int, oEq_bl, beq_self_eq_true, Int.toNat_natCast, mFor_eq, mLc_eq, app_get0, app_get1, app_set0, app_set1, tyOk, oTuple_ref, oList_ref, oLen_refM, oIx_refM, oAppM, oExtM, srcOf_refM, ifLt24, ifLe24, B_law_any_serves, hb, lb, c, oAny_map]
  rfl
def kptGS (X : Fix) (q : Nat) (C : List Lt) : D := wo (X.w q) (keptQ q C)
/-- the first right of a grant -/
theorem serves_kept (w : Wr) (r : List Nat) (rt : List (List Nat)) (hr : w.rs = r :: rt) (a : GS) (t l : Int) (M : Mem) : g_serves [wo w a, prD w.o1 w.o2, .str r, .int t, .int l] M = .ok (.bl (sv t l a)) M := by
  rcases a with _ | ⟨g, s⟩
  · exact servesN_eq _ _ _ _ M
  · show g_serves [w.full g s, prD w.o1 w.o2, .str r, .int t, .int l] M = _
    rw [serves_eq]
    unfold servesV sv
    rw [decide_eq_true (show w.o1 = w.o1 ∧ w.o2 = w.o2 from ⟨rfl, rfl⟩), decide_eq_true (show r ∈ w.rs by rw [hr]; exact List.mem_cons_self ..)]
    rfl
def Fix.gr (X : Fix) : D := .lst [.tup X.w0.g4, .tup X.w1.g4]
structure Fix.Ok (X : Fix) : Prop where
  r0 : ∃ r rt, X.w0.rs = r :: rt
  r1 : ∃ r rt, X.w1.rs = r :: rt
theorem Fix.Ok.w {X : Fix} (h : X.Ok) (q : Nat) : ∃ r rt, (X.w q).rs = r :: rt := by
  unfold Fix.w; split
  · exact h.r0
  · exact h.r1
theorem gr_at (X : Fix) {q : Nat} (hq : q < 2) : atI [D.tup X.w0.g4, .tup X.w1.g4] (q : Int) = some (.tup (X.w q).g4) := by
  rcases (show q = 0 ∨ q = 1 by omega) with rfl | rfl <;> exact atI_nat rfl
theorem lease_turn (X : Fix) (hX : X.Ok) {M : Mem} {a b : Nat} {C : List Lt} (ha : M[a]? = some (.lst (two X C))) (hb : M[b]? = some (.lst (C.map X.cD))) (hC : C.length < 100000) {q : Nat} (hq : q < 2) (t l : Int) (hg : ∀ e ∈ C, e.g ≤ t) (x6 : Option D) :
    ∃ y6, L_law_kept_right_0 [some (.ref a), some (.ref b), some X.gr, some (.int t), some (.int q), some (.int l), x6] M = .ok (.nx [some (.ref a), some (.ref b), some X.gr, some (.int t), some (.int q), some (.int l), y6]) M := by
  refine ⟨some (.bl (sone t l q C)), ?_⟩
  obtain ⟨r, rt, hr⟩ := hX.w q
  have hk := two_at X C hq
  have hgr := gr_at X hq
  have e1 := any_serves_eq X hb hC q t l
  have k2 : atI (X.w q).g4 2 = some (prD (X.w q).o1 (X.w q).o2) := rfl
  have k4 : atI (X.w q).g4 4 = some (.tup ((X.w q).rs.map .str)) := rfl
  have kr : atI ((X.w q).rs.map D.str) 0 = some (.str r) := atI_nat (j := 0) (by rw [hr]; rfl)
  have e2 := serves_kept (X.w q) r rt hr (keptQ q C) t l M
  have e3 : sv t l (keptQ q C) = sone t l q C := sv_kept q C hg
  rw [e3] at e2
  have nb : (true != (sone t l q C == sone t l q C)) = false := by simp
  have e4 : oEq true (.bl (sone t l q C)) (.bl (sone t l q C)) M = .ok (.bl false) M := by rw [oEq_bl]; simp
  unfold Fix.gr
  simp -implicitDefEqProofs (disch := first | assumption | omega | (simp only [List.length_cons, List.length_nil, List.length_append, List.length_map, List.length_take, List.length_drop, rngItems_len]; omega)) only [mSeq_eq, mIfS_eq, mSet_eq, mRet_eq, mRetN_eq, mExpr_eq, mPass_eq, mAsg_eq, mPar_eq, mAug_eq, bOf_eq, tOf_eq, tAndM_eq, tOrM_eq, tNotM_eq, tsYes_eq, mOp_eq, mUn_eq, mVar_eq, mC_eq, mCall_eq, mFun_eq, mFunKw_eq, mMeth_eq, mAnd_eq, mOr_eq, mNot_eq, mIf_eq, mChain_eq, mSl_eq, pNone_eq, pSome_eq, aCons_eq, aNil_eq, mTup_eq, mLst_eq, gN_eq, gT_eq, gsNil_eq, gsCons_eq, mkL_t, mkL_f, R.bind_ok, R.bind_no, R.nox_ok, List.getElem?_cons_zero, List.getElem?_cons_succ, List.set_cons_zero, List.set_cons_succ, List.length_cons, List.length_nil, List.append_nil, List.nil_append, List.cons_append, piApp_on, oLen_fz, oLen_lst, oLen_tup, oLt_int, oLe_int, oGt_int, oGe_int, oAdd_int, oSub_int, oIx_fz, oIx_lst, oIx_tup, oMax_int, oMin_int, oInt_bl, oInt_int, oIsi_bl, oNeg_int, oTuple_lst, oTuple_tup, iR1_eq, iR2_eq, iSq_eq, iStrM_eq, srcOf_tup, srcOf_lst, srcOf_fz, if_true, if_false, Bool.false_eq_true, Bool.true_eq_false, reduceIte, Nat.reduceAdd, Nat.reduceLeDiff, Nat.reduceEqDiff, decide_true, decide_false, and_self, and_true, true_and, oMod_int, oMul_r, oMul_l, oLen_str, oAdd_str, oSl_str, oSl_tup, oSl_lst, oSl_fz, rngOk_of, oEq_int, oEq_bl, beq_self_eq_true, Int.toNat_natCast, mFor_eq, mLc_eq, app_get0, app_get1, app_set0, app_set1, tyOk, oTuple_ref, oList_ref, oLen_refM, oIx_refM, oAppM, oExtM, srcOf_refM, ifLt24, ifLe24, L_law_kept_right_0, e1, ha, hk, hgr, k2, k4, kr, mFunKw_eq, e2, e4]
theorem kept_right_turn (X : Fix) (hX : X.Ok) {M : Mem} {a b : Nat} {C : List Lt} (ha : M[a]? = some (.lst (two X C))) (hb : M[b]? = some (.lst (C.map X.cD))) (hC : C.length < 100000) {q : Nat} (hq : q < 2) (t : Int) (hg : ∀ e ∈ C, e.g ≤ t) (x5 x6 : Option D) :
    ∃ y5 y6, L_law_kept_right_1 [some (.ref a), some (.ref b), some X.gr, some (.int t), some (.int q), x5, x6] M = .ok (.nx [some (.ref a), some (.ref b), some X.gr, some (.int t), some (.int q), y5, y6]) M := by
  have hk := two_at X C hq
  obtain ⟨env', m', e, y5, y6, rfl, rfl⟩ := forL_inv (g := gN 5) (body := L_law_kept_right_0) (fun _ env M' => ∃ y5 y6, env = [some (.ref a), some (.ref b), some X.gr, some (.int t), some (.int q), y5, y6] ∧ M' = M) (rngItems 2 8) 0 [some (.ref a), some (.ref b), some X.gr, some (.int t), some (.int q), x5, x6] M ⟨x5, x6, rfl, rfl⟩ (by
    rintro k d env M' hk' ⟨y5, y6, rfl, rfl⟩
    obtain ⟨rfl, hkn⟩ := rngItems_get hk'
    obtain ⟨z6, e⟩ := lease_turn X hX ha hb hC hq t (2 + (k : Int)) hg y6
    exact ⟨_, _, e, _, _, rfl, rfl⟩)
  refine ⟨y5, y6, ?_⟩
  have t8 : ((10 : Int) - 2).toNat = 8 := rfl
  rcases hkk : keptQ q C with _ | ⟨g, s⟩
  · rw [hkk] at hk
    have e0 : oIsN true (wo (X.w q) none) m' = .ok (.bl false) m' := rfl
    simp -implicitDefEqProofs (disch := first | assumption | omega | (simp only [List.length_cons, List.length_nil, List.length_append, List.length_map, List.length_take, List.length_drop, rngItems_len]; omega)) only [mSeq_eq, mIfS_eq, mSet_eq, mRet_eq, mRetN_eq, mExpr_eq, mPass_eq, mAsg_eq, mPar_eq, mAug_eq, bOf_eq, tOf_eq, tAndM_eq, tOrM_eq, tNotM_eq, tsYes_eq, mOp_eq, mUn_eq, mVar_eq, mC_eq, mCall_eq, mFun_eq, mFunKw_eq, mMeth_eq, mAnd_eq, mOr_eq, mNot_eq, mIf_eq, mChain_eq, mSl_eq, pNone_eq, pSome_eq, aCons_eq, aNil_eq, mTup_eq, mLst_eq, gN_eq, gT_eq, gsNil_eq, gsCons_eq, mkL_t, mkL_f, R.bind_ok, R.bind_no, R.nox_ok, List.getElem?_cons_zero, List.getElem?_cons_succ, List.set_cons_zero, List.set_cons_succ, List.length_cons, List.length_nil, List.append_nil, List.nil_append, List.cons_append, piApp_on, oLen_fz, oLen_lst, oLen_tup, oLt_int, oLe_int, oGt_int, oGe_int, oAdd_int, oSub_int, oIx_fz, oIx_lst, oIx_tup, oMax_int, oMin_int, oInt_bl, oInt_int, oIsi_bl, oNeg_int, oTuple_lst, oTuple_tup, iR1_eq, iR2_eq, iSq_eq, iStrM_eq, srcOf_tup, srcOf_lst, srcOf_fz, if_true, if_false, Bool.false_eq_true, Bool.true_eq_false, reduceIte, Nat.reduceAdd, Nat.reduceLeDiff, Nat.reduceEqDiff, decide_true, decide_false, and_self, and_true, true_and, oMod_int, oMul_r, oMul_l, oLen_str, oAdd_str, oSl_str, oSl_tup, oSl_lst, oSl_fz, rngOk_of, oEq_int, oEq_bl, beq_self_eq_true, Int.toNat_natCast, mFor_eq, mLc_eq, app_get0, app_get1, app_set0, app_set1, tyOk, oTuple_ref, oList_ref, oLen_refM, oIx_refM, oAppM, oExtM, srcOf_refM, ifLt24, ifLe24, L_law_kept_right_1, ha, hk, e0, t8, e]
  · rw [hkk] at hk
    have e0 : oIsN true (wo (X.w q) (some (g, s))) m' = .ok (.bl true) m' := rfl
    obtain ⟨x, hx, h1, h2, h3⟩ := kept_mem2 hkk
    have hm : X.cD x ∈ C.map X.cD := List.mem_map.mpr ⟨x, hx, rfl⟩
    have hcd : X.cD x = .tup [.int q, wo (X.w q) (some (g, s))] := by unfold Fix.cD; rw [h1, h2, h3]; rfl
    have hi : oInD true (.tup [.int q, wo (X.w q) (some (g, s))]) (.ref b) m' = .ok (.bl false) m' := by
      rw [← hcd, oInD_cell hb (by rw [exL_iff]; intro d hd; obtain ⟨y, _, rfl⟩ := List.mem_map.mp hd; exact cD_ex X y) (cD_ex X x) (cD_dp X x)]
      simp [hm]
    simp -implicitDefEqProofs (disch := first | assumption | omega | (simp only [List.length_cons, List.length_nil, List.length_append, List.length_map, List.length_take, List.length_drop, rngItems_len]; omega)) only [mSeq_eq, mIfS_eq, mSet_eq, mRet_eq, mRetN_eq, mExpr_eq, mPass_eq, mAsg_eq, mPar_eq, mAug_eq, bOf_eq, tOf_eq, tAndM_eq, tOrM_eq, tNotM_eq, tsYes_eq, mOp_eq, mUn_eq, mVar_eq, mC_eq, mCall_eq, mFun_eq, mFunKw_eq, mMeth_eq, mAnd_eq, mOr_eq, mNot_eq, mIf_eq, mChain_eq, mSl_eq, pNone_eq, pSome_eq, aCons_eq, aNil_eq, mTup_eq, mLst_eq, gN_eq, gT_eq, gsNil_eq, gsCons_eq, mkL_t, mkL_f, R.bind_ok, R.bind_no, R.nox_ok, List.getElem?_cons_zero, List.getElem?_cons_succ, List.set_cons_zero, List.set_cons_succ, List.length_cons, List.length_nil, List.append_nil, List.nil_append, List.cons_append, piApp_on, oLen_fz, oLen_lst, oLen_tup, oLt_int, oLe_int, oGt_int, oGe_int, oAdd_int, oSub_int, oIx_fz, oIx_lst, oIx_tup, oMax_int, oMin_int, oInt_bl, oInt_int, oIsi_bl, oNeg_int, oTuple_lst, oTuple_tup, iR1_eq, iR2_eq, iSq_eq, iStrM_eq, srcOf_tup, srcOf_lst, srcOf_fz, if_true, if_false, Bool.false_eq_true, Bool.true_eq_false, reduceIte, Nat.reduceAdd, Nat.reduceLeDiff, Nat.reduceEqDiff, decide_true, decide_false, and_self, and_true, true_and, oMod_int, oMul_r, oMul_l, oLen_str, oAdd_str, oSl_str, oSl_tup, oSl_lst, oSl_fz, rngOk_of, oEq_int, oEq_bl, beq_self_eq_true, Int.toNat_natCast, mFor_eq, mLc_eq, app_get0, app_get1, app_set0, app_set1, tyOk, oTuple_ref, oList_ref, oLen_refM, oIx_refM, oAppM, oExtM, srcOf_refM, ifLt24, ifLe24, L_law_kept_right_1, ha, hk, e0, hi, t8, e]
theorem kept_right_eq (X : Fix) (hX : X.Ok) {M : Mem} {a b : Nat} {C : List Lt} (ha : M[a]? = some (.lst (two X C))) (hb : M[b]? = some (.lst (C.map X.cD))) (hC : C.length < 100000) (t : Int) (hg : ∀ e ∈ C, e.g ≤ t) : g_law_kept_right [.ref a, .ref b, X.gr, .int t] M = .ok (.bl true) M := by
  obtain ⟨env', m', e, y4, y5, y6, rfl, rfl⟩ := forL_inv (g := gN 4) (body := L_law_kept_right_1) (fun _ env M' => ∃ y4 y5 y6, env = [some (.ref a), some (.ref b), some X.gr, some (.int t), y4, y5, y6] ∧ M' = M) (rngItems 0 2) 0 [some (.ref a), some (.ref b), some X.gr, some (.int t), none, none, none] M ⟨_, _, _, rfl, rfl⟩ (by
    rintro k d env M' hk' ⟨y4, y5, y6, rfl, rfl⟩
    obtain ⟨rfl, hkn⟩ := rngItems_get hk'
    obtain ⟨z5, z6, e⟩ := kept_right_turn X hX ha hb hC hkn t hg y5 y6
    have hk0 : (0 : Int) + (k : Int) = (k : Int) := by omega
    rw [hk0]
    exact ⟨_, _, e, _, _, _, rfl, rfl⟩)
  refine runB_rt (N := 7) ?_
  show B_law_kept_right [some (.ref a), some (.ref b), some X.gr, some (.int t), none, none, none] m' = _
  have t2 : (2 : Int).toNat = 2 := rfl
  simp -implicitDefEqProofs (disch := first | assumption | omega | (simp only [List.length_cons, List.length_nil, List.length_append, List.length_map, List.length_take, List.length_drop, rngItems_len]; omega)) only [mSeq_eq, mIfS_eq, mSet_eq, mRet_eq, mRetN_eq, mExpr_eq, mPass_eq, mAsg_eq, mPar_eq, mAug_eq, bOf_eq, tOf_eq, tAndM_eq, tOrM_eq, tNotM_eq, tsYes_eq, mOp_eq, mUn_eq, mVar_eq, mC_eq, mCall_eq, mFun_eq, mFunKw_eq, mMeth_eq, mAnd_eq, mOr_eq, mNot_eq, mIf_eq, mChain_eq, mSl_eq, pNone_eq, pSome_eq, aCons_eq, aNil_eq, mTup_eq, mLst_eq, gN_eq, gT_eq, gsNil_eq, gsCons_eq, mkL_t, mkL_f, R.bind_ok, R.bind_no, R.nox_ok, List.getElem?_cons_zero, List.getElem?_cons_succ, List.set_cons_zero, List.set_cons_succ, List.length_cons, List.length_nil, List.append_nil, List.nil_append, List.cons_append, piApp_on, oLen_fz, oLen_lst, oLen_tup, oLt_int, oLe_int, oGt_int, oGe_int, oAdd_int, oSub_int, oIx_fz, oIx_lst, oIx_tup, oMax_int, oMin_int, oInt_bl, oInt_int, oIsi_bl, oNeg_int, oTuple_lst, oTuple_tup, iR1_eq, iR2_eq, iSq_eq, iStrM_eq, srcOf_tup, srcOf_lst, srcOf_fz, if_true, if_false, Bool.false_eq_true, Bool.true_eq_false, reduceIte, Nat.reduceAdd, Nat.reduceLeDiff, Nat.reduceEqDiff, decide_true, decide_false, and_self, and_true, true_and, oMod_int, oMul_r, oMul_l, oLen_str, oAdd_str, oSl_str, oSl_tup, oSl_lst, oSl_fz, rngOk_of, oEq_int, oEq_bl, beq_self_eq_true, Int.toNat_natCast, mFor_eq, mLc_eq, app_get0, app_get1, app_set0, app_set1, tyOk, oTuple_ref, oList_ref, oLen_refM, oIx_refM, oAppM, oExtM, srcOf_refM, ifLt24, ifLe24, B_law_kept_right, t2, e]
/-! ### k30: sends, a turn, the law -/
theorem send_turn (X : Fix) {M : Mem} {f i j a b : Nat} {rs : List (List Int)} {n : Nat} {L C : List Lt} (h : Sk X M f i j a b rs n L C) (hr : ∀ r ∈ rs, r.length ≤ 6) (hL : L.length < 100000) (F : List D) (h0 : atI F 0 = some (.str X.n0)) (h1 : atI F 1 = some (.str X.n1)) (t : Int) (k : Nat) (x0 x5 x6 x9 x10 x11 x12 x13 x14 : Option D) :
    ∃ M' y12 E, Sk X M' f i j a b rs (n + 1) (L ++ E) C ∧ (∀ e ∈ E, e.q < 2 ∧ e.g = t) ∧ E.length ≤ 6 ∧ L_law_1 [x0, some (.ref f), some (.lst F), some X.gr, some (.ref i), x5, x6, some (.int t), some (.int k), x9, x10, x11, x12, x13, x14] M = .ok (.nx [x0, some (.ref f), some (.lst F), some X.gr, some (.ref i), x5, x6, some (.int t), some (.int k), x9, x10, x11, y12, x13, x14]) M' := by
  obtain ⟨q, M1, q2, s1, _, e1⟩ := h.draw 2 (by omega) (by omega)
  obtain ⟨s, M2, _, s2, _, e2⟩ := s1.draw 30 (by omega) (by omega)
  obtain ⟨M3, s3, e3⟩ := s2.send hr (by omega) q t (20 * (k : Int) + s) t
  have hgr := gr_at X (q := q) (by omega)
  have hi := insOf_at s1.net.net
  refine ⟨M3, some (.int q), _, s3, fun e he => ?_, ?_, ?_⟩
  · obtain ⟨d, _, rfl⟩ := List.mem_map.mp he
    exact ⟨by show q < 2; omega, rfl⟩
  · rw [List.length_map]; exact dels_len hr n
  · unfold Fix.gr
    simp -implicitDefEqProofs (disch := first | assumption | omega | (simp only [List.length_cons, List.length_nil, List.length_append, List.length_map, List.length_take, List.length_drop, rngItems_len]; omega)) only [mSeq_eq, mIfS_eq, mSet_eq, mRet_eq, mRetN_eq, mExpr_eq, mPass_eq, mAsg_eq, mPar_eq, mAug_eq, bOf_eq, tOf_eq, tAndM_eq, tOrM_eq, tNotM_eq, tsYes_eq, mOp_eq, mUn_eq, mVar_eq, mC_eq, mCall_eq, mFun_eq, mFunKw_eq, mMeth_eq, mAnd_eq, mOr_eq, mNot_eq, mIf_eq, mChain_eq, mSl_eq, pNone_eq, pSome_eq, aCons_eq, aNil_eq, mTup_eq, mLst_eq, gN_eq, gT_eq, gsNil_eq, gsCons_eq, mkL_t, mkL_f, R.bind_ok, R.bind_no, R.nox_ok, List.getElem?_cons_zero, List.getElem?_cons_succ, List.set_cons_zero, List.set_cons_succ, List.length_cons, List.length_nil, List.append_nil, List.nil_append, List.cons_append, piApp_on, oLen_fz, oLen_lst, oLen_tup, oLt_int, oLe_int, oGt_int, oGe_int, oAdd_int, oSub_int, oIx_fz, oIx_lst, oIx_tup, oMax_int, oMin_int, oInt_bl, oInt_int, oIsi_bl, oNeg_int, oTuple_lst, oTuple_tup, iR1_eq, iR2_eq, iSq_eq, iStrM_eq, srcOf_tup, srcOf_lst, srcOf_fz, if_true, if_false, Bool.false_eq_true, Bool.true_eq_false, reduceIte, Nat.reduceAdd, Nat.reduceLeDiff, Nat.reduceEqDiff, decide_true, decide_false, and_self, and_true, true_and, oMod_int, oMul_r, oMul_l, oLen_str, oAdd_str, oSl_str, oSl_tup, oSl_lst, oSl_fz, rngOk_of, oEq_int, oEq_bl, beq_self_eq_true, Int.toNat_natCast, mFor_eq, mLc_eq, app_get0, app_get1, app_set0, app_set1, tyOk, oTuple_ref, oList_ref, oLen_refM, oIx_refM, oAppM, oExtM, srcOf_refM, ifLt24, ifLe24, L_law_1, e1, mMth_eq, hi, lk_send, h0, h1, hgr, e2, full_add, e3]
theorem sends (X : Fix) (f i a b j : Nat) (rs : List (List Int)) (hr : ∀ r ∈ rs, r.length ≤ 6) (C : List Lt) (F : List D) (h0 : atI F 0 = some (.str X.n0)) (h1 : atI F 1 = some (.str X.n1)) (t : Int) (k : Nat) {M : Mem} {n : Nat} {L : List Lt} (h : Sk X M f i j a b rs n L C) (hL : L.length < 1000) (m : Nat) (hm : m ≤ 3) (x0 x5 x6 x9 x10 x11 x12 x13 x14 : Option D) :
    ∃ M' n' y12 y14 E, Sk X M' f i j a b rs n' (L ++ E) C ∧ (∀ e ∈ E, e.q < 2 ∧ e.g = t) ∧ E.length ≤ 18 ∧ forL (fun _ => True) (gN 14) L_law_1 (rngItems 0 m) [x0, some (.ref f), some (.lst F), some X.gr, some (.ref i), x5, x6, some (.int t), some (.int k), x9, x10, x11, x12, x13, x14] M = .ok (.nx [x0, some (.ref f), some (.lst F), some X.gr, some (.ref i), x5, x6, some (.int t), some (.int k), x9, x10, x11, y12, x13, y14]) M' := by
  obtain ⟨env', M', e, n', y12, y14, E, rfl, hS, hE, hl⟩ := forL_inv (g := gN 14) (body := L_law_1) (fun k' env M' => ∃ n' y12 y14 E, env = [x0, some (.ref f), some (.lst F), some X.gr, some (.ref i), x5, x6, some (.int t), some (.int k), x9, x10, x11, y12, x13, y14] ∧ Sk X M' f i j a b rs n' (L ++ E) C ∧ (∀ e ∈ E, e.q < 2 ∧ e.g = t) ∧ E.length ≤ 6 * k') (rngItems 0 m) 0 [x0, some (.ref f), some (.lst F), some X.gr, some (.ref i), x5, x6, some (.int t), some (.int k), x9, x10, x11, x12, x13, x14] M ⟨n, x12, x14, [], rfl, by rw [List.append_nil]; exact h, fun _ he => (by cases he), by simp⟩ (by
    rintro k' d env M1 hk ⟨n', y12, y14, E, rfl, hS, hE, hl⟩
    obtain ⟨rfl, hkn⟩ := rngItems_get hk
    obtain ⟨M2, z12, E2, s2, hE2, l2, e2⟩ := send_turn X hS hr (by simp; omega) F h0 h1 t k x0 x5 x6 x9 x10 x11 y12 x13 (some (.int (0 + (k' : Int))))
    refine ⟨_, M2, e2, n' + 1, z12, some (.int (0 + (k' : Int))), E ++ E2, rfl, by rw [← List.append_assoc]; exact s2, fun x hx => ?_, by simp; omega⟩
    rcases List.mem_append.mp hx with q | q
    · exact hE x q
    · exact hE2 x q)
  rw [rngItems_len] at hl
  exact ⟨M', n', y12, y14, E, hS, hE, by omega, e⟩
/-- what holds between the turns -/
structure Tn (X : Fix) (M : Mem) (f i j a b : Nat) (rs : List (List Int)) (n : Nat) (L C : List Lt) (t : Int) (k : Nat) : Prop where
  s : Sk X M f i j a b rs n L C
  lq : ∀ e ∈ L, e.q < 2 ∧ e.g < t
  cq : ∀ e ∈ C, e.q < 2 ∧ e.g < t
  ll : L.length + C.length ≤ 18 * k
theorem turn (X : Fix) (hX : X.Ok) (ns : List Int) (rs : List (List Int)) (hr : ∀ r ∈ rs, r.length ≤ 6) (F : List D) (h0 : atI F 0 = some (.str X.n0)) (h1 : atI F 1 = some (.str X.n1)) {M : Mem} {f i j a b n : Nat} {L C : List Lt} {t : Int} {k : Nat} (h : Tn X M f i j a b rs n L C t k) (hk : k < 20) (x1 x9 x10 x11 x12 x13 x14 : Option D) :
    ∃ (M' : Mem) (f' j' n' : Nat) (L' C' : List Lt) (t' : Int) (y9 y10 y11 y12 y13 y14 : Option D), Tn X M' f' i j' a b rs n' L' C' t' (k + 1) ∧ L_law_2 [some (.fz (intsD ns)), x1, some (.lst F), some X.gr, some (.ref i), some (.ref a), some (.ref b), some (.int t), some (.int k), x9, x10, x11, x12, x13, x14] M = .ok (.nx [some (.fz (intsD ns)), some (.ref f'), some (.lst F), some X.gr, some (.ref i), some (.ref a), some (.ref b), some (.int t'), some (.int k), y9, y10, y11, y12, y13, y14]) M' := by
  obtain ⟨hS, hLq, hCq, hll⟩ := h
  obtain ⟨M1, s1, e1⟩ := hS.feed ns (k + 1)
  have e1 : g_law_feed [.fz (intsD ns), .int ((k : Int) + 1)] M = .ok (.ref M.length) M1 := e1
  obtain ⟨M2, s2, e2⟩ := s1.due (by omega) t
  have hi1 := insOf_at s1.net.net
  have split : (L.filter fun e => decide (t < e.t)).length + (L.filter fun e => decide (e.t ≤ t)).length = L.length := by
    clear hLq hll e2 s2 s1 hS
    induction L with
    | nil => rfl
    | cons e r ih =>
      by_cases hc : t < e.t
      · rw [List.filter_cons_of_pos (by simpa using hc), List.filter_cons_of_neg (by simp; omega)]; simp; omega
      · rw [List.filter_cons_of_neg (by simpa using hc), List.filter_cons_of_pos (by simp; omega)]; simp; omega
  obtain ⟨E, hE⟩ : ∃ E, (L.filter fun e => decide (e.t ≤ t)) = E := ⟨_, rfl⟩
  obtain ⟨L1, hL1⟩ : ∃ L1, (L.filter fun e => decide (t < e.t)) = L1 := ⟨_, rfl⟩
  rw [hE] at e2 split
  rw [hL1] at s2 split
  have mE : ∀ e ∈ E, e.q < 2 ∧ e.g < t := fun e he => hLq e (by rw [← hE] at he; exact (List.mem_filter.mp he).1)
  have mL1 : ∀ e ∈ L1, e.q < 2 ∧ e.g < t := fun e he => hLq e (by rw [← hL1] at he; exact (List.mem_filter.mp he).1)
  obtain ⟨M3, y9, y10, y11, y12, y13, s3, e3⟩ := comes X M.length i M1.length a b rs n L1 (some (.fz (intsD ns))) (some (.lst F)) (some X.gr) (some (.ref i)) (some (.int t)) (some (.int k)) x14 E C M2 x9 x10 x11 x12 x13 s2 (fun e he => (mE e he).1) (by omega)
  have mC : ∀ e ∈ C ++ E, e.q < 2 ∧ e.g < t := fun e he => by
    rcases List.mem_append.mp he with q | q
    · exact hCq e q
    · exact mE e q
  have e4 := kept_right_eq X hX s3.kp s3.cm (by simp; omega) t (fun e he => by have := (mC e he).2; omega)
  obtain ⟨m, M4, m4, s4, _, e5⟩ := s3.draw 4 (by omega) (by omega)
  obtain ⟨M5, n', z12, z14, E2, s5, hE2, lE2, e6⟩ := sends X M.length i a b M1.length rs hr (C ++ E) F h0 h1 t k s4 (by omega) m (by omega) (some (.fz (intsD ns))) (some (.ref a)) (some (.ref b)) y9 y10 y11 y12 y13 x14
  obtain ⟨d, M6, d2, s6, _, e7⟩ := s5.draw 2 (by omega) (by omega)
  have lE : (E.map X.lt).length < 16777216 := by rw [List.length_map]; omega
  refine ⟨M6, M.length, M1.length, n', L1 ++ E2, C ++ E, t + 1 + d, y9, y10, y11, z12, y13, z14, ⟨s6, fun e he => ?_, fun e he => ?_, by simp; omega⟩, ?_⟩
  · rcases List.mem_append.mp he with q | q
    · have := mL1 e q; exact ⟨this.1, by omega⟩
    · have := hE2 e q; exact ⟨this.1, by omega⟩
  · have := mC e he; exact ⟨this.1, by omega⟩
  · simp -implicitDefEqProofs (disch := first | assumption | omega | (simp only [List.length_cons, List.length_nil, List.length_append, List.length_map, List.length_take, List.length_drop, rngItems_len]; omega)) only [mSeq_eq, mIfS_eq, mSet_eq, mRet_eq, mRetN_eq, mExpr_eq, mPass_eq, mAsg_eq, mPar_eq, mAug_eq, bOf_eq, tOf_eq, tAndM_eq, tOrM_eq, tNotM_eq, tsYes_eq, mOp_eq, mUn_eq, mVar_eq, mC_eq, mCall_eq, mFun_eq, mFunKw_eq, mMeth_eq, mAnd_eq, mOr_eq, mNot_eq, mIf_eq, mChain_eq, mSl_eq, pNone_eq, pSome_eq, aCons_eq, aNil_eq, mTup_eq, mLst_eq, gN_eq, gT_eq, gsNil_eq, gsCons_eq, mkL_t, mkL_f, R.bind_ok, R.bind_no, R.nox_ok, List.getElem?_cons_zero, List.getElem?_cons_succ, List.set_cons_zero, List.set_cons_succ, List.length_cons, List.length_nil, List.append_nil, List.nil_append, List.cons_append, piApp_on, oLen_fz, oLen_lst, oLen_tup, oLt_int, oLe_int, oGt_int, oGe_int, oAdd_int, oSub_int, oIx_fz, oIx_lst, oIx_tup, oMax_int, oMin_int, oInt_bl, oInt_int, oIsi_bl, oNeg_int, oTuple_lst, oTuple_tup, iR1_eq, iR2_eq, iSq_eq, iStrM_eq, srcOf_tup, srcOf_lst, srcOf_fz, if_true, if_false, Bool.false_eq_true, Bool.true_eq_false, reduceIte, Nat.reduceAdd, Nat.reduceLeDiff, Nat.reduceEqDiff, decide_true, decide_false, and_self, and_true, true_and, oMod_int, oMul_r, oMul_l, oLen_str, oAdd_str, oSl_str, oSl_tup, oSl_lst, oSl_fz, rngOk_of, oEq_int, oEq_bl, beq_self_eq_true, Int.toNat_natCast, mFor_eq, mLc_eq, app_get0, app_get1, app_set0, app_set1, tyOk, oTuple_ref, oList_ref, oLen_refM, oIx_refM, oAppM, oExtM, srcOf_refM, ifLt24, ifLe24, L_law_2, e1, mMth_eq, hi1, lk_due, e2, lE, e3, e4, Bool.not_true, e5, e6, e7]
theorem last_comp (X : Fix) (hX : X.Ok) {M : Mem} {f i j a b n : Nat} {rs : List (List Int)} {L C : List Lt} {t : Int} {k : Nat} (h : Tn X M f i j a b rs n L C t k) (x0 x1 x2 x4 x6 x8 x9 x10 x11 x12 x13 x14 : Option D) :
    compL (fun _ => True) (gN 12) tsYes C_law_3 (wipeE [x0, x1, x2, some X.gr, x4, some (.ref a), x6, some (.int t), x8, x9, x10, x11, x12, x13, x14] [12]) (rngItems 0 2) M = .ok [.bl false, .bl false] M := by
  have hr : rngItems 0 2 = [0, 1].map fun q : Nat => D.int q := rfl
  rw [hr, compL_m (M := M) (P := fun _ => True) trivial (g := gN 12) (f := C_law_3) (env := wipeE [x0, x1, x2, some X.gr, x4, some (.ref a), x6, some (.int t), x8, x9, x10, x11, x12, x13, x14] [12]) (fun q : Nat => D.int q) (fun _ => .bl false) [0, 1] fun q hq => ?_]
  · rfl
  have hq2 : q < 2 := by simp at hq; omega
  refine ⟨[x0, x1, x2, some X.gr, x4, some (.ref a), x6, some (.int t), x8, x9, x10, x11, some (.int q), x13, x14], rfl, ?_⟩
  obtain ⟨r, rt, hr⟩ := hX.w q
  have hk := two_at X C hq2
  have hgr := gr_at X hq2
  have k2 : atI (X.w q).g4 2 = some (prD (X.w q).o1 (X.w q).o2) := rfl
  have k4 : atI (X.w q).g4 4 = some (.tup ((X.w q).rs.map .str)) := rfl
  have kr : atI ((X.w q).rs.map D.str) 0 = some (.str r) := atI_nat (j := 0) (by rw [hr]; rfl)
  have e2 := serves_kept (X.w q) r rt hr (keptQ q C) (t + 20) 6 M
  have e3 : sv (t + 20) 6 (keptQ q C) = false := by
    rcases hkk : keptQ q C with _ | ⟨g, s⟩
    · rfl
    · obtain ⟨x, hx, _, h2, _⟩ := kept_mem2 hkk
      have := (h.cq x hx).2
      simp only [sv]
      rw [decide_eq_false (show ¬ (t + 20 < g + 6) by omega), Bool.and_false]
  rw [e3] at e2
  have ha := h.s.kp
  unfold Fix.gr
  simp -implicitDefEqProofs (disch := first | assumption | omega | (simp only [List.length_cons, List.length_nil, List.length_append, List.length_map, List.length_take, List.length_drop, rngItems_len]; omega)) only [mSeq_eq, mIfS_eq, mSet_eq, mRet_eq, mRetN_eq, mExpr_eq, mPass_eq, mAsg_eq, mPar_eq, mAug_eq, bOf_eq, tOf_eq, tAndM_eq, tOrM_eq, tNotM_eq, tsYes_eq, mOp_eq, mUn_eq, mVar_eq, mC_eq, mCall_eq, mFun_eq, mFunKw_eq, mMeth_eq, mAnd_eq, mOr_eq, mNot_eq, mIf_eq, mChain_eq, mSl_eq, pNone_eq, pSome_eq, aCons_eq, aNil_eq, mTup_eq, mLst_eq, gN_eq, gT_eq, gsNil_eq, gsCons_eq, mkL_t, mkL_f, R.bind_ok, R.bind_no, R.nox_ok, List.getElem?_cons_zero, List.getElem?_cons_succ, List.set_cons_zero, List.set_cons_succ, List.length_cons, List.length_nil, List.append_nil, List.nil_append, List.cons_append, piApp_on, oLen_fz, oLen_lst, oLen_tup, oLt_int, oLe_int, oGt_int, oGe_int, oAdd_int, oSub_int, oIx_fz, oIx_lst, oIx_tup, oMax_int, oMin_int, oInt_bl, oInt_int, oIsi_bl, oNeg_int, oTuple_lst, oTuple_tup, iR1_eq, iR2_eq, iSq_eq, iStrM_eq, srcOf_tup, srcOf_lst, srcOf_fz, if_true, if_false, Bool.false_eq_true, Bool.true_eq_false, reduceIte, Nat.reduceAdd, Nat.reduceLeDiff, Nat.reduceEqDiff, decide_true, decide_false, and_self, and_true, true_and, oMod_int, oMul_r, oMul_l, oLen_str, oAdd_str, oSl_str, oSl_tup, oSl_lst, oSl_fz, rngOk_of, oEq_int, oEq_bl, beq_self_eq_true, Int.toNat_natCast, mFor_eq, mLc_eq, app_get0, app_get1, app_set0, app_set1, tyOk, oTuple_ref, oList_ref, oLen_refM, oIx_refM, oAppM, oExtM, srcOf_refM, ifLt24, ifLe24, C_law_3, ha, hk, hgr, k2, k4, kr, e2]
theorem law_holds : ∀ ns : List Int, ns.length ≤ 63 → ∃ m, g_law [.fz (ns.map .int)] [] = .ok (.bl true) m := by
  intro ns hns
  obtain ⟨s, e0⟩ := feed_eq ns 0 []
  have e0 : g_law_feed [.fz (intsD ns), .int 0] [] = .ok (.ref 0) [s.c] := e0
  have f0 : FdAt [s.c] 0 [s.c] := FdAt.start (s := s) rfl
  obtain ⟨F, M1, nd, lF, hF, f1, e1⟩ := names_eq f0 6 (by omega)
  have e1 : g_law_names [.ref 0, .int 6] [s.c] = .ok (.lst (F.map .str)) M1 := e1
  obtain ⟨w0, M2, _, _, p0, _, _, f2, e2⟩ := grant_eq f1 F lF
  obtain ⟨w1, M3, _, _, p1, _, _, f3, e3⟩ := grant_eq f2 F.reverse (by rw [List.length_reverse]; exact lF)
  have rv : oRev false (.lst (F.map .str)) M2 = .ok (.lst (F.reverse.map .str)) M2 := by
    simp only [oRev, lstOf, mkL_f, List.map_reverse]
  obtain ⟨ws, M4, hws, hwl, f4, e4⟩ := weather_eq f3
  obtain ⟨rs, rfl, r1, r2⟩ := rows_of hws
  have l4 : M4.length = 1 := f4.len
  obtain ⟨s4, g4, _⟩ := f4.get
  obtain ⟨c, rfl⟩ : ∃ c, M4 = [c] := by
    cases M4 with
    | nil => cases l4
    | cons c r => cases r with
      | nil => exact ⟨c, rfl⟩
      | cons d r => cases l4
  have ex : ∀ {w : Wr}, 0 < w.rs.length → ∃ r rt, w.rs = r :: rt := fun {w} h => by
    cases hw : w.rs with
    | nil => rw [hw] at h; cases h
    | cons r rt => exact ⟨r, rt, rfl⟩
  have at_ : ∀ q, q < 6 → ∃ x, atI (F.map D.str) (q : Nat) = some (.str x) := fun q hq => by
    have hq' : q < F.length := by omega
    exact ⟨F[q], atI_nat (by rw [List.getElem?_map, List.getElem?_eq_getElem hq']; rfl)⟩
  obtain ⟨n0, h0⟩ := at_ 0 (by omega)
  obtain ⟨n1, h1⟩ := at_ 1 (by omega)
  obtain ⟨X, hXd⟩ : ∃ X : Fix, X = ⟨n0, n1, w0, w1⟩ := ⟨_, rfl⟩
  have h0 : atI (F.map D.str) 0 = some (.str X.n0) := by rw [hXd]; exact h0
  have h1 : atI (F.map D.str) 1 = some (.str X.n1) := by rw [hXd]; exact h1
  have hX : X.Ok := ⟨by rw [hXd]; exact ex p0, by rw [hXd]; exact ex p1⟩
  have hgr : D.lst [.tup w0.g4, .tup w1.g4] = X.gr := by rw [hXd]; rfl
  obtain ⟨MM, hMM⟩ : ∃ MM : Mem, [c, .ins 0 (netF (wthD rs) 0 2), .lst [], .lst [.non, .non], .lst []] = MM := ⟨_, rfl⟩
  have start : Tn X MM 0 1 2 3 4 rs 0 [] [] 0 0 := by
    subst hMM
    exact ⟨⟨⟨s4, g4⟩, ⟨rfl, rfl, by omega⟩, rfl, rfl, by omega, by omega, by omega, by omega, by omega, by omega, by omega, by omega, by omega⟩, fun _ he => (by cases he), fun _ he => (by cases he), by simp⟩
  obtain ⟨n, hn, hn1⟩ : ∃ n : Nat, (if (if ((intsD ns).length : Int) < 10 then ((intsD ns).length : Int) else 10) > 4 then (if ((intsD ns).length : Int) < 10 then ((intsD ns).length : Int) else 10) else 4) = (n : Int) ∧ n ≤ 10 := by
    by_cases h6 : ((intsD ns).length : Int) < 10
    · rw [if_pos h6]
      by_cases h2 : ((intsD ns).length : Int) > 4
      · rw [if_pos h2]; exact ⟨_, rfl, by omega⟩
      · rw [if_neg h2]; exact ⟨4, rfl, by omega⟩
    · rw [if_neg h6]; exact ⟨10, rfl, by omega⟩
  obtain ⟨env', M5, e5, f, j, n', L, C, t, x8, x9, x10, x11, x12, x13, x14, rfl, hT⟩ := forL_inv (g := gN 8) (body := L_law_2) (fun k env M' => ∃ f j n' L C t x8 x9 x10 x11 x12 x13 x14, env = [some (.fz (intsD ns)), some (.ref f), some (.lst (F.map .str)), some X.gr, some (.ref 1), some (.ref 3), some (.ref 4), some (.int t), x8, x9, x10, x11, x12, x13, x14] ∧ Tn X M' f 1 j 3 4 rs n' L C t k) (rngItems 0 n) 0 [some (.fz (intsD ns)), some (.ref 0), some (.lst (F.map .str)), some X.gr, some (.ref 1), some (.ref 3), some (.ref 4), some (.int 0), none, none, none, none, none, none, none] MM ⟨0, 2, 0, [], [], 0, _, _, _, _, _, _, _, rfl, start⟩ (by
    rintro k d env M hk ⟨f, j, n', L, C, t, x8, x9, x10, x11, x12, x13, x14, rfl, hT⟩
    obtain ⟨rfl, hkn⟩ := rngItems_get hk
    rw [Nat.zero_add] at hT
    have hk0 : (0 : Int) + (k : Int) = (k : Int) := by omega
    obtain ⟨M', f', j', n2, L', C', t', y9, y10, y11, y12, y13, y14, hT', e⟩ := turn X hX ns rs r1 (F.map .str) h0 h1 hT (by omega) (some (.ref f)) x9 x10 x11 x12 x13 x14
    rw [hk0]
    exact ⟨_, M', e, f', j', n2, L', C', t', _, y9, y10, y11, y12, y13, y14, rfl, by rw [Nat.zero_add]; exact hT'⟩)
  refine ⟨M5, runB_rt (N := 15) ?_⟩
  show B_law [some (.fz (intsD ns)), none, none, none, none, none, none, none, none, none, none, none, none, none, none] [] = _
  have e6 := last_comp X hX hT (some (.fz (intsD ns))) (some (.ref f)) (some (.lst (F.map .str))) (some (.ref 1)) (some (.ref 4)) x8 x9 x10 x11 x12 x13 x14
  have t2 : (2 : Int).toNat = 2 := rfl
  have ie := init_eq [c] (wthD rs)
  have ie : g_Net___init__ [.ref 1, wthD rs] [c, .ins 0 []] = .ok .non [c, .ins 0 (netF (wthD rs) 0 2), .lst []] := ie
  have an : oAny [.lst [.bl false, .bl false]] M5 = .ok (.bl false) M5 := rfl
  have wd : D.tup (rs.map rowD) = wthD rs := rfl
  simp -implicitDefEqProofs (disch := first | assumption | omega | (simp only [List.length_cons, List.length_nil, List.length_append, List.length_map, List.length_take, List.length_drop, rngItems_len]; omega)) only [mSeq_eq, mIfS_eq, mSet_eq, mRet_eq, mRetN_eq, mExpr_eq, mPass_eq, mAsg_eq, mPar_eq, mAug_eq, bOf_eq, tOf_eq, tAndM_eq, tOrM_eq, tNotM_eq, tsYes_eq, mOp_eq, mUn_eq, mVar_eq, mC_eq, mCall_eq, mFun_eq, mFunKw_eq, mMeth_eq, mAnd_eq, mOr_eq, mNot_eq, mIf_eq, mChain_eq, mSl_eq, pNone_eq, pSome_eq, aCons_eq, aNil_eq, mTup_eq, mLst_eq, gN_eq, gT_eq, gsNil_eq, gsCons_eq, mkL_t, mkL_f, R.bind_ok, R.bind_no, R.nox_ok, List.getElem?_cons_zero, List.getElem?_cons_succ, List.set_cons_zero, List.set_cons_succ, List.length_cons, List.length_nil, List.append_nil, List.nil_append, List.cons_append, piApp_on, oLen_fz, oLen_lst, oLen_tup, oLt_int, oLe_int, oGt_int, oGe_int, oAdd_int, oSub_int, oIx_fz, oIx_lst, oIx_tup, oMax_int, oMin_int, oInt_bl, oInt_int, oIsi_bl, oNeg_int, oTuple_lst, oTuple_tup, iR1_eq, iR2_eq, iSq_eq, iStrM_eq, srcOf_tup, srcOf_lst, srcOf_fz, if_true, if_false, Bool.false_eq_true, Bool.true_eq_false, reduceIte, Nat.reduceAdd, Nat.reduceLeDiff, Nat.reduceEqDiff, decide_true, decide_false, and_self, and_true, true_and, oMod_int, oMul_r, oMul_l, oLen_str, oAdd_str, oSl_str, oSl_tup, oSl_lst, oSl_fz, rngOk_of, oEq_int, oEq_bl, beq_self_eq_true, Int.toNat_natCast, mFor_eq, mLc_eq, app_get0, app_get1, app_set0, app_set1, tyOk, oTuple_ref, oList_ref, oLen_refM, oIx_refM, oAppM, oExtM, srcOf_refM, ifLt24, ifLe24, B_law, e0, e1, e2, rv, e3, hgr, e4, wd, mMakeKw_eq, ie, hMM, hn, e5, t2, e6, an, Bool.not_false]
end K30

set_option pp.deepTerms false
set_option pp.maxSteps 400
set_option Elab.async false
set_option linter.all false
set_option maxRecDepth 100000
set_option maxHeartbeats 4000000
namespace K30
open PySem PySem.Spec PyProof.Rows L2 Fn
/-- what the top has written -/
structure Tx (K : PySem.W.Frag) (mg : Str → Option Value) (cl : Nat → Addr) where
  a_serves : Addr
  d_serves : FuncData
  f_serves : Fun K "serves" "serves" s_serves a_serves d_serves
  m_serves : mg "serves" = some (.ref a_serves)
  a_later : Addr
  d_later : FuncData
  f_later : Fun K "later" "later" s_later a_later d_later
  m_later : mg "later" = some (.ref a_later)
  b_later : Binds K d_later ["one", "other"] []
  a_Net___init__ : Addr
  d_Net___init__ : FuncData
  f_Net___init__ : Fun K "__init__" "Net.__init__" s_Net___init__ a_Net___init__ d_Net___init__
  a_Net_send : Addr
  d_Net_send : FuncData
  f_Net_send : Fun K "send" "Net.send" s_Net_send a_Net_send d_Net_send
  me_Net_send : Meth K (cl 0) "send" a_Net_send
  b_Net_send : Binds K d_Net_send ["self", "letter", "tick"] []
  a_Net_due : Addr
  d_Net_due : FuncData
  f_Net_due : Fun K "due" "Net.due" s_Net_due a_Net_due d_Net_due
  me_Net_due : Meth K (cl 0) "due" a_Net_due
  b_Net_due : Binds K d_Net_due ["self", "tick"] []
  a_law_feed : Addr
  d_law_feed : FuncData
  f_law_feed : Fun K "_law_feed" "_law_feed" s_law_feed a_law_feed d_law_feed
  m_law_feed : mg "_law_feed" = some (.ref a_law_feed)
  b_law_feed : Binds K d_law_feed ["_law_script", "_law_k"] []
  a_law_draw : Addr
  d_law_draw : FuncData
  f_law_draw : Fun K "_law_draw" "_law_draw" s_law_draw a_law_draw d_law_draw
  m_law_draw : mg "_law_draw" = some (.ref a_law_draw)
  b_law_draw : Binds K d_law_draw ["_law_feed_here", "_law_many"] []
  a_law_any_serves : Addr
  d_law_any_serves : FuncData
  f_law_any_serves : Fun K "_law_any_serves" "_law_any_serves" s_law_any_serves a_law_any_serves d_law_any_serves
  m_law_any_serves : mg "_law_any_serves" = some (.ref a_law_any_serves)
  b_law_any_serves : Binds K d_law_any_serves ["_law_came", "_law_at", "_law_tick", "_law_lease_own"] []
  a_law_mixed : Addr
  d_law_mixed : FuncData
  f_law_mixed : Fun K "_law_mixed" "_law_mixed" s_law_mixed a_law_mixed d_law_mixed
  m_law_mixed : mg "_law_mixed" = some (.ref a_law_mixed)
  b_law_mixed : Binds K d_law_mixed ["_law_feed_here", "_law_some"] []
  a_law_grant : Addr
  d_law_grant : FuncData
  f_law_grant : Fun K "_law_grant" "_law_grant" s_law_grant a_law_grant d_law_grant
  m_law_grant : mg "_law_grant" = some (.ref a_law_grant)
  b_law_grant : Binds K d_law_grant ["_law_feed_here", "_law_names_here"] []
  a_law_weather : Addr
  d_law_weather : FuncData
  f_law_weather : Fun K "_law_weather" "_law_weather" s_law_weather a_law_weather d_law_weather
  m_law_weather : mg "_law_weather" = some (.ref a_law_weather)
  b_law_weather : Binds K d_law_weather ["_law_feed_here"] []
  a_law_kept_right : Addr
  d_law_kept_right : FuncData
  f_law_kept_right : Fun K "_law_kept_right" "_law_kept_right" s_law_kept_right a_law_kept_right d_law_kept_right
  m_law_kept_right : mg "_law_kept_right" = some (.ref a_law_kept_right)
  b_law_kept_right : Binds K d_law_kept_right ["_law_kept", "_law_came", "_law_grants", "_law_tick"] []
  a_law_names : Addr
  d_law_names : FuncData
  f_law_names : Fun K "_law_names" "_law_names" s_law_names a_law_names d_law_names
  m_law_names : mg "_law_names" = some (.ref a_law_names)
  b_law_names : Binds K d_law_names ["_law_feed_here", "_law_many"] []
  a_law : Addr
  d_law : FuncData
  f_law : Fun K "law" "law" s_law a_law d_law
  m_law : mg "law" = some (.ref a_law)
  b_law : Binds K d_law ["_law_script"] []
  cls_Net : Cls K (cl 0)
  c_Net : mg "Net" = some (.ref (cl 0))
  mk_Net : Mk K (cl 0) a_Net___init__
  na_Net_weather : NoAttr K (cl 0) "weather"
  na_Net_sent : NoAttr K (cl 0) "sent"
  na_Net_coming : NoAttr K (cl 0) "coming"
  dv_serves_4 : List Value
  du_serves_4 : List V
  bd_serves_4 : Binds K d_serves ["warrant", "holder", "right", "tick", "lease"] dv_serves_4
  vd_serves_4 : Vals du_serves_4 dv_serves_4
  cd_serves_4 : ClosedK K cl [.int 6] du_serves_4
  kk_Net___init___1_weather : KwBK K cl d_Net___init__ ["self", "weather"] 1 ["weather"] piApp []
  kb_serves_4 : KwB K d_serves ["warrant", "holder", "right", "tick", "lease"] 4 ["lease"] piApp [] []
  n_abs : mg "abs" = none
  n_any : mg "any" = none
  n_int : mg "int" = none
  n_len : mg "len" = none
  n_list : mg "list" = none
  n_max : mg "max" = none
  n_min : mg "min" = none
  n_range : mg "range" = none
  n_set : mg "set" = none
  n_sorted : mg "sorted" = none
  n_tuple : mg "tuple" = none
section
variable {P : Program} {w : World} {K : PySem.W.Frag} {mg : Str → Option Value} {base : Heap} {cl : Nat → Addr}
theorem ok_serves (T : Tx K mg cl) : FnOk P w K mg base CX0 1 T.a_serves T.d_serves ["warrant", "holder", "right", "tick", "lease"] (spOf ⟨K, cl⟩ 5 g_serves) := by
  refine fn_def (B := B_serves) T.f_serves sc_serves (fun cdv A outer s H E hr => ?_) (fun ds M _ => ref_run B_serves 12 ds M)
  have hu := huE hr
  have hu1 := hu1E hr
  exact (sb_cons (ss_if (st_isN (sn_var (pv 0))) (sb_one (ss_ret sn_bl)) sb_nil) (sb_cons (ss_asg (sl := [5, 6, 7, 8, 9, 10, 11]) (sn_var (pv 0)) (sg_tup rfl (sgs_cons (sg_name (pg_name (i := 5) sc_serves.nd rfl (.inl rfl)) (by decide)) (sgs_cons (sg_name (pg_name (i := 6) sc_serves.nd rfl (.inl rfl)) (by decide)) (sgs_cons (sg_name (pg_name (i := 7) sc_serves.nd rfl (.inl rfl)) (by decide)) (sgs_cons (sg_name (pg_name (i := 8) sc_serves.nd rfl (.inl rfl)) (by decide)) (sgs_cons (sg_name (pg_name (i := 9) sc_serves.nd rfl (.inl rfl)) (by decide)) (sgs_cons (sg_name (pg_name (i := 10) sc_serves.nd rfl (.inl rfl)) (by decide)) (sgs_cons (sg_name (pg_name (i := 11) sc_serves.nd rfl (.inl rfl)) (by decide)) sgs_nil))))))))) (sb_one (ss_ret (sn_and (sn_eq hu (sn_var (pv 7)) (sn_var (pv 1))) (sn_and (sn_inF (sn_var (pv 2)) (sn_var (pv 9))) (sn_one (sn_chain (op_le.or op_le_str) op2_ord (op_lt.or op_lt_str) op2_ord (sn_var (pv 10)) (sn_var (pv 3)) (sn_add false (sn_var (pv 10)) (sn_var (pv 4)))))))))))
theorem ok_later (T : Tx K mg cl) : FnOk P w K mg base CX0 1 T.a_later T.d_later ["one", "other"] (spOf ⟨K, cl⟩ 2 g_later) := by
  refine fn_def (B := B_later) T.f_later sc_later (fun cdv A outer s H E hr => ?_) (fun ds M _ => ref_run B_later 8 ds M)
  have hu := huE hr
  have hu1 := hu1E hr
  exact (sb_cons (ss_if (PW.pt (sw_or (st_isN (sn_var (pv 0))) (sw_or1 (st_isN (sn_var (pv 1)))))) (sb_one (ss_ret (sn_if (st_isN (sn_var (pv 0))) (sn_var (pv 1)) (sn_var (pv 0))))) sb_nil) (sb_cons (ss_asg (sl := [3, 4, 2]) (sn_var (pv 0)) (sg_star (i := 0) rfl (sgs_star (sg_name (pg_name (i := 2) sc_later.nd rfl (.inl rfl)) (by decide)) (sgs_cons (sg_name (pg_name (i := 3) sc_later.nd rfl (.inl rfl)) (by decide)) (sgs_cons (sg_name (pg_name (i := 4) sc_later.nd rfl (.inl rfl)) (by decide)) sgs_nil))) (by decide))) (sb_cons (ss_asg (sl := [6, 7, 5]) (sn_var (pv 1)) (sg_star (i := 0) rfl (sgs_star (sg_name (pg_name (i := 5) sc_later.nd rfl (.inl rfl)) (by decide)) (sgs_cons (sg_name (pg_name (i := 6) sc_later.nd rfl (.inl rfl)) (by decide)) (sgs_cons (sg_name (pg_name (i := 7) sc_later.nd rfl (.inl rfl)) (by decide)) sgs_nil))) (by decide))) (sb_one (ss_ret (sn_if (st_cmp (op_ltP hu) op2_ordD (nomark _) (sn_tup (sa_cons (sn_var (pv 3)) (sa_cons (sn_var (pv 4)) sa_nil))) (sn_tup (sa_cons (sn_var (pv 6)) (sa_cons (sn_var (pv 7)) sa_nil)))) (sn_var (pv 1)) (sn_var (pv 0))))))))
theorem ok_Net___init__ (T : Tx K mg cl) : FnOk P w K mg base CX0 1 T.a_Net___init__ T.d_Net___init__ ["self", "weather"] (spOf ⟨K, cl⟩ 2 g_Net___init__) := by
  refine fn_def (B := B_Net___init__) T.f_Net___init__ sc_Net___init__ (fun cdv A outer s H E hr => ?_) (fun ds M _ => ref_run B_Net___init__ 2 ds M)
  have hu := huE hr
  have hu1 := hu1E hr
  exact (sb_cons (ss_fld (c0 := 0) T.cls_Net T.na_Net_weather (sn_var (pv 0)) (sn_var (pv 1))) (sb_cons (ss_fld (c0 := 0) T.cls_Net T.na_Net_sent (sn_var (pv 0)) sn_int) (sb_one (ss_fld (c0 := 0) T.cls_Net T.na_Net_coming (sn_var (pv 0)) (sn_lst true sa_nil)))))
theorem ok_Net_send (T : Tx K mg cl) : FnOk P w K mg base CX0 1 T.a_Net_send T.d_Net_send ["self", "letter", "tick"] (spOf ⟨K, cl⟩ 3 g_Net_send) := by
  refine fn_def (B := B_Net_send) T.f_Net_send sc_Net_send (fun cdv A outer s H E hr => ?_) (fun ds M _ => ref_run B_Net_send 5 ds M)
  have hu := huE hr
  have hu1 := hu1E hr
  exact (sb_cons (ss_set (i := 3) (sn_tup (sa_cons sn_int sa_nil)) sc_Net_send.nd rfl (.inl rfl)) (sb_cons (ss_if (st_cmp (op_gt.or op_gt_str) op2_ord (nomark _) (sn_callB call_lenA fn_len rfl T.n_len PySem.boot_len (sa_cons (sn_fld (c0 := 0) T.cls_Net T.na_Net_weather (sn_var (pv 0))) sa_nil)) sn_int) (sb_one (ss_set (i := 3) (sn_ix (sn_fld (c0 := 0) T.cls_Net T.na_Net_weather (sn_var (pv 0))) (sn_mod (sn_fld (c0 := 0) T.cls_Net T.na_Net_sent (sn_var (pv 0))) (sn_callB call_lenA fn_len rfl T.n_len PySem.boot_len (sa_cons (sn_fld (c0 := 0) T.cls_Net T.na_Net_weather (sn_var (pv 0))) sa_nil)))) sc_Net_send.nd rfl (.inl rfl))) sb_nil) (sb_cons (ss_fldAug (c0 := 0) (g := fun i j => i + j) (by exact in_add) T.cls_Net T.na_Net_sent (sn_var (pv 0)) sn_int) (sb_one (ss_expr (sn_meth PySem.F.plainAttrs_list PySem.F.slot_list_extend PySem.F.type_list_extend mt_extend mt1_extend (sn_fld (c0 := 0) T.cls_Net T.na_Net_coming (sn_var (pv 0))) (sa_cons (sn_lc false (own := [("delay", 4)]) rfl sc_Net_send.nd (si_seq (sn_var (pv 3))) (blkOk_by (N := ["self", "letter", "tick", "delays", "delay"]) (sc := defScope s_Net_send) (by decide +kernel)) (fun _ _ _ _ _ => (sg_name (pg_name (i := 4) sc_Net_send.nd rfl (.inl rfl)) (by decide))) (fun _ _ _ _ _ => sts_nil) (fun _ _ _ _ _ => (sn_tup (sa_cons (sn_add false (sn_var (pv 2)) (sn_var (pv 4))) (sa_cons (sn_var (pv 1)) sa_nil))))) sa_nil)))))))
theorem ok_Net_due (T : Tx K mg cl) : FnOk P w K mg base CX0 1 T.a_Net_due T.d_Net_due ["self", "tick"] (spOf ⟨K, cl⟩ 2 g_Net_due) := by
  refine fn_def (B := B_Net_due) T.f_Net_due sc_Net_due (fun cdv A outer s H E hr => ?_) (fun ds M _ => ref_run B_Net_due 5 ds M)
  have hu := huE hr
  have hu1 := hu1E hr
  exact (sb_cons (ss_setLc false (i := 2) (own := [("at", 3), ("letter", 4)]) rfl sc_Net_due.nd rfl rfl (sw_true rfl rfl rfl (by decide +kernel)) (si_seq (sn_fld (c0 := 0) T.cls_Net T.na_Net_coming (sn_var (pv 0)))) (blkOk_by (N := ["self", "tick", "found", "at", "letter"]) (sc := defScope s_Net_due) (by decide +kernel)) (fun _ _ _ _ _ => (sg_tup rfl (sgs_cons (sg_name (pg_name (i := 3) sc_Net_due.nd rfl (.inl rfl)) (by decide)) (sgs_cons (sg_name (pg_name (i := 4) sc_Net_due.nd rfl (.inl rfl)) (by decide)) sgs_nil)))) (fun _ _ _ _ _ => (sts_one (st_cmp (op_le.or op_le_str) op2_ord (nomark _) (sn_var (pv 3)) (sn_var (pv 1))))) (fun _ _ _ _ _ => (sn_var (pv 4)))) (sb_cons (ss_fld (c0 := 0) T.cls_Net T.na_Net_coming (sn_var (pv 0)) (sn_lc true (own := [("at", 3), ("letter", 4)]) rfl sc_Net_due.nd (si_seq (sn_fld (c0 := 0) T.cls_Net T.na_Net_coming (sn_var (pv 0)))) (blkOk_by (N := ["self", "tick", "found", "at", "letter"]) (sc := defScope s_Net_due) (by decide +kernel)) (fun _ _ _ _ _ => (sg_tup rfl (sgs_cons (sg_name (pg_name (i := 3) sc_Net_due.nd rfl (.inl rfl)) (by decide)) (sgs_cons (sg_name (pg_name (i := 4) sc_Net_due.nd rfl (.inl rfl)) (by decide)) sgs_nil)))) (fun _ _ _ _ _ => (sts_one (st_cmp (op_gt.or op_gt_str) op2_ord (nomark _) (sn_var (pv 3)) (sn_var (pv 1))))) (fun _ _ _ _ _ => (sn_tup (sa_cons (sn_var (pv 3)) (sa_cons (sn_var (pv 4)) sa_nil)))))) (sb_one (ss_ret (sn_var (pv 2))))))
theorem ok_law_feed (T : Tx K mg cl) : FnOk P w K mg base CX0 1 T.a_law_feed T.d_law_feed ["_law_script", "_law_k"] (spOf ⟨K, cl⟩ 2 g_law_feed) := by
  refine fn_def (B := B_law_feed) T.f_law_feed sc_law_feed (fun cdv A outer s H E hr => ?_) (fun ds M _ => ref_run B_law_feed 4 ds M)
  have hu := huE hr
  have hu1 := hu1E hr
  exact (sb_cons (ss_set (i := 2) (sn_add false (sn_mul false sn_int (sn_var (pv 1))) sn_int) sc_law_feed.nd rfl (.inl rfl)) (sb_cons (ss_if (st_cmp (op_lt.or op_lt_str) op2_ord (nomark _) (sn_var (pv 1)) (sn_callB call_lenA fn_len rfl T.n_len PySem.boot_len (sa_cons (sn_var (pv 0)) sa_nil))) (sb_one (ss_set (i := 2) (sn_callB call_abs fn_abs rfl T.n_abs (by decide +kernel) (sa_cons (sn_ix (sn_var (pv 0)) (sn_var (pv 1))) sa_nil)) sc_law_feed.nd rfl (.inl rfl))) (sb_one (ss_if (st_cmp (op_gt.or op_gt_str) op2_ord (nomark _) (sn_callB call_lenA fn_len rfl T.n_len PySem.boot_len (sa_cons (sn_var (pv 0)) sa_nil)) sn_int) (sb_one (ss_set (i := 2) (sn_add false (sn_var (pv 2)) (sn_mul false (sn_mod (sn_ix (sn_var (pv 0)) (sn_mod (sn_var (pv 1)) (sn_callB call_lenA fn_len rfl T.n_len PySem.boot_len (sa_cons (sn_var (pv 0)) sa_nil)))) sn_int) sn_int)) sc_law_feed.nd rfl (.inl rfl))) sb_nil))) (sb_cons (ss_set (i := 3) (sn_add false (sn_mod (sn_add false (sn_add false (sn_mul false (sn_mod (sn_var (pv 2)) sn_int) sn_int) (sn_mul false sn_int (sn_var (pv 1)))) sn_int) sn_int) sn_int) sc_law_feed.nd rfl (.inl rfl)) (sb_one (ss_ret (sn_lst true (sa_cons (sn_ix (sn_lst false (sa_cons sn_int (sa_cons (sn_var (pv 2)) sa_nil))) (sn_callTy call_int1 fn_int rfl T.n_int (by decide +kernel) (sa_cons (sn_ge (sn_var (pv 2)) (sn_pow sn_int sn_int)) sa_nil))) (sa_cons (sn_var (pv 3)) (sa_cons sn_int sa_nil)))))))))
theorem ok_law_draw (T : Tx K mg cl) : FnOk P w K mg base CX0 1 T.a_law_draw T.d_law_draw ["_law_feed_here", "_law_many"] (spOf ⟨K, cl⟩ 2 g_law_draw) := by
  refine fn_def (B := B_law_draw) T.f_law_draw sc_law_draw (fun cdv A outer s H E hr => ?_) (fun ds M _ => ref_run B_law_draw 4 ds M)
  have hu := huE hr
  have hu1 := hu1E hr
  exact (sb_cons (ss_if (st_cmp (op_gt.or op_gt_str) op2_ord (nomark _) (sn_ix (sn_var (pv 0)) sn_int) sn_int) (sb_cons (ss_set (i := 2) (sn_mod (sn_ix (sn_var (pv 0)) sn_int) (sn_var (pv 1))) sc_law_draw.nd rfl (.inl rfl)) (sb_cons (ss_asg (sl := []) (sn_div (sn_ix (sn_var (pv 0)) sn_int) (sn_var (pv 1))) (sg_ix (sn_var (pv 0)) sn_int)) (sb_one (ss_ret (sn_var (pv 2)))))) sb_nil) (sb_cons (ss_asg (sl := []) (sn_add false (sn_ix (sn_var (pv 0)) sn_int) sn_int) (sg_ix (sn_var (pv 0)) sn_int)) (sb_cons (ss_set (i := 3) (sn_mod (sn_mul false (sn_add false (sn_ix (sn_var (pv 0)) sn_int) (sn_mul false sn_int (sn_ix (sn_var (pv 0)) sn_int))) sn_int) sn_int) sc_law_draw.nd rfl (.inl rfl)) (sb_cons (ss_asg (sl := []) (sn_add false (sn_mod (sn_add false (sn_mul false (sn_var (pv 3)) sn_int) sn_int) sn_int) sn_int) (sg_ix (sn_var (pv 0)) sn_int)) (sb_one (ss_ret (sn_mod (sn_div (sn_add false (sn_mul false (sn_var (pv 3)) sn_int) (sn_ix (sn_var (pv 0)) sn_int)) sn_int) (sn_var (pv 1)))))))))
theorem ok_law_any_serves (T : Tx K mg cl) : FnOk P w K mg base CX0 1 T.a_law_any_serves T.d_law_any_serves ["_law_came", "_law_at", "_law_tick", "_law_lease_own"] (spOf ⟨K, cl⟩ 4 g_law_any_serves) := by
  refine fn_def (B := B_law_any_serves) T.f_law_any_serves sc_law_any_serves (fun cdv A outer s H E hr => ?_) (fun ds M _ => ref_run B_law_any_serves 6 ds M)
  have hu := huE hr
  have hu1 := hu1E hr
  exact (sb_one (ss_ret (sn_callB (cr_any rfl) fn_allany rfl T.n_any (by decide +kernel) (sa_cons (sn_lc false (own := [("_law_other", 4), ("_law_one", 5)]) rfl sc_law_any_serves.nd (si_seq (sn_var (pv 0))) (blkOk_by (N := ["_law_came", "_law_at", "_law_tick", "_law_lease_own", "_law_other", "_law_one"]) (sc := defScope s_law_any_serves) (by decide +kernel)) (fun _ _ _ _ _ => (sg_tup rfl (sgs_cons (sg_name (pg_name (i := 4) sc_law_any_serves.nd rfl (.inl rfl)) (by decide)) (sgs_cons (sg_name (pg_name (i := 5) sc_law_any_serves.nd rfl (.inl rfl)) (by decide)) sgs_nil)))) (fun _ _ _ _ _ => sts_nil) (fun _ _ _ _ _ => (sn_and (sn_eq hu (sn_var (pv 4)) (sn_var (pv 1))) (sn_one (sn_chain (op_le.or op_le_str) op2_ord (op_lt.or op_lt_str) op2_ord sn_int (sn_sub (sn_var (pv 2)) (sn_ix (sn_var (pv 5)) sn_int)) (sn_var (pv 3))))))) sa_nil))))
theorem ok_law_mixed (T : Tx K mg cl) : FnOk P w K mg base CX0 2 T.a_law_mixed T.d_law_mixed ["_law_feed_here", "_law_some"] (spOf ⟨K, cl⟩ 2 g_law_mixed) := by
  refine fn_def (B := B_law_mixed) T.f_law_mixed sc_law_mixed (fun cdv A outer s H E hr => ?_) (fun ds M _ => ref_gc B_law_mixed 4 ds M)
  have hu := huE hr
  have hu1 := hu1E hr
  exact (sb_cons (ss_par (i := 2) (j := 3) rfl sc_law_mixed.nd rfl rfl (by decide) rfl rfl (sa_cons (sn_callTy call_list_of (fn_list (c := true)) rfl T.n_list (by decide +kernel) (sa_cons (sn_var (pv 1)) sa_nil)) (sa_cons (sn_lst true sa_nil) sa_nil)) (by rfl)) (sb_cons (ss_while PassesOwn.never (st_cmp (op_neP hu) op2_ne (nomark _) (sn_var (pv 2)) (sn_lst false sa_nil)) (sb_one (ss_expr (sn_meth PySem.F.plainAttrs_list PySem.F.slot_list_append PySem.F.type_list_append mt_append mt1_append (sn_var (pv 3)) (sa_cons (sn_meth PySem.F.plainAttrs_list PySem.F.slot_list_pop PySem.F.type_list_pop mt_popAt mt1_popAt (sn_var (pv 2)) (sa_cons (sn_call (ok_law_draw T) (hr.mono (by decide)) rfl T.m_law_draw T.f_law_draw.kp T.b_law_draw .nil closed_nil passA (sa_cons (sn_var (pv 0)) (sa_cons (sn_callB call_lenA fn_len rfl T.n_len PySem.boot_len (sa_cons (sn_var (pv 2)) sa_nil)) sa_nil))) sa_nil)) sa_nil))))) (sb_one (ss_ret (sn_var (pv 3))))))
theorem ok_law_grant (T : Tx K mg cl) : FnOk P w K mg base CX0 2 T.a_law_grant T.d_law_grant ["_law_feed_here", "_law_names_here"] (spOf ⟨K, cl⟩ 2 g_law_grant) := by
  refine fn_def (B := B_law_grant) T.f_law_grant sc_law_grant (fun cdv A outer s H E hr => ?_) (fun ds M _ => ref_run B_law_grant 5 ds M)
  have hu := huE hr
  have hu1 := hu1E hr
  exact (sb_cons (ss_set (i := 2) (sn_sortSet false rfl rfl rfl rfl T.n_sorted rfl T.n_set (sn_lc false (own := [("_law_k", 3)]) rfl sc_law_grant.nd (si_range1 rfl T.n_range (sa_cons (sn_add false sn_int (sn_call (ok_law_draw T) (hr.mono (by decide)) rfl T.m_law_draw T.f_law_draw.kp T.b_law_draw .nil closed_nil passA (sa_cons (sn_var (pv 0)) (sa_cons sn_int sa_nil)))) sa_nil)) (blkOk_by (N := ["_law_feed_here", "_law_names_here", "_law_chain", "_law_k", "_law_rights"]) (sc := defScope s_law_grant) (by decide +kernel)) (fun _ _ _ _ _ => (sg_name (pg_name (i := 3) sc_law_grant.nd rfl (.inl rfl)) (by decide))) (fun _ _ _ _ _ => sts_nil) (fun _ _ _ _ _ => (sn_call (ok_law_draw T) (hr.mono (by decide)) rfl T.m_law_draw T.f_law_draw.kp T.b_law_draw .nil closed_nil passA (sa_cons (sn_var (pv 0)) (sa_cons sn_int sa_nil)))))) sc_law_grant.nd rfl (.inl rfl)) (sb_cons (ss_set (i := 4) (sn_callTy call_tuple_of fn_tuple rfl T.n_tuple (by decide +kernel) (sa_cons (sn_callB (cr_sortedD hu) (fn_sorted (c := false)) rfl T.n_sorted (by decide +kernel) (sa_cons (sn_sl false (sn_var (pv 1)) sp_none (sp_some (sn_add false sn_int (sn_call (ok_law_draw T) (hr.mono (by decide)) rfl T.m_law_draw T.f_law_draw.kp T.b_law_draw .nil closed_nil passA (sa_cons (sn_var (pv 0)) (sa_cons sn_int sa_nil)))))) sa_nil)) sa_nil)) sc_law_grant.nd rfl (.inl rfl)) (sb_one (ss_ret (sn_tup (sa_cons (sn_ix (sn_var (pv 1)) sn_int) (sa_cons (sn_ix (sn_var (pv 2)) (sn_neg sn_int)) (sa_cons (sn_tup (sa_cons (sn_ix (sn_var (pv 1)) (sn_add false sn_int (sn_call (ok_law_draw T) (hr.mono (by decide)) rfl T.m_law_draw T.f_law_draw.kp T.b_law_draw .nil closed_nil passA (sa_cons (sn_var (pv 0)) (sa_cons sn_int sa_nil))))) (sa_cons (sn_ix (sn_var (pv 1)) (sn_call (ok_law_draw T) (hr.mono (by decide)) rfl T.m_law_draw T.f_law_draw.kp T.b_law_draw .nil closed_nil passA (sa_cons (sn_var (pv 0)) (sa_cons sn_int sa_nil)))) sa_nil))) (sa_cons (sn_callTy call_tuple_of fn_tuple rfl T.n_tuple (by decide +kernel) (sa_cons (sn_var (pv 2)) sa_nil)) (sa_cons (sn_var (pv 4)) sa_nil))))))))))
theorem ok_law_weather (T : Tx K mg cl) : FnOk P w K mg base CX0 2 T.a_law_weather T.d_law_weather ["_law_feed_here"] (spOf ⟨K, cl⟩ 1 g_law_weather) := by
  refine fn_def (B := B_law_weather) T.f_law_weather sc_law_weather (fun cdv A outer s H E hr => ?_) (fun ds M _ => ref_gc B_law_weather 5 ds M)
  have hu := huE hr
  have hu1 := hu1E hr
  exact (sb_cons (ss_set (i := 1) (sn_lst true sa_nil) sc_law_weather.nd rfl (.inl rfl)) (sb_cons (ss_for (sl := [2]) PassesOwn.never rfl (si_range1 rfl T.n_range (sa_cons (sn_call (ok_law_draw T) (hr.mono (by decide)) rfl T.m_law_draw T.f_law_draw.kp T.b_law_draw .nil closed_nil passA (sa_cons (sn_var (pv 0)) (sa_cons sn_int sa_nil))) sa_nil)) (sg_name (pg_name (i := 2) sc_law_weather.nd rfl (.inl rfl)) (by decide)) (sb_cons (ss_set (i := 3) (sn_ix (sn_lst false (sa_cons sn_int (sa_cons sn_int (sa_cons sn_int (sa_cons sn_int (sa_cons sn_int (sa_cons sn_int sa_nil))))))) (sn_call (ok_law_draw T) (hr.mono (by decide)) rfl T.m_law_draw T.f_law_draw.kp T.b_law_draw .nil closed_nil passA (sa_cons (sn_var (pv 0)) (sa_cons sn_int sa_nil)))) sc_law_weather.nd rfl (.inl rfl)) (sb_one (ss_expr (sn_meth PySem.F.plainAttrs_list PySem.F.slot_list_append PySem.F.type_list_append mt_append mt1_append (sn_var (pv 1)) (sa_cons (sn_callTy call_tuple_of fn_tuple rfl T.n_tuple (by decide +kernel) (sa_cons (sn_lc false (own := [("_law_turn", 4)]) rfl sc_law_weather.nd (si_range1 rfl T.n_range (sa_cons (sn_var (pv 3)) sa_nil)) (blkOk_by (N := ["_law_feed_here", "_law_found", "_law_k", "_law_many", "_law_turn"]) (sc := defScope s_law_weather) (by decide +kernel)) (fun _ _ _ _ _ => (sg_name (pg_name (i := 4) sc_law_weather.nd rfl (.inl rfl)) (by decide))) (fun _ _ _ _ _ => sts_nil) (fun _ _ _ _ _ => (sn_add false sn_int (sn_call (ok_law_draw T) (hr.mono (by decide)) rfl T.m_law_draw T.f_law_draw.kp T.b_law_draw .nil closed_nil passA (sa_cons (sn_var (pv 0)) (sa_cons sn_int sa_nil)))))) sa_nil)) sa_nil)))))) (sb_one (ss_ret (sn_callTy call_tuple_of fn_tuple rfl T.n_tuple (by decide +kernel) (sa_cons (sn_var (pv 1)) sa_nil))))))
theorem ok_law_kept_right (T : Tx K mg cl) : FnOk P w K mg base CX0 2 T.a_law_kept_right T.d_law_kept_right ["_law_kept", "_law_came", "_law_grants", "_law_tick"] (spOf ⟨K, cl⟩ 4 g_law_kept_right) := by
  refine fn_def (B := B_law_kept_right) T.f_law_kept_right sc_law_kept_right (fun cdv A outer s H E hr => ?_) (fun ds M _ => ref_run B_law_kept_right 7 ds M)
  have hu := huE hr
  have hu1 := hu1E hr
  exact (sb_cons (ss_for (sl := [4]) PassesOwn.never rfl (si_range1 rfl T.n_range (sa_cons sn_int sa_nil)) (sg_name (pg_name (i := 4) sc_law_kept_right.nd rfl (.inl rfl)) (by decide)) (sb_cons (ss_if (PW.pt (sw_and (st_notN (sn_ix (sn_var (pv 0)) (sn_var (pv 4)))) (sw_and1 (st_cmp (op_notInP hu) op2_inD rfl (sn_tup (sa_cons (sn_var (pv 4)) (sa_cons (sn_ix (sn_var (pv 0)) (sn_var (pv 4))) sa_nil))) (sn_var (pv 1)))))) (sb_one (ss_ret sn_bl)) sb_nil) (sb_one (ss_for (sl := [5]) PassesOwn.never rfl (si_range2 rfl T.n_range (sa_cons sn_int (sa_cons sn_int sa_nil))) (sg_name (pg_name (i := 5) sc_law_kept_right.nd rfl (.inl rfl)) (by decide)) (sb_cons (ss_set (i := 6) (sn_call (ok_law_any_serves T) (hr.mono (by decide)) rfl T.m_law_any_serves T.f_law_any_serves.kp T.b_law_any_serves .nil closed_nil passA (sa_cons (sn_var (pv 1)) (sa_cons (sn_var (pv 4)) (sa_cons (sn_var (pv 3)) (sa_cons (sn_var (pv 5)) sa_nil))))) sc_law_kept_right.nd rfl (.inl rfl)) (sb_one (ss_if (st_cmp (op_neP hu) op2_ne (nomark _) (sn_callKw (n := 4) (ok_serves T) (hr.mono (by decide)) rfl T.m_serves T.f_serves.kp T.kb_serves_4 passA (sa_cons (sn_ix (sn_var (pv 0)) (sn_var (pv 4))) (sa_cons (sn_ix (sn_ix (sn_var (pv 2)) (sn_var (pv 4))) sn_int) (sa_cons (sn_ix (sn_ix (sn_ix (sn_var (pv 2)) (sn_var (pv 4))) sn_int) sn_int) (sa_cons (sn_var (pv 3)) sa_nil)))) (sk_cons (sn_var (pv 5)) sk_nil)) (sn_var (pv 6))) (sb_one (ss_ret sn_bl)) sb_nil))))))) (sb_one (ss_ret sn_bl)))
theorem ok_law_names (T : Tx K mg cl) : FnOk P w K mg base CX0 3 T.a_law_names T.d_law_names ["_law_feed_here", "_law_many"] (spOf ⟨K, cl⟩ 2 g_law_names) := by
  refine fn_def (B := B_law_names) T.f_law_names sc_law_names (fun cdv A outer s H E hr => ?_) (fun ds M _ => ref_run B_law_names 7 ds M)
  have hu := huE hr
  have hu1 := hu1E hr
  exact (sb_cons (ss_set (i := 2) (sn_strL (by decide +kernel)) sc_law_names.nd rfl (.inr rfl)) (sb_cons (ss_set (i := 3) (sn_meth PySem.F.plainAttrs_str PySem.F.slot_str_join PySem.F.type_str_join mt_join mt1_join (sn_strL (by decide +kernel)) (sa_cons (sn_lc false (own := [("_law_k", 4)]) rfl sc_law_names.nd (si_range1 rfl T.n_range (sa_cons (sn_call (ok_law_draw T) (hr.mono (by decide)) rfl T.m_law_draw T.f_law_draw.kp T.b_law_draw .nil closed_nil passA (sa_cons (sn_var (pv 0)) (sa_cons sn_int sa_nil))) sa_nil)) (blkOk_by (N := ["_law_feed_here", "_law_many", "_law_letters", "_law_stem", "_law_k", "_law_at", "_law_first"]) (sc := defScope s_law_names) (by decide +kernel)) (fun _ _ _ _ _ => (sg_name (pg_name (i := 4) sc_law_names.nd rfl (.inl rfl)) (by decide))) (fun _ _ _ _ _ => sts_nil) (fun _ _ _ _ _ => (sn_ix (sn_var (pv 2)) (sn_call (ok_law_draw T) (hr.mono (by decide)) rfl T.m_law_draw T.f_law_draw.kp T.b_law_draw .nil closed_nil passA (sa_cons (sn_var (pv 0)) (sa_cons sn_int sa_nil)))))) sa_nil)) sc_law_names.nd rfl (.inr rfl)) (sb_cons (ss_asg (sl := [5, 6]) (sn_tup (sa_cons (sn_call (ok_law_draw T) (hr.mono (by decide)) rfl T.m_law_draw T.f_law_draw.kp T.b_law_draw .nil closed_nil passA (sa_cons (sn_var (pv 0)) (sa_cons (sn_add false (sn_callB call_lenA fn_len rfl T.n_len PySem.boot_len (sa_cons (sn_var (pv 3)) sa_nil)) sn_int) sa_nil))) (sa_cons (sn_call (ok_law_draw T) (hr.mono (by decide)) rfl T.m_law_draw T.f_law_draw.kp T.b_law_draw .nil closed_nil passA (sa_cons (sn_var (pv 0)) (sa_cons sn_int sa_nil))) sa_nil))) (sg_tup rfl (sgs_cons (sg_name (pg_name (i := 5) sc_law_names.nd rfl (.inr rfl)) (by decide)) (sgs_cons (sg_name (pg_name (i := 6) sc_law_names.nd rfl (.inr rfl)) (by decide)) sgs_nil)))) (sb_one (ss_ret (sn_call (ok_law_mixed T) (hr.mono (by decide)) rfl T.m_law_mixed T.f_law_mixed.kp T.b_law_mixed .nil closed_nil passA (sa_cons (sn_var (pv 0)) (sa_cons (sn_lc false (own := [("_law_k", 4)]) rfl sc_law_names.nd (si_range1 rfl T.n_range (sa_cons (sn_var (pv 1)) sa_nil)) (blkOk_by (N := ["_law_feed_here", "_law_many", "_law_letters", "_law_stem", "_law_k", "_law_at", "_law_first"]) (sc := defScope s_law_names) (by decide +kernel)) (fun _ _ _ _ _ => (sg_name (pg_name (i := 4) sc_law_names.nd rfl (.inl rfl)) (by decide))) (fun _ _ _ _ _ => sts_nil) (fun _ _ _ _ _ => (sn_add false (sn_add false (sn_sl false (sn_var (pv 3)) sp_none (sp_some (sn_var (pv 5)))) (sn_ix (sn_var (pv 2)) (sn_mod (sn_add false (sn_var (pv 6)) (sn_mul false sn_int (sn_var (pv 4)))) sn_int))) (sn_sl false (sn_var (pv 3)) (sp_some (sn_var (pv 5))) sp_none)))) sa_nil))))))))
theorem ok_law (T : Tx K mg cl) : FnOk P w K mg base CX0 4 T.a_law T.d_law ["_law_script"] (spOf ⟨K, cl⟩ 1 g_law) := by
  refine fn_def (B := B_law) T.f_law sc_law (fun cdv A outer s H E hr => ?_) (fun ds M _ => ref_run B_law 15 ds M)
  have hu := huE hr
  have hu1 := hu1E hr
  exact (sb_cons (ss_set (i := 1) (sn_call (ok_law_feed T) (hr.mono (by decide)) rfl T.m_law_feed T.f_law_feed.kp T.b_law_feed .nil closed_nil passA (sa_cons (sn_var (pv 0)) (sa_cons sn_int sa_nil))) sc_law.nd rfl (.inl rfl)) (sb_cons (ss_set (i := 2) (sn_call (ok_law_names T) (hr.mono (by decide)) rfl T.m_law_names T.f_law_names.kp T.b_law_names .nil closed_nil passA (sa_cons (sn_var (pv 1)) (sa_cons sn_int sa_nil))) sc_law.nd rfl (.inl rfl)) (sb_cons (ss_set (i := 3) (sn_lst false (sa_cons (sn_call (ok_law_grant T) (hr.mono (by decide)) rfl T.m_law_grant T.f_law_grant.kp T.b_law_grant .nil closed_nil passA (sa_cons (sn_var (pv 1)) (sa_cons (sn_var (pv 2)) sa_nil))) (sa_cons (sn_call (ok_law_grant T) (hr.mono (by decide)) rfl T.m_law_grant T.f_law_grant.kp T.b_law_grant .nil closed_nil passA (sa_cons (sn_var (pv 1)) (sa_cons (sn_revL false (sn_var (pv 2))) sa_nil))) sa_nil))) sc_law.nd rfl (.inr rfl)) (sb_cons (ss_asg (sl := [4, 5, 6, 7]) (sn_tup (sa_cons (sn_makeKw (c0 := 0) T.mk_Net (ok_Net___init__ T) (hr.mono (by decide)) rfl T.c_Net T.kk_Net___init___1_weather passA (sk_cons (sn_call (ok_law_weather T) (hr.mono (by decide)) rfl T.m_law_weather T.f_law_weather.kp T.b_law_weather .nil closed_nil passA (sa_cons (sn_var (pv 1)) sa_nil)) sk_nil)) (sa_cons (sn_lst true (sa_cons sn_non (sa_cons sn_non sa_nil))) (sa_cons (sn_lst true sa_nil) (sa_cons sn_int sa_nil))))) (sg_tup rfl (sgs_cons (sg_name (pg_name (i := 4) sc_law.nd rfl (.inl rfl)) (by decide)) (sgs_cons (sg_name (pg_name (i := 5) sc_law.nd rfl (.inr rfl)) (by decide)) (sgs_cons (sg_name (pg_name (i := 6) sc_law.nd rfl (.inl rfl)) (by decide)) (sgs_cons (sg_name (pg_name (i := 7) sc_law.nd rfl (.inr rfl)) (by decide)) sgs_nil)))))) (sb_cons (ss_for (sl := [8]) PassesOwn.never rfl (si_range1 rfl T.n_range (sa_cons (sn_callB (call_max2 rfl) fn_2I rfl T.n_max (by decide +kernel) (sa_cons sn_int (sa_cons (sn_callB (call_min2 rfl) fn_2I rfl T.n_min (by decide +kernel) (sa_cons sn_int (sa_cons (sn_callB call_lenA fn_len rfl T.n_len PySem.boot_len (sa_cons (sn_var (pv 0)) sa_nil)) sa_nil))) sa_nil))) sa_nil)) (sg_name (pg_name (i := 8) sc_law.nd rfl (.inl rfl)) (by decide)) (sb_cons (ss_set (i := 1) (sn_call (ok_law_feed T) (hr.mono (by decide)) rfl T.m_law_feed T.f_law_feed.kp T.b_law_feed .nil closed_nil passA (sa_cons (sn_var (pv 0)) (sa_cons (sn_add false (sn_var (pv 8)) sn_int) sa_nil))) sc_law.nd rfl (.inl rfl)) (sb_cons (ss_for (sl := [9, 10, 11]) PassesOwn.never rfl (si_seq (sn_mth (c0 := 0) (sn_var (pv 4)) T.cls_Net T.me_Net_due (ok_Net_due T) (hr.mono (by decide)) T.b_Net_due .nil closedK_nil passA (sa_cons (sn_var (pv 7)) sa_nil))) (sg_tup rfl (sgs_cons (sg_name (pg_name (i := 9) sc_law.nd rfl (.inl rfl)) (by decide)) (sgs_cons (sg_name (pg_name (i := 10) sc_law.nd rfl (.inl rfl)) (by decide)) (sgs_cons (sg_name (pg_name (i := 11) sc_law.nd rfl (.inl rfl)) (by decide)) sgs_nil)))) (sb_cons (ss_asg (sl := [12, 13]) (sn_var (pv 11)) (sg_tup rfl (sgs_cons (sg_name (pg_name (i := 12) sc_law.nd rfl (.inl rfl)) (by decide)) (sgs_cons (sg_name (pg_name (i := 13) sc_law.nd rfl (.inl rfl)) (by decide)) sgs_nil)))) (sb_cons (ss_expr (sn_meth PySem.F.plainAttrs_list PySem.F.slot_list_append PySem.F.type_list_append mt_append mt1_append (sn_var (pv 6)) (sa_cons (sn_tup (sa_cons (sn_var (pv 12)) (sa_cons (sn_var (pv 13)) sa_nil))) sa_nil))) (sb_one (ss_asg (sl := []) (sn_if (st_cmp (op_eqP hu) op2_eq (nomark _) (sn_call (ok_law_draw T) (hr.mono (by decide)) rfl T.m_law_draw T.f_law_draw.kp T.b_law_draw .nil closed_nil passA (sa_cons (sn_var (pv 1)) (sa_cons sn_int sa_nil))) sn_int) (sn_call (ok_later T) (hr.mono (by decide)) rfl T.m_later T.f_later.kp T.b_later .nil closed_nil passA (sa_cons (sn_ix (sn_var (pv 5)) (sn_var (pv 12))) (sa_cons (sn_var (pv 13)) sa_nil))) (sn_call (ok_later T) (hr.mono (by decide)) rfl T.m_later T.f_later.kp T.b_later .nil closed_nil passA (sa_cons (sn_var (pv 13)) (sa_cons (sn_ix (sn_var (pv 5)) (sn_var (pv 12))) sa_nil)))) (sg_ix (sn_var (pv 5)) (sn_var (pv 12)))))))) (sb_cons (ss_if (st_not (st_val (sn_call (ok_law_kept_right T) (hr.mono (by decide)) rfl T.m_law_kept_right T.f_law_kept_right.kp T.b_law_kept_right .nil closed_nil passA (sa_cons (sn_var (pv 5)) (sa_cons (sn_var (pv 6)) (sa_cons (sn_var (pv 3)) (sa_cons (sn_var (pv 7)) sa_nil))))))) (sb_one (ss_ret sn_bl)) sb_nil) (sb_cons (ss_for (sl := [14]) PassesOwn.never rfl (si_range1 rfl T.n_range (sa_cons (sn_call (ok_law_draw T) (hr.mono (by decide)) rfl T.m_law_draw T.f_law_draw.kp T.b_law_draw .nil closed_nil passA (sa_cons (sn_var (pv 1)) (sa_cons sn_int sa_nil))) sa_nil)) (sg_name (pg_name (i := 14) sc_law.nd rfl (.inl rfl)) (by decide)) (sb_cons (ss_set (i := 12) (sn_call (ok_law_draw T) (hr.mono (by decide)) rfl T.m_law_draw T.f_law_draw.kp T.b_law_draw .nil closed_nil passA (sa_cons (sn_var (pv 1)) (sa_cons sn_int sa_nil))) sc_law.nd rfl (.inl rfl)) (sb_one (ss_expr (sn_mth (c0 := 0) (sn_var (pv 4)) T.cls_Net T.me_Net_send (ok_Net_send T) (hr.mono (by decide)) T.b_Net_send .nil closedK_nil passA (sa_cons (sn_tup (sa_cons (sn_ix (sn_var (pv 2)) sn_int) (sa_cons (sn_ix (sn_var (pv 2)) sn_int) (sa_cons (sn_tup (sa_cons (sn_var (pv 12)) (sa_cons (sn_add false (sn_ix (sn_var (pv 3)) (sn_var (pv 12))) (sn_tup (sa_cons (sn_var (pv 7)) (sa_cons (sn_add false (sn_mul false sn_int (sn_var (pv 8))) (sn_call (ok_law_draw T) (hr.mono (by decide)) rfl T.m_law_draw T.f_law_draw.kp T.b_law_draw .nil closed_nil passA (sa_cons (sn_var (pv 1)) (sa_cons sn_int sa_nil)))) sa_nil)))) sa_nil))) sa_nil)))) (sa_cons (sn_var (pv 7)) sa_nil))))))) (sb_one (ss_set (i := 7) (sn_add false (sn_add false (sn_var (pv 7)) sn_int) (sn_call (ok_law_draw T) (hr.mono (by decide)) rfl T.m_law_draw T.f_law_draw.kp T.b_law_draw .nil closed_nil passA (sa_cons (sn_var (pv 1)) (sa_cons sn_int sa_nil)))) sc_law.nd rfl (.inr rfl)))))))) (sb_one (ss_ret (sn_not (sn_callB (cr_any rfl) fn_allany rfl T.n_any (by decide +kernel) (sa_cons (sn_lc false (own := [("_law_at", 12)]) rfl sc_law.nd (si_range1 rfl T.n_range (sa_cons sn_int sa_nil)) (blkOk_by (N := ["_law_script", "_law_feed_here", "_law_names_here", "_law_grants", "_law_net", "_law_kept", "_law_came", "_law_tick", "_law_k", "_law_sender", "_law_to", "_law_what", "_law_at", "_law_warrant", "_law_turn"]) (sc := defScope s_law) (by decide +kernel)) (fun _ _ _ _ _ => (sg_name (pg_name (i := 12) sc_law.nd rfl (.inl rfl)) (by decide))) (fun _ _ _ _ _ => sts_nil) (fun _ _ _ _ _ => (sn_callD (ok_serves T) (hr.mono (by decide)) rfl T.m_serves T.f_serves.kp T.bd_serves_4 T.vd_serves_4 T.cd_serves_4 passA (sa_cons (sn_ix (sn_var (pv 5)) (sn_var (pv 12))) (sa_cons (sn_ix (sn_ix (sn_var (pv 3)) (sn_var (pv 12))) sn_int) (sa_cons (sn_ix (sn_ix (sn_ix (sn_var (pv 3)) (sn_var (pv 12))) sn_int) sn_int) (sa_cons (sn_add false (sn_var (pv 7)) sn_int) sa_nil))))))) sa_nil))))))))))
end
theorem all_mk {l : PySem.W.OpenLaw} {w : World} {K : PySem.W.Frag} {h : Heap} {mg : Str → Option Value} {fa : Addr} (X : K.In h) (G : h.Ns mainGlobals mg) (hfa : mg "law" = some (.ref fa))
    {C_Net : Addr}
    {f0 : Addr} {od0 an0 : Option Addr} {sl0 : Array (Option Value)} {oc0 dc0 pm0 cd0 ct0 : Value}
    {D0 : Addr}
    (a0 : PySem.W.nsIn K mainGlobals "serves" = some (some (.ref f0))) (l0 : K.lookup f0 = some ⟨oc0, od0, .func (PySem.W.fnOf "serves" "serves" (defArgs s_serves) (defBody s_serves) (defScope s_serves) .none (.ref D0) dc0 pm0 an0 cd0 ct0), sl0⟩) (c0 : PySem.W.codeIn K cd0 "serves" = true) (k0 : PySem.W.keepIn K (.ref f0) = true)
    {t0_lease : Tok} (q0_lease : PySem.W.nsIn K D0 "lease" = some (some (.int 6 t0_lease)))
    {f1 : Addr} {od1 an1 : Option Addr} {sl1 : Array (Option Value)} {oc1 dc1 pm1 cd1 ct1 : Value}
    {kV1 : Value}
    (a1 : PySem.W.nsIn K mainGlobals "later" = some (some (.ref f1))) (l1 : K.lookup f1 = some ⟨oc1, od1, .func (PySem.W.fnOf "later" "later" (defArgs s_later) (defBody s_later) (defScope s_later) .none kV1 dc1 pm1 an1 cd1 ct1), sl1⟩) (c1 : PySem.W.codeIn K cd1 "later" = true) (k1 : PySem.W.keepIn K (.ref f1) = true)
    {f2 : Addr} {od2 an2 : Option Addr} {sl2 : Array (Option Value)} {oc2 dc2 pm2 cd2 ct2 : Value}
    {kV2 : Value}
    (a2 : PySem.W.findIn K (.ref C_Net) "__init__" = some (some (.ref f2))) (i2 : PySem.W.isFn K (.ref f2) = true) (l2 : K.lookup f2 = some ⟨oc2, od2, .func (PySem.W.fnOf "__init__" "Net.__init__" (defArgs s_Net___init__) (defBody s_Net___init__) (defScope s_Net___init__) .none kV2 dc2 pm2 an2 cd2 ct2), sl2⟩) (c2 : PySem.W.codeIn K cd2 "Net.__init__" = true) (k2 : PySem.W.keepIn K (.ref f2) = true)
    {f3 : Addr} {od3 an3 : Option Addr} {sl3 : Array (Option Value)} {oc3 dc3 pm3 cd3 ct3 : Value}
    {kV3 : Value}
    (a3 : PySem.W.findIn K (.ref C_Net) "send" = some (some (.ref f3))) (i3 : PySem.W.isFn K (.ref f3) = true) (l3 : K.lookup f3 = some ⟨oc3, od3, .func (PySem.W.fnOf "send" "Net.send" (defArgs s_Net_send) (defBody s_Net_send) (defScope s_Net_send) .none kV3 dc3 pm3 an3 cd3 ct3), sl3⟩) (c3 : PySem.W.codeIn K cd3 "Net.send" = true) (k3 : PySem.W.keepIn K (.ref f3) = true)
    {f4 : Addr} {od4 an4 : Option Addr} {sl4 : Array (Option Value)} {oc4 dc4 pm4 cd4 ct4 : Value}
    {kV4 : Value}
    (a4 : PySem.W.findIn K (.ref C_Net) "due" = some (some (.ref f4))) (i4 : PySem.W.isFn K (.ref f4) = true) (l4 : K.lookup f4 = some ⟨oc4, od4, .func (PySem.W.fnOf "due" "Net.due" (defArgs s_Net_due) (defBody s_Net_due) (defScope s_Net_due) .none kV4 dc4 pm4 an4 cd4 ct4), sl4⟩) (c4 : PySem.W.codeIn K cd4 "Net.due" = true) (k4 : PySem.W.keepIn K (.ref f4) = true)
    {f5 : Addr} {od5 an5 : Option Addr} {sl5 : Array (Option Value)} {oc5 dc5 pm5 cd5 ct5 : Value}
    {kV5 : Value}
    (a5 : PySem.W.nsIn K mainGlobals "_law_feed" = some (some (.ref f5))) (l5 : K.lookup f5 = some ⟨oc5, od5, .func (PySem.W.fnOf "_law_feed" "_law_feed" (defArgs s_law_feed) (defBody s_law_feed) (defScope s_law_feed) .none kV5 dc5 pm5 an5 cd5 ct5), sl5⟩) (c5 : PySem.W.codeIn K cd5 "_law_feed" = true) (k5 : PySem.W.keepIn K (.ref f5) = true)
    {f6 : Addr} {od6 an6 : Option Addr} {sl6 : Array (Option Value)} {oc6 dc6 pm6 cd6 ct6 : Value}
    {kV6 : Value}
    (a6 : PySem.W.nsIn K mainGlobals "_law_draw" = some (some (.ref f6))) (l6 : K.lookup f6 = some ⟨oc6, od6, .func (PySem.W.fnOf "_law_draw" "_law_draw" (defArgs s_law_draw) (defBody s_law_draw) (defScope s_law_draw) .none kV6 dc6 pm6 an6 cd6 ct6), sl6⟩) (c6 : PySem.W.codeIn K cd6 "_law_draw" = true) (k6 : PySem.W.keepIn K (.ref f6) = true)
    {f7 : Addr} {od7 an7 : Option Addr} {sl7 : Array (Option Value)} {oc7 dc7 pm7 cd7 ct7 : Value}
    {kV7 : Value}
    (a7 : PySem.W.nsIn K mainGlobals "_law_any_serves" = some (some (.ref f7))) (l7 : K.lookup f7 = some ⟨oc7, od7, .func (PySem.W.fnOf "_law_any_serves" "_law_any_serves" (defArgs s_law_any_serves) (defBody s_law_any_serves) (defScope s_law_any_serves) .none kV7 dc7 pm7 an7 cd7 ct7), sl7⟩) (c7 : PySem.W.codeIn K cd7 "_law_any_serves" = true) (k7 : PySem.W.keepIn K (.ref f7) = true)
    {f8 : Addr} {od8 an8 : Option Addr} {sl8 : Array (Option Value)} {oc8 dc8 pm8 cd8 ct8 : Value}
    {kV8 : Value}
    (a8 : PySem.W.nsIn K mainGlobals "_law_mixed" = some (some (.ref f8))) (l8 : K.lookup f8 = some ⟨oc8, od8, .func (PySem.W.fnOf "_law_mixed" "_law_mixed" (defArgs s_law_mixed) (defBody s_law_mixed) (defScope s_law_mixed) .none kV8 dc8 pm8 an8 cd8 ct8), sl8⟩) (c8 : PySem.W.codeIn K cd8 "_law_mixed" = true) (k8 : PySem.W.keepIn K (.ref f8) = true)
    {f9 : Addr} {od9 an9 : Option Addr} {sl9 : Array (Option Value)} {oc9 dc9 pm9 cd9 ct9 : Value}
    {kV9 : Value}
    (a9 : PySem.W.nsIn K mainGlobals "_law_grant" = some (some (.ref f9))) (l9 : K.lookup f9 = some ⟨oc9, od9, .func (PySem.W.fnOf "_law_grant" "_law_grant" (defArgs s_law_grant) (defBody s_law_grant) (defScope s_law_grant) .none kV9 dc9 pm9 an9 cd9 ct9), sl9⟩) (c9 : PySem.W.codeIn K cd9 "_law_grant" = true) (k9 : PySem.W.keepIn K (.ref f9) = true)
    {f10 : Addr} {od10 an10 : Option Addr} {sl10 : Array (Option Value)} {oc10 dc10 pm10 cd10 ct10 : Value}
    {kV10 : Value}
    (a10 : PySem.W.nsIn K mainGlobals "_law_weather" = some (some (.ref f10))) (l10 : K.lookup f10 = some ⟨oc10, od10, .func (PySem.W.fnOf "_law_weather" "_law_weather" (defArgs s_law_weather) (defBody s_law_weather) (defScope s_law_weather) .none kV10 dc10 pm10 an10 cd10 ct10), sl10⟩) (c10 : PySem.W.codeIn K cd10 "_law_weather" = true) (k10 : PySem.W.keepIn K (.ref f10) = true)
    {f11 : Addr} {od11 an11 : Option Addr} {sl11 : Array (Option Value)} {oc11 dc11 pm11 cd11 ct11 : Value}
    {kV11 : Value}
    (a11 : PySem.W.nsIn K mainGlobals "_law_kept_right" = some (some (.ref f11))) (l11 : K.lookup f11 = some ⟨oc11, od11, .func (PySem.W.fnOf "_law_kept_right" "_law_kept_right" (defArgs s_law_kept_right) (defBody s_law_kept_right) (defScope s_law_kept_right) .none kV11 dc11 pm11 an11 cd11 ct11), sl11⟩) (c11 : PySem.W.codeIn K cd11 "_law_kept_right" = true) (k11 : PySem.W.keepIn K (.ref f11) = true)
    {f12 : Addr} {od12 an12 : Option Addr} {sl12 : Array (Option Value)} {oc12 dc12 pm12 cd12 ct12 : Value}
    {kV12 : Value}
    (a12 : PySem.W.nsIn K mainGlobals "_law_names" = some (some (.ref f12))) (l12 : K.lookup f12 = some ⟨oc12, od12, .func (PySem.W.fnOf "_law_names" "_law_names" (defArgs s_law_names) (defBody s_law_names) (defScope s_law_names) .none kV12 dc12 pm12 an12 cd12 ct12), sl12⟩) (c12 : PySem.W.codeIn K cd12 "_law_names" = true) (k12 : PySem.W.keepIn K (.ref f12) = true)
    {f13 : Addr} {od13 an13 : Option Addr} {sl13 : Array (Option Value)} {oc13 dc13 pm13 cd13 ct13 : Value}
    {kV13 : Value}
    (a13 : PySem.W.nsIn K mainGlobals "law" = some (some (.ref f13))) (l13 : K.lookup f13 = some ⟨oc13, od13, .func (PySem.W.fnOf "law" "law" (defArgs s_law) (defBody s_law) (defScope s_law) .none kV13 dc13 pm13 an13 cd13 ct13), sl13⟩) (c13 : PySem.W.codeIn K cd13 "law" = true) (k13 : PySem.W.keepIn K (.ref f13) = true)
    (aC_Net : PySem.W.nsIn K mainGlobals "Net" = some (some (.ref C_Net))) (pg_Net : PySem.W.plainGet K C_Net Str.empty = true) (hd_Net : PySem.W.hasDictIn K C_Net = true) (po_Net : PySem.W.plainOver K C_Net = true) (sa_Net : PySem.W.findIn K (.ref C_Net) "__setattr__" = some (some (.builtin "object.__setattr__"))) (mk_Net : PySem.W.makesIn K C_Net = true) (kc_Net : PySem.W.keepIn K (.ref C_Net) = true)
    (nf_Net_weather : PySem.W.findIn K (.ref C_Net) "weather" = some none)
    (nf_Net_sent : PySem.W.findIn K (.ref C_Net) "sent" = some none)
    (nf_Net_coming : PySem.W.findIn K (.ref C_Net) "coming" = some none)
    (z_abs : PySem.W.nsIn K mainGlobals "abs" = some none)
    (z_any : PySem.W.nsIn K mainGlobals "any" = some none)
    (z_int : PySem.W.nsIn K mainGlobals "int" = some none)
    (z_len : PySem.W.nsIn K mainGlobals "len" = some none)
    (z_list : PySem.W.nsIn K mainGlobals "list" = some none)
    (z_max : PySem.W.nsIn K mainGlobals "max" = some none)
    (z_min : PySem.W.nsIn K mainGlobals "min" = some none)
    (z_range : PySem.W.nsIn K mainGlobals "range" = some none)
    (z_set : PySem.W.nsIn K mainGlobals "set" = some none)
    (z_sorted : PySem.W.nsIn K mainGlobals "sorted" = some none)
    (z_tuple : PySem.W.nsIn K mainGlobals "tuple" = some none) :
    ∃ fd : FuncData, (∀ (s : Shared) (v : Value), BindsTo s fd ⟨[v], []⟩ [("_law_script", v)]) ∧ ∀ base : Heap, K.In base → base.Ns mainGlobals mg → FnOk l.prog w K mg base CX0 4 fa fd ["_law_script"] (fun vs H Q E => ∀ cl, spOf ⟨K, cl⟩ 1 g_law vs H Q E) := by
  have e := hfa.symm.trans (PySem.W.mg_of X G a13)
  cases e
  have F0 := fun_mk (st := s_serves) l0 c0 k0
  have F1 := fun_mk (st := s_later) l1 c1 k1
  have F2 := fun_mk (st := s_Net___init__) l2 c2 k2
  have F3 := fun_mk (st := s_Net_send) l3 c3 k3
  have F4 := fun_mk (st := s_Net_due) l4 c4 k4
  have F5 := fun_mk (st := s_law_feed) l5 c5 k5
  have F6 := fun_mk (st := s_law_draw) l6 c6 k6
  have F7 := fun_mk (st := s_law_any_serves) l7 c7 k7
  have F8 := fun_mk (st := s_law_mixed) l8 c8 k8
  have F9 := fun_mk (st := s_law_grant) l9 c9 k9
  have F10 := fun_mk (st := s_law_weather) l10 c10 k10
  have F11 := fun_mk (st := s_law_kept_right) l11 c11 k11
  have F12 := fun_mk (st := s_law_names) l12 c12 k12
  have F13 := fun_mk (st := s_law) l13 c13 k13
  have Q0 : FunD K "serves" "serves" (defArgs s_serves) (defBody s_serves) (defScope s_serves) [] [("lease", .int 6)] f0 _ := ⟨⟨_, _, _, _, _, _, _, _, _, _, rfl, l0, c0, .inl ⟨rfl, rfl⟩, .inr ⟨_, rfl, fun q hq => by
    simp only [List.mem_cons, List.not_mem_nil, or_false] at hq
    rcases hq with rfl
    · exact ⟨_, q0_lease, _, rfl⟩⟩⟩, k0⟩
  obtain ⟨dv_serves_4, vd_serves_4, bd_serves_4⟩ := Q0.binds0 (ps := ["warrant", "holder", "right", "tick", "lease"]) 4 (by intro z; cases z) rfl (fun D doc pm an cdv ct us ks l1 l2 => match us, ks, l1, l2 with | [_, _, _, _], [_], _, _ => ⟨_, _, _, _, _, _, rfl, rfl, rfl⟩)
  let T : Tx K mg (fun i => if i = 0 then C_Net else (fun _ => 0) i) := { a_serves := _, d_serves := _, f_serves := F0, m_serves := PySem.W.mg_of X G a0, a_later := _, d_later := _, f_later := F1, m_later := PySem.W.mg_of X G a1, b_later := F1.binds (ps := ["one", "other"]) (fun _ _ _ _ _ _ us hl => (match us, hl with | [_, _], _ => rfl)), a_Net___init__ := _, d_Net___init__ := _, f_Net___init__ := F2, a_Net_send := _, d_Net_send := _, f_Net_send := F3, me_Net_send := ⟨a3, i3, k3⟩, b_Net_send := F3.binds (ps := ["self", "letter", "tick"]) (fun _ _ _ _ _ _ us hl => (match us, hl with | [_, _, _], _ => rfl)), a_Net_due := _, d_Net_due := _, f_Net_due := F4, me_Net_due := ⟨a4, i4, k4⟩, b_Net_due := F4.binds (ps := ["self", "tick"]) (fun _ _ _ _ _ _ us hl => (match us, hl with | [_, _], _ => rfl)), a_law_feed := _, d_law_feed := _, f_law_feed := F5, m_law_feed := PySem.W.mg_of X G a5, b_law_feed := F5.binds (ps := ["_law_script", "_law_k"]) (fun _ _ _ _ _ _ us hl => (match us, hl with | [_, _], _ => rfl)), a_law_draw := _, d_law_draw := _, f_law_draw := F6, m_law_draw := PySem.W.mg_of X G a6, b_law_draw := F6.binds (ps := ["_law_feed_here", "_law_many"]) (fun _ _ _ _ _ _ us hl => (match us, hl with | [_, _], _ => rfl)), a_law_any_serves := _, d_law_any_serves := _, f_law_any_serves := F7, m_law_any_serves := PySem.W.mg_of X G a7, b_law_any_serves := F7.binds (ps := ["_law_came", "_law_at", "_law_tick", "_law_lease_own"]) (fun _ _ _ _ _ _ us hl => (match us, hl with | [_, _, _, _], _ => rfl)), a_law_mixed := _, d_law_mixed := _, f_law_mixed := F8, m_law_mixed := PySem.W.mg_of X G a8, b_law_mixed := F8.binds (ps := ["_law_feed_here", "_law_some"]) (fun _ _ _ _ _ _ us hl => (match us, hl with | [_, _], _ => rfl)), a_law_grant := _, d_law_grant := _, f_law_grant := F9, m_law_grant := PySem.W.mg_of X G a9, b_law_grant := F9.binds (ps := ["_law_feed_here", "_law_names_here"]) (fun _ _ _ _ _ _ us hl => (match us, hl with | [_, _], _ => rfl)), a_law_weather := _, d_law_weather := _, f_law_weather := F10, m_law_weather := PySem.W.mg_of X G a10, b_law_weather := F10.binds (ps := ["_law_feed_here"]) (fun _ _ _ _ _ _ us hl => (match us, hl with | [_], _ => rfl)), a_law_kept_right := _, d_law_kept_right := _, f_law_kept_right := F11, m_law_kept_right := PySem.W.mg_of X G a11, b_law_kept_right := F11.binds (ps := ["_law_kept", "_law_came", "_law_grants", "_law_tick"]) (fun _ _ _ _ _ _ us hl => (match us, hl with | [_, _, _, _], _ => rfl)), a_law_names := _, d_law_names := _, f_law_names := F12, m_law_names := PySem.W.mg_of X G a12, b_law_names := F12.binds (ps := ["_law_feed_here", "_law_many"]) (fun _ _ _ _ _ _ us hl => (match us, hl with | [_, _], _ => rfl)), a_law := _, d_law := _, f_law := F13, m_law := PySem.W.mg_of X G a13, b_law := F13.binds (ps := ["_law_script"]) (fun _ _ _ _ _ _ us hl => (match us, hl with | [_], _ => rfl)), cls_Net := ⟨pg_Net, hd_Net, po_Net, sa_Net⟩, c_Net := PySem.W.mg_of X G aC_Net, mk_Net := ⟨mk_Net, a2, i2, kc_Net⟩, na_Net_weather := nf_Net_weather, na_Net_sent := nf_Net_sent, na_Net_coming := nf_Net_coming, dv_serves_4 := dv_serves_4, du_serves_4 := _, bd_serves_4 := bd_serves_4, vd_serves_4 := vd_serves_4, cd_serves_4 := fun W H => ⟨_, _, rfl, rfl, rfl⟩, kk_Net___init___1_weather := ⟨fun us ws => us ++ ws, fun vs zs => vs ++ zs, ⟨fun s us ws X l1 l2 => (match us, ws, l1, l2 with | [_], [_], _, _ => .of_eq rfl), fun r1 r2 => r1.append r2⟩, fun _ _ ds zs vs ws r1 r2 => by rw [List.append_nil]; exact r1.append r2⟩, kb_serves_4 := ⟨fun us ws => us ++ ws, fun vs zs => vs ++ zs, ⟨fun s us ws X l1 l2 => (match us, ws, l1, l2 with | [_, _, _, _], [_], _, _ => .of_eq rfl), fun r1 r2 => r1.append r2⟩, fun _ _ _ ds zs vs ws r1 r2 => by rw [List.append_nil]; exact r1.append r2⟩, n_abs := PySem.W.mg_none_of X G z_abs, n_any := PySem.W.mg_none_of X G z_any, n_int := PySem.W.mg_none_of X G z_int, n_len := PySem.W.mg_none_of X G z_len, n_list := PySem.W.mg_none_of X G z_list, n_max := PySem.W.mg_none_of X G z_max, n_min := PySem.W.mg_none_of X G z_min, n_range := PySem.W.mg_none_of X G z_range, n_set := PySem.W.mg_none_of X G z_set, n_sorted := PySem.W.mg_none_of X G z_sorted, n_tuple := PySem.W.mg_none_of X G z_tuple }
  exact ⟨_, fun s v => .of_eq rfl, fun base _ _ => (ok_law T).imp fun vs H Q E h => h _⟩
end K30
open PySem PySem.W PyProof.Rows
set_option maxHeartbeats 0 in
theorem PySem.Challenge.cw_grantchain_k30_whole_kept_by_letters_in_holds : PySem.Challenge.rw_grantchain_k30_whole_kept_by_letters_in.Holds := by
  w_on; o_law; k_head; (case hw => w_witness2)
  k_fill
  refine L2.walk_of (l := PySem.Challenge.rw_grantchain_k30_whole_kept_by_letters_in) (n := 63) (k := 4) (x := "_law_script") (CX := fun _ => L2.CX0) (sp := fun w vs H Q E => ∀ cl, Fn.spOf ⟨_, cl⟩ 1 K30.g_law vs H Q E) rfl (by decide) rfl ⟨rfl, by decide, by decide⟩ (fun w h Y => PySem.W.kIn_of Y) ?F (fun w H a ns hl ho hS cl => Fn.law_end K30.law_holds hl ho hS) (fun _ _ _ _ _ h => h)
  case F =>
    intro w mg fa h KX G hmg
    refine' K30.all_mk KX G hmg ?a0 ?l0 ?c0 ?k0 ?q0_lease ?a1 ?l1 ?c1 ?k1 ?a2 ?i2 ?l2 ?c2 ?k2 ?a3 ?i3 ?l3 ?c3 ?k3 ?a4 ?i4 ?l4 ?c4 ?k4 ?a5 ?l5 ?c5 ?k5 ?a6 ?l6 ?c6 ?k6 ?a7 ?l7 ?c7 ?k7 ?a8 ?l8 ?c8 ?k8 ?a9 ?l9 ?c9 ?k9 ?a10 ?l10 ?c10 ?k10 ?a11 ?l11 ?c11 ?k11 ?a12 ?l12 ?c12 ?k12 ?a13 ?l13 ?c13 ?k13 ?aC_Net ?pg_Net ?hd_Net ?po_Net ?sa_Net ?mk_Net ?kc_Net ?nf_Net_weather ?nf_Net_sent ?nf_Net_coming ?z_abs ?z_any ?z_int ?z_len ?z_list ?z_max ?z_min ?z_range ?z_set ?z_sorted ?z_tuple
    (case aC_Net => k_is); (case a0 => k_is); (case l0 => k_is); (case c0 => k_is); (case k0 => k_is); (case q0_lease => k_is); (case a1 => k_is); (case l1 => k_is); (case c1 => k_is); (case k1 => k_is); (case a2 => k_is); (case i2 => k_is); (case l2 => k_is); (case c2 => k_is); (case k2 => k_is); (case a3 => k_is); (case i3 => k_is); (case l3 => k_is); (case c3 => k_is); (case k3 => k_is); (case a4 => k_is); (case i4 => k_is); (case l4 => k_is); (case c4 => k_is); (case k4 => k_is); (case a5 => k_is); (case l5 => k_is); (case c5 => k_is); (case k5 => k_is); (case a6 => k_is); (case l6 => k_is); (case c6 => k_is); (case k6 => k_is); (case a7 => k_is); (case l7 => k_is); (case c7 => k_is); (case k7 => k_is); (case a8 => k_is); (case l8 => k_is); (case c8 => k_is); (case k8 => k_is); (case a9 => k_is); (case l9 => k_is); (case c9 => k_is); (case k9 => k_is); (case a10 => k_is); (case l10 => k_is); (case c10 => k_is); (case k10 => k_is); (case a11 => k_is); (case l11 => k_is); (case c11 => k_is); (case k11 => k_is); (case a12 => k_is); (case l12 => k_is); (case c12 => k_is); (case k12 => k_is); (case a13 => k_is); (case l13 => k_is); (case c13 => k_is); (case k13 => k_is); (case pg_Net => k_is); (case hd_Net => k_is); (case po_Net => k_is); (case sa_Net => k_is); (case mk_Net => k_is); (case kc_Net => k_is); (case nf_Net_weather => k_is); (case nf_Net_sent => k_is); (case nf_Net_coming => k_is); (case z_abs => k_is); (case z_any => k_is); (case z_int => k_is); (case z_len => k_is); (case z_list => k_is); (case z_max => k_is); (case z_min => k_is); (case z_range => k_is); (case z_set => k_is); (case z_sorted => k_is); (case z_tuple => k_is)
