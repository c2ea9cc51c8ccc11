import PyProof.Rows.All
import Wide.All
import OpenK.AllK
import Wide.FinOn
import HandS.ForMost
import HandS.Wide
import HandS.TupAny
import KE.DataEq
import KE.DataFind
import HandS.IsInst
import HandS.SortInts
import HandS.Zip
import HandS.Defaults
import KE.SortData
import HandS.Style
import HandS.MakeKwOnly
import KE.KUnpackStar
import PyProof.MakeMany
import HandS.SetFor
import HandS.Strs
import KE.DataCmp
import HandS.DictTup
import HandS.TupLen
import HandS.WordsDict
import HandS.Iter
import HandS.OwnEq
import OpenK.KOps
import HandS.Conv
import HandS.DictSubView
import HandS.Ends
import PyProof.ReprRoads
import PyProof.ReprLen
import HandS.RaiseMore
import HandS.ListItems
import HandS.Dict
import KE.GoesEnum
import HandS.Zip0
import HandS.Text
import KE.KDictZip
import KE.KItemsList
import PyProof.Seq
import PySem.Challenge.RW_grantchain_k15_tables_by_turns
set_option Elab.async false
set_option linter.all false
set_option maxRecDepth 100000
set_option maxHeartbeats 1000000
/-! FnBase: values as trees (D), memory cells, how they lie in the abstract heap; results; the reading tOf of a function. -/
namespace Fn
open PySem PySem.Spec PyProof.Rows L2

abbrev Txt := List Nat
def l2s (l : List Nat) : Str := ⟨l.toArray⟩
def s2l (x : Str) : List Nat := x.cps.toList
theorem l2s_s2l (x : Str) : l2s (s2l x) = x := by cases x with | mk c => simp [l2s, s2l]
theorem s2l_l2s (l : List Nat) : s2l (l2s l) = l := by simp [l2s, s2l]
theorem l2s_inj {a b : List Nat} (h : l2s a = l2s b) : a = b := by have := congrArg s2l h; rwa [s2l_l2s, s2l_l2s] at this

/-- a key of a dict -/
abbrev KK := Sum Int (List Nat)
def kk : KK → Key
  | .inl i => .inl i
  | .inr l => .inr (l2s l)
theorem kk_inj {a b : KK} (h : kk a = kk b) : a = b := by
  cases a <;> cases b
  · exact congrArg Sum.inl (Sum.inl.inj h)
  · cases h
  · cases h
  · exact congrArg Sum.inr (l2s_inj (Sum.inr.inj h))

/-- a value: what never changes is a tree; a changing object is a cell of the memory -/
inductive D where
  | non | bl (b : Bool) | int (i : Int) | str (x : List Nat) | tup (l : List D) | lst (l : List D) | fz (l : List D) | ref (i : Nat)

inductive Cell where
  | lst (l : List D)
  | dk (lk : Bool) (kvs : List (KK × D))
  | dt (lk : Bool) (kvs : List (List KK × D))
  | ins (c : Nat) (fs : List (Str × D))

abbrev Mem := List Cell
abbrev Env := List (Option D)

inductive R (α : Type) where
  | ok (a : α) (m : Mem)
  | ex (c : Nat) (fs : List (Str × D)) (m : Mem)
  | no
def R.bind {α β : Type} (r : R α) (k : α → Mem → R β) : R β := match r with
  | .ok a m => k a m
  | .ex c fs m => .ex c fs m
  | .no => .no
@[simp] theorem R.bind_ok {α β : Type} (a : α) (m : Mem) (k : α → Mem → R β) : (R.ok a m).bind k = k a m := rfl
@[simp] theorem R.bind_ex {α β : Type} (c : Nat) (fs : List (Str × D)) (m : Mem) (k : α → Mem → R β) : (R.ex c fs m : R α).bind k = .ex c fs m := rfl
@[simp] theorem R.bind_no {α β : Type} (k : α → Mem → R β) : (R.no : R α).bind k = .no := rfl

/-- the world of addresses: the cells', and hidden ones -/
structure Wd where
  as : List Addr
  hd : List Addr

/-- the context: the written part, the classes -/
structure Gx where
  K : PySem.W.Frag
  cl : Nat → Addr

section
variable (G : Gx) (W : Wd) (H : Hp)
def InK (a : Addr) (us : List V) : Prop := ∃ (o : Obj) (its : Array Value) (n : Nat), G.K.lookup a = some o ∧ o.cls = .type "list" ∧ o.dict = none ∧ o.data = .seq its n ∧ its.size ≤ sizeLine ∧ Vals us its.toList
def LstAt (a : Addr) (us : List V) : Prop := H a = some (.lst us) ∧ a ∉ W.as ∧ a ∉ W.hd
def FzAt (a : Addr) (us : List V) : Prop := (∃ o, H a = some (.frz o (.lst us))) ∨ InK G a us
/-- a tuple of the heap (so it may be a key); an empty one may be written -/
def TupAt (a : Addr) (l : List D) (us : List V) : Prop := H a = some (.tup us) ∨ (l = [] ∧ SqT G.K H a us)
mutual
def Rp : D → V → Prop
  | .non, u => u = .non
  | .bl b, u => u = .bl b
  | .int i, u => u = .int i
  | .str x, u => u = .str (l2s x)
  | .tup l, u => ∃ a us, u = .ref a ∧ TupAt G H a l us ∧ RpL l us
  | .lst l, u => ∃ a us, u = .ref a ∧ LstAt W H a us ∧ RpL l us
  | .fz l, u => ∃ a us, u = .ref a ∧ FzAt G H a us ∧ RpL l us
  | .ref i, u => ∃ a, W.as[i]? = some a ∧ u = .ref a
def RpL : List D → List V → Prop
  | [], us => us = []
  | d :: r, us => ∃ u us', us = u :: us' ∧ Rp d u ∧ RpL r us'
end
theorem TupAt.sq {G : Gx} {H : Hp} {a : Addr} {l : List D} {us : List V} (h : TupAt G H a l us) : SqT G.K H a us := by
  rcases h with h | h
  · exact .inl (.inl h)
  · exact h.2
def RpK {κ κ' : Type} (f : κ → κ') : List (κ × D) → List (κ' × V) → Prop := Paired fun p q => f p.1 = q.1 ∧ Rp G W H p.2 q.2
def CellOk (a : Addr) : Cell → Prop
  | .lst l => ∃ us, H a = some (.lst us) ∧ RpL G W H l us
  | .dk lk kvs => ∃ vs, (if lk = true then ∃ o, H a = some (.frz o (.dK vs)) else H a = some (.dK vs)) ∧ RpK G W H kk kvs vs
  | .dt lk kvs => ∃ vs, (if lk = true then ∃ o, H a = some (.frz o (.dT vs)) else H a = some (.dT vs)) ∧ RpK G W H (List.map kk) kvs vs
  | .ins c fs => ∃ dx vs, H a = some (.ins (G.cl c) dx vs) ∧ RpK G W H id fs vs
structure MemOk (M : Mem) : Prop where
  len : W.as.length = M.length
  nd : W.as.Nodup
  cell : ∀ (i : Nat) c a, M[i]? = some c → W.as[i]? = some a → CellOk G W H a c
  apart : ∀ a ∈ W.as, a ∉ W.hd
  hid : ∀ a ∈ W.hd, ∃ o, H a = some o
def EnvOk (env : Env) (σ : L2.St) : Prop := env.length = σ.length ∧ ∀ (i : Nat) d, env[i]? = some (some d) → ∃ u, σ[i]? = some (some u) ∧ Rp G W H d u
end

/-- the heap goes on -/
structure Fut (W : Wd) (H : Hp) (W' : Wd) (H' : Hp) : Prop where
  ext : ∃ new, W'.as = W.as ++ new ∧ ∀ a ∈ new, H a = none ∧ a ∉ W.as
  hd : W'.hd = W.hd
  keep : ∀ a o, H a = some o → a ∉ W.as → H' a = some o
  lk : ∀ a od u, H a = some (.frz od u) → H' a = some (.frz od u)

theorem Fut.rfl' {W : Wd} {H : Hp} : Fut W H W H := ⟨⟨[], by simp, by simp⟩, rfl, fun _ _ e _ => e, fun _ _ _ e => e⟩
theorem Fut.nin {W W1 : Wd} {H H1 : Hp} (a : Fut W H W1 H1) {x : Addr} {o : HO} (e : H x = some o) (hx : x ∉ W.as) : x ∉ W1.as := by
  obtain ⟨n1, e1, f1⟩ := a.ext
  rw [e1]
  intro z
  rcases List.mem_append.mp z with z | z
  · exact hx z
  · rw [(f1 x z).1] at e; cases e
theorem Fut.nhd {W W1 : Wd} {H H1 : Hp} (a : Fut W H W1 H1) {x : Addr} {o : HO} (e : H x = some o) (hx : x ∉ W.hd) : x ∉ W1.hd := by rw [a.hd]; exact hx
theorem Fut.old {W W1 : Wd} {H H1 : Hp} (a : Fut W H W1 H1) {x : Addr} (h1 : H1 x = none) (hx : x ∉ W.as) : H x = none := by
  cases q : H x with
  | none => rfl
  | some o =>
    have := a.keep x o q hx
    rw [h1] at this; cases this
theorem Fut.sub {W W1 : Wd} {H H1 : Hp} (a : Fut W H W1 H1) {x : Addr} (hx : x ∉ W1.as) : x ∉ W.as := fun zz => by
  obtain ⟨n1, e1, f1⟩ := a.ext
  exact hx (by rw [e1]; exact List.mem_append_left _ zz)
theorem Fut.trans {W W1 W2 : Wd} {H H1 H2 : Hp} (a : Fut W H W1 H1) (b : Fut W1 H1 W2 H2) : Fut W H W2 H2 := by
  obtain ⟨n1, e1, f1⟩ := a.ext
  obtain ⟨n2, e2, f2⟩ := b.ext
  refine ⟨⟨n1 ++ n2, by rw [e2, e1, List.append_assoc], fun x hx => ?_⟩, b.hd.trans a.hd, fun x o e hx => b.keep x o (a.keep x o e hx) (a.nin e hx), fun x od u e => b.lk x od u (a.lk x od u e)⟩
  · rcases List.mem_append.mp hx with z | z
    · exact f1 x z
    · have n1' := a.sub (f2 x z).2
      exact ⟨a.old (f2 x z).1 n1', n1'⟩
theorem Fut.get {W W1 : Wd} {H H1 : Hp} (a : Fut W H W1 H1) {i : Nat} {x : Addr} (h : W.as[i]? = some x) : W1.as[i]? = some x := by
  obtain ⟨n1, e1, _⟩ := a.ext
  rw [e1]
  rw [List.getElem?_append_left]
  · exact h
  · have := List.getElem?_eq_some_iff.mp h
    exact this.1

section
variable {G : Gx} {W W' : Wd} {H H' : Hp}
theorem Fut.sqT (f : Fut W H W' H') {a : Addr} {us : List V} (nw : ∀ o, H a = some o → a ∉ W.as) (h : SqT G.K H a us) : SqT G.K H' a us := by
  rcases h with (h | ⟨o, h⟩) | h
  · exact .inl (.inl (f.keep _ _ h (nw _ h)))
  · exact .inl (.inr ⟨o, f.keep _ _ h (nw _ h)⟩)
  · exact .inr h
end
theorem LstAt.fut {W W' : Wd} {H H' : Hp} (f : Fut W H W' H') {a : Addr} {us : List V} (h : LstAt W H a us) : LstAt W' H' a us :=
  ⟨f.keep _ _ h.1 h.2.1, f.nin h.1 h.2.1, f.nhd h.1 h.2.2⟩
/-- what is a tuple, or a frozen list -/
def Still (o : HO) : Prop := match o with
  | .tup _ => True
  | .frz _ (.tup _) => True
  | .frz _ (.lst _) => True
  | _ => False
/-- no cell is a tuple -/
theorem MemOk.nt {G : Gx} {W : Wd} {H : Hp} {M : Mem} (m : MemOk G W H M) : ∀ a o, H a = some o → Still o → a ∉ W.as := by
  intro a o h st ha
  obtain ⟨i, hi⟩ := List.getElem?_of_mem ha
  have hl : i < M.length := by
    rw [← m.len]
    exact (List.getElem?_eq_some_iff.mp hi).1
  have c := m.cell i _ a (List.getElem?_eq_getElem hl) hi
  cases e : M[i] with
  | lst l =>
    rw [e] at c
    obtain ⟨vs, q, _⟩ := c
    rw [h] at q; cases q; exact st
  | dk lk kvs =>
    rw [e] at c
    obtain ⟨vs, q, _⟩ := c
    cases lk
    · have q' : H a = some (.dK vs) := q
      rw [h] at q'; cases q'; exact st
    · obtain ⟨o', q'⟩ : ∃ o, H a = some (.frz o (.dK vs)) := q
      rw [h] at q'; cases q'; exact st
  | dt lk kvs =>
    rw [e] at c
    obtain ⟨vs, q, _⟩ := c
    cases lk
    · have q' : H a = some (.dT vs) := q
      rw [h] at q'; cases q'; exact st
    · obtain ⟨o', q'⟩ : ∃ o, H a = some (.frz o (.dT vs)) := q
      rw [h] at q'; cases q'; exact st
  | ins c0 fs =>
    rw [e] at c
    obtain ⟨dx, vs, q, _⟩ := c
    rw [h] at q; cases q; exact st

/-- what makes a value's form stay -/
structure Kp (W : Wd) (H : Hp) (W' : Wd) (H' : Hp) : Prop where
  get : ∀ (i : Nat) a, W.as[i]? = some a → W'.as[i]? = some a
  keep : ∀ a o, H a = some o → a ∉ W.as → a ∉ W.hd → H' a = some o
  still : ∀ a o, H a = some o → Still o → H' a = some o
  out : ∀ a o, H a = some o → a ∉ W.as → a ∉ W.hd → a ∉ W'.as ∧ a ∉ W'.hd
theorem Kp.trans {W W1 W2 : Wd} {H H1 H2 : Hp} (a : Kp W H W1 H1) (b : Kp W1 H1 W2 H2) : Kp W H W2 H2 :=
  ⟨fun i x h => b.get i x (a.get i x h), fun x o e h1 h2 => b.keep x o (a.keep x o e h1 h2) (a.out x o e h1 h2).1 (a.out x o e h1 h2).2, fun x o e st => b.still x o (a.still x o e st) st,
   fun x o e h1 h2 => b.out x o (a.keep x o e h1 h2) (a.out x o e h1 h2).1 (a.out x o e h1 h2).2⟩
theorem Fut.kp {G : Gx} {W W' : Wd} {H H' : Hp} {M : Mem} (f : Fut W H W' H') (m : MemOk G W H M) : Kp W H W' H' :=
  ⟨fun _ _ h => f.get h, fun a o e h1 _ => f.keep a o e h1, fun a o e st => f.keep a o e (m.nt a o e st), fun a o e h1 h2 => ⟨f.nin e h1, f.nhd e h2⟩⟩
mutual
theorem Rp.kp {G : Gx} {W W' : Wd} {H H' : Hp} (k : Kp W H W' H') : ∀ (d : D) (u : V), Rp G W H d u → Rp G W' H' d u
  | .non, u, h => h
  | .bl b, u, h => h
  | .int i, u, h => h
  | .str x, u, h => h
  | .tup l, u, h => by
    obtain ⟨a, us, e, s, r⟩ := h
    refine ⟨a, us, e, ?_, RpL.kp k l us r⟩
    rcases s with s | ⟨h, (s | ⟨o, s⟩) | s⟩
    · exact .inl (k.still _ _ s trivial)
    · exact .inr ⟨h, .inl (.inl (k.still _ _ s trivial))⟩
    · exact .inr ⟨h, .inl (.inr ⟨o, k.still _ _ s trivial⟩)⟩
    · exact .inr ⟨h, .inr s⟩
  | .lst l, u, h => by
    obtain ⟨a, us, e, s, r⟩ := h
    exact ⟨a, us, e, ⟨k.keep _ _ s.1 s.2.1 s.2.2, k.out _ _ s.1 s.2.1 s.2.2⟩, RpL.kp k l us r⟩
  | .fz l, u, h => by
    obtain ⟨a, us, e, s, r⟩ := h
    refine ⟨a, us, e, ?_, RpL.kp k l us r⟩
    rcases s with ⟨o, s⟩ | s
    · exact .inl ⟨o, k.still _ _ s trivial⟩
    · exact .inr s
  | .ref i, u, h => by
    obtain ⟨a, e, r⟩ := h
    exact ⟨a, k.get _ _ e, r⟩
theorem RpL.kp {G : Gx} {W W' : Wd} {H H' : Hp} (k : Kp W H W' H') : ∀ (l : List D) (us : List V), RpL G W H l us → RpL G W' H' l us
  | [], us, h => h
  | d :: r, us, h => by
    obtain ⟨u, us', e, h1, h2⟩ := h
    exact ⟨u, us', e, Rp.kp k d u h1, RpL.kp k r us' h2⟩
end
theorem MemOk.rp {G : Gx} {W W' : Wd} {H H' : Hp} {M : Mem} (m : MemOk G W H M) (f : Fut W H W' H') {d : D} {u : V} (h : Rp G W H d u) : Rp G W' H' d u := Rp.kp (f.kp m) d u h
theorem MemOk.rpL {G : Gx} {W W' : Wd} {H H' : Hp} {M : Mem} (m : MemOk G W H M) (f : Fut W H W' H') {d : List D} {u : List V} (h : RpL G W H d u) : RpL G W' H' d u := RpL.kp (f.kp m) d u h
theorem EnvOk.fut {G : Gx} {W W' : Wd} {H H' : Hp} {M : Mem} {env : Env} {σ : L2.St} (h : EnvOk G W H env σ) (m : MemOk G W H M) (f : Fut W H W' H') : EnvOk G W' H' env σ :=
  ⟨h.1, fun i d e => let ⟨u, h1, h2⟩ := h.2 i d e; ⟨u, h1, m.rp f h2⟩⟩

theorem EnvOk.kp {G : Gx} {W W' : Wd} {H H' : Hp} {env : Env} {σ : L2.St} (h : EnvOk G W H env σ) (k : Kp W H W' H') : EnvOk G W' H' env σ :=
  ⟨h.1, fun i d e => let ⟨u, h1, h2⟩ := h.2 i d e; ⟨u, h1, Rp.kp k _ _ h2⟩⟩

theorem rpL_paired {G : Gx} {W : Wd} {H : Hp} : ∀ {l : List D} {us : List V}, RpL G W H l us ↔ Paired (Rp G W H) l us
  | [], us => ⟨fun h => by have : us = [] := h; subst this; exact .nil, fun h => by cases h; rfl⟩
  | d :: r, us => ⟨fun h => by obtain ⟨u, us', e, h1, h2⟩ := h; subst e; exact .cons h1 (rpL_paired.mp h2), fun h => by
      cases h with
      | cons h1 h2 => exact ⟨_, _, rfl, h1, rpL_paired.mpr h2⟩⟩

/-! ### what is wanted behind -/
def XOk (G : Gx) (W : Wd) (H : Hp) (d : Addr) (fs : List (Str × D)) : Prop := ∃ vs, H d = some (.xd vs) ∧ RpK G W H id fs vs
def PX (G : Gx) (W : Wd) (H : Hp) (E : XK) (c : Nat) (fs : List (Str × D)) (m : Mem) : Prop := ∀ W' d H', Fut W H W' H' → MemOk G W' H' m → XOk G W' H' d fs → E (.ref (G.cl c)) (some d) H'
def PR {α : Type} (G : Gx) (W : Wd) (H : Hp) (K : α → Mem → Wd → Hp → Prop) (E : XK) : R α → Prop
  | .ok a m => ∀ W' H', Fut W H W' H' → MemOk G W' H' m → K a m W' H'
  | .ex c fs m => PX G W H E c fs m
  | .no => False
theorem PX.fut {G : Gx} {W W' : Wd} {H H' : Hp} {E : XK} {c : Nat} {fs : List (Str × D)} {m : Mem} (f : Fut W H W' H') (h : PX G W H E c fs m) : PX G W' H' E c fs m := fun W2 d H2 f2 => h W2 d H2 (f.trans f2)
theorem PR.fut {α : Type} {G : Gx} {W W' : Wd} {H H' : Hp} {K : α → Mem → Wd → Hp → Prop} {E : XK} (f : Fut W H W' H') : ∀ {r : R α}, PR G W H K E r → PR G W' H' K E r
  | .ok a m, h => fun W2 H2 f2 => h W2 H2 (f.trans f2)
  | .ex c fs m, h => PX.fut f h
  | .no, h => h
theorem PR.mono {α : Type} {G : Gx} {W : Wd} {H : Hp} {K K' : α → Mem → Wd → Hp → Prop} {E : XK} : ∀ {r : R α}, PR G W H K E r → (∀ a m W' H', Fut W H W' H' → MemOk G W' H' m → K a m W' H' → K' a m W' H') → PR G W H K' E r
  | .ok a m, h, k => fun W2 H2 f2 m2 => k a m W2 H2 f2 m2 (h W2 H2 f2 m2)
  | .ex c fs m, h, _ => h
  | .no, h, _ => h
/-- one thing behind another -/
theorem PR.bind {α β : Type} {G : Gx} {W : Wd} {H : Hp} {K : β → Mem → Wd → Hp → Prop} {K1 : α → Mem → Wd → Hp → Prop} {E : XK} {k : α → Mem → R β} : ∀ {r : R α}, PR G W H K E (r.bind k) →
    (∀ a m W1 H1, Fut W H W1 H1 → MemOk G W1 H1 m → PR G W1 H1 K E (k a m) → K1 a m W1 H1) → PR G W H K1 E r
  | .ok a m, h, hk => fun W2 H2 f2 m2 => hk a m W2 H2 f2 m2 (PR.fut f2 (show PR G W H K E (k a m) from h))
  | .ex c fs m, h, _ => h
  | .no, h, _ => h

/-- a value comes -/
def PV (G : Gx) (Q : VK) : D → Mem → Wd → Hp → Prop := fun d _ W' H' => ∀ u, Rp G W' H' d u → Q u H'
def PVs (G : Gx) (Q : List V → Hp → Prop) : List D → Mem → Wd → Hp → Prop := fun d _ W' H' => ∀ u, RpL G W' H' d u → Q u H'
def PB (G : Gx) (Q : Bool → Hp → Prop) : Bool → Mem → Wd → Hp → Prop := fun b _ _ H' => Q b H'

abbrev FE := Env → Mem → R D
abbrev FT := Env → Mem → R Bool
abbrev FA := Env → Mem → R (List D)
structure Sta (G : Gx) (W : Wd) (env : Env) (M : Mem) (σ : L2.St) (H : Hp) : Prop where
  mem : MemOk G W H M
  env : EnvOk G W H env σ
theorem Sta.fut {G : Gx} {W W' : Wd} {H H' : Hp} {M M' : Mem} {env : Env} {σ : L2.St} (h : Sta G W env M σ H) (f : Fut W H W' H') (m : MemOk G W' H' M') : Sta G W' env M' σ H' := ⟨m, h.env.fut h.mem f⟩

def tE (G : Gx) (E : XK) (f : FE) : TE := fun σ H Q => ∃ W env M, Sta G W env M σ H ∧ PR G W H (PV G Q) E (f env M)
def tT (G : Gx) (E : XK) (f : FT) : TT := fun σ H Q => ∃ W env M, Sta G W env M σ H ∧ PR G W H (PB G Q) E (f env M)
def tA (G : Gx) (E : XK) (f : FA) : TA := fun σ H Q => ∃ W env M, Sta G W env M σ H ∧ PR G W H (PVs G Q) E (f env M)

theorem pe_imp {X : Cx} {e : Expr} {t t' : TE} (h : PE X e t) (i : ∀ σ H Q, t' σ H Q → t σ H Q) : PE X e t' := ⟨fun pins s σ H Q I q => h.run pins s σ H Q I (i σ H Q q)⟩
theorem pt_imp {X : Cx} {e : Expr} {t t' : TT} (h : PT X e t) (i : ∀ σ H Q, t' σ H Q → t σ H Q) : PT X e t' := ⟨fun pins s σ H Q I q => h.run pins s σ H Q I (i σ H Q q)⟩
theorem pw_imp {X : Cx} {e : Expr} {t t' : TT} (h : PW X e t) (i : ∀ σ H Q, t' σ H Q → t σ H Q) : PW X e t' := ⟨fun wh pins s σ H Q I q => h.run wh pins s σ H Q I (i σ H Q q)⟩
theorem pa_imp {X : Cx} {e : List Expr} {t t' : TA} (h : PA X e t) (i : ∀ σ H Q, t' σ H Q → t σ H Q) : PA X e t' := ⟨fun pos pins s σ H Q I q => h.run pos pins s σ H Q I (i σ H Q q)⟩
theorem ps_imp {X : Cx} {e : Stmt} {t t' : TS} (h : PS X e t) (i : ∀ D σ H, t' D σ H → t D σ H) : PS X e t' := ⟨fun pins s σ H D I q => h.run pins s σ H D I (i D σ H q)⟩
theorem pss_imp {X : Cx} {e : List Stmt} {t t' : TS} (h : PSs X e t) (i : ∀ D σ H, t' D σ H → t D σ H) : PSs X e t' := ⟨fun pins s σ H D I q => h.run pins s σ H D I (i D σ H q)⟩

section
variable {X : Cx} {G : Gx} {E : XK}
/-- pass a part on -/
theorem tE.bind {f : FE} {α : Type} {k : D → Mem → R α} {W : Wd} {env : Env} {M : Mem} {σ : L2.St} {H : Hp} {K : α → Mem → Wd → Hp → Prop} {Q : VK} (s : Sta G W env M σ H) (h : PR G W H K E ((f env M).bind k))
    (hk : ∀ d m W1 H1 u, Fut W H W1 H1 → Sta G W1 env m σ H1 → Rp G W1 H1 d u → PR G W1 H1 K E (k d m) → Q u H1) : tE G E f σ H Q :=
  ⟨W, env, M, s, PR.bind h fun d m W1 H1 f1 m1 q => fun u r => hk d m W1 H1 u f1 (s.fut f1 m1) r q⟩
theorem tT.bind {f : FT} {α : Type} {k : Bool → Mem → R α} {W : Wd} {env : Env} {M : Mem} {σ : L2.St} {H : Hp} {K : α → Mem → Wd → Hp → Prop} {Q : Bool → Hp → Prop} (s : Sta G W env M σ H) (h : PR G W H K E ((f env M).bind k))
    (hk : ∀ d m W1 H1, Fut W H W1 H1 → Sta G W1 env m σ H1 → PR G W1 H1 K E (k d m) → Q d H1) : tT G E f σ H Q :=
  ⟨W, env, M, s, PR.bind h fun d m W1 H1 f1 m1 q => hk d m W1 H1 f1 (s.fut f1 m1) q⟩
theorem tA.bind {f : FA} {α : Type} {k : List D → Mem → R α} {W : Wd} {env : Env} {M : Mem} {σ : L2.St} {H : Hp} {K : α → Mem → Wd → Hp → Prop} {Q : List V → Hp → Prop} (s : Sta G W env M σ H) (h : PR G W H K E ((f env M).bind k))
    (hk : ∀ d m W1 H1 u, Fut W H W1 H1 → Sta G W1 env m σ H1 → RpL G W1 H1 d u → PR G W1 H1 K E (k d m) → Q u H1) : tA G E f σ H Q :=
  ⟨W, env, M, s, PR.bind h fun d m W1 H1 f1 m1 q => fun u r => hk d m W1 H1 u f1 (s.fut f1 m1) r q⟩

/-! ### names, constants, operators -/
def mVar (i : Nat) : FE := fun env M => match env[i]? with
  | some (some d) => .ok d M
  | _ => .no
def mC (d : D) : FE := fun _ M => .ok d M
theorem sn_var {i : Nat} {x : Str} {pos : Pos} (h : PE X (.Name x pos) (tVar i)) : PE X (.Name x pos) (tE G E (mVar i)) := pe_imp h fun σ H Q ⟨W, env, M, s, p⟩ => by
  unfold mVar at p
  split at p
  · rename_i d e
    obtain ⟨u, h1, h2⟩ := s.env.2 i d e
    exact ⟨u, h1, p W H Fut.rfl' s.mem u h2⟩
  · exact p.elim
theorem sn_int {i j pos} : PE X (.Constant (.int i) j pos) (tE G E (mC (.int i))) := pe_imp pe_int fun σ H Q ⟨W, env, M, s, p⟩ => p W H Fut.rfl' s.mem _ rfl
theorem sn_bl {b j pos} : PE X (.Constant (.bool b) j pos) (tE G E (mC (.bl b))) := pe_imp pe_bl fun σ H Q ⟨W, env, M, s, p⟩ => p W H Fut.rfl' s.mem _ rfl
theorem sn_non {j pos} : PE X (.Constant .none j pos) (tE G E (mC .non)) := pe_imp pe_non fun σ H Q ⟨W, env, M, s, p⟩ => p W H Fut.rfl' s.mem _ rfl
theorem sn_str {x : Str} {j pos} : PE X (.Constant (.str x) j pos) (tE G E (mC (.str (s2l x)))) := pe_imp pe_str fun σ H Q ⟨W, env, M, s, p⟩ => p W H Fut.rfl' s.mem _ (by show V.str x = .str (l2s (s2l x)); rw [l2s_s2l])

end
end Fn

set_option Elab.async false
set_option linter.all false
set_option maxRecDepth 100000
set_option maxHeartbeats 1000000
/-! FnOps: new objects, operators, comparisons. -/
namespace Fn
open PySem PySem.Spec PyProof.Rows L2

theorem line_eq : (sizeLine : Nat) = 16777216 := sizeLine_eq
theorem l2s_len (l : List Nat) : (l2s l).length = l.length := by simp [l2s, Str.length]
theorem l2s_toList (l : List Nat) : (l2s l).cps.toList = l := s2l_l2s l
theorem l2s_append (a b : List Nat) : l2s a ++ l2s b = l2s (a ++ b) := by
  show (⟨(l2s a).cps ++ (l2s b).cps⟩ : Str) = _
  simp [l2s]

section
variable {X : Cx} {cl : Nat → Addr} {E : XK} {G : Gx} {W W' : Wd} {H H' : Hp} {M : Mem} {Q : VK}

theorem CellOk.there {a : Addr} {c : Cell} (h : CellOk G W H a c) : ∃ o, H a = some o ∧ ¬ Still o := by
  cases c with
  | lst l => obtain ⟨vs, q, _⟩ := h; exact ⟨_, q, fun z => z⟩
  | dk lk kvs =>
    obtain ⟨vs, q, _⟩ := h
    cases lk
    · exact ⟨_, (show H a = some (.dK vs) from q), fun z => z⟩
    · obtain ⟨o', q'⟩ : ∃ o, H a = some (.frz o (.dK vs)) := q
      exact ⟨_, q', fun z => z⟩
  | dt lk kvs =>
    obtain ⟨vs, q, _⟩ := h
    cases lk
    · exact ⟨_, (show H a = some (.dT vs) from q), fun z => z⟩
    · obtain ⟨o', q'⟩ : ∃ o, H a = some (.frz o (.dT vs)) := q
      exact ⟨_, q', fun z => z⟩
  | ins c0 fs => obtain ⟨dx, vs, q, _⟩ := h; exact ⟨_, q, fun z => z⟩
theorem MemOk.at (m : MemOk G W H M) {a : Addr} (ha : a ∈ W.as) : ∃ (i : Nat) (c : Cell), W.as[i]? = some a ∧ M[i]? = some c ∧ CellOk G W H a c := by
  obtain ⟨i, hi⟩ := List.getElem?_of_mem ha
  have hl : i < M.length := by
    rw [← m.len]
    exact (List.getElem?_eq_some_iff.mp hi).1
  exact ⟨i, _, hi, List.getElem?_eq_getElem hl, m.cell i _ a (List.getElem?_eq_getElem hl) hi⟩
theorem MemOk.fresh (m : MemOk G W H M) {p : Addr} (hp : H p = none) : p ∉ W.as ∧ p ∉ W.hd := by
  constructor
  · intro z
    obtain ⟨i, c, _, _, k⟩ := m.at z
    obtain ⟨o, ho, _⟩ := k.there
    rw [hp] at ho; cases ho
  · intro z
    obtain ⟨o, ho⟩ := m.hid p z
    rw [hp] at ho; cases ho
theorem Paired.imp {α β : Type} {F F' : α → β → Prop} (h : ∀ a b, F a b → F' a b) : ∀ {l : List α} {l' : List β}, Paired F l l' → Paired F' l l'
  | _, _, .nil => .nil
  | _, _, .cons a b => .cons (h _ _ a) (Paired.imp h b)
theorem RpK.fut {κ κ' : Type} {f : κ → κ'} (m : MemOk G W H M) (fu : Fut W H W' H') {l : List (κ × D)} {vs : List (κ' × V)} (h : RpK G W H f l vs) : RpK G W' H' f l vs := Paired.imp (fun _ _ z => ⟨z.1, m.rp fu z.2⟩) h
theorem CellOk.fut (m : MemOk G W H M) (fu : Fut W H W' H') {a : Addr} {c : Cell} (e : H' a = H a) (h : CellOk G W H a c) : CellOk G W' H' a c := by
  cases c with
  | lst l => obtain ⟨vs, q, r⟩ := h; exact ⟨vs, by rw [e]; exact q, m.rpL fu r⟩
  | dk lk kvs => obtain ⟨vs, q, r⟩ := h; exact ⟨vs, by rw [e]; exact q, r.fut m fu⟩
  | dt lk kvs => obtain ⟨vs, q, r⟩ := h; exact ⟨vs, by rw [e]; exact q, r.fut m fu⟩
  | ins c0 fs => obtain ⟨dx, vs, q, r⟩ := h; exact ⟨dx, vs, by rw [e]; exact q, r.fut m fu⟩
/-- a new object beside -/
theorem Fut.laid {p : Addr} {o : HO} (hp : H p = none) : Fut W H W (upd H p o) := ⟨⟨[], by simp, by simp⟩, rfl, fun a u e _ => by rw [upd_ne (ne_of_none e hp)]; exact e, fun a od u e => by rw [upd_ne (ne_of_none e hp)]; exact e⟩
theorem MemOk.laid (m : MemOk G W H M) {p : Addr} {o : HO} (hp : H p = none) : MemOk G W (upd H p o) M :=
  ⟨m.len, m.nd, fun i c a e1 e2 => by
    have k := m.cell i c a e1 e2
    obtain ⟨u, hu, _⟩ := k.there
    exact k.fut m (Fut.laid hp) (upd_ne (ne_of_none hu hp)), m.apart, fun a ha => by
    obtain ⟨u, hu⟩ := m.hid a ha
    exact ⟨u, by rw [upd_ne (ne_of_none hu hp)]; exact hu⟩⟩
/-- a new cell -/
theorem Fut.added {p : Addr} {o : HO} (m : MemOk G W H M) (hp : H p = none) : Fut W H ⟨W.as ++ [p], W.hd⟩ (upd H p o) :=
  ⟨⟨[p], rfl, fun a ha => by rw [List.mem_singleton] at ha; subst ha; exact ⟨hp, (m.fresh hp).1⟩⟩, rfl, fun a u e _ => by rw [upd_ne (ne_of_none e hp)]; exact e, fun a od u e => by rw [upd_ne (ne_of_none e hp)]; exact e⟩
theorem MemOk.added (m : MemOk G W H M) {p : Addr} {o : HO} (hp : H p = none) {c : Cell} (hc : CellOk G ⟨W.as ++ [p], W.hd⟩ (upd H p o) p c) : MemOk G ⟨W.as ++ [p], W.hd⟩ (upd H p o) (M ++ [c]) where
  len := by simp [m.len]
  nd := by
    rw [List.nodup_append]
    refine ⟨m.nd, by simp, fun a ha b hb => ?_⟩
    rw [List.mem_singleton] at hb; subst hb
    intro z; subst z
    exact (m.fresh hp).1 ha
  cell := fun i c' a e1 e2 => by
    by_cases hi : i < M.length
    · rw [List.getElem?_append_left hi] at e1
      have hi2 : i < W.as.length := by rw [m.len]; exact hi
      rw [show (⟨W.as ++ [p], W.hd⟩ : Wd).as = W.as ++ [p] from rfl, List.getElem?_append_left hi2] at e2
      have k := m.cell i c' a e1 e2
      obtain ⟨u, hu, _⟩ := k.there
      exact k.fut m (Fut.added m hp) (upd_ne (ne_of_none hu hp))
    · have hi2 : ¬ i < W.as.length := by rw [m.len]; exact hi
      rw [List.getElem?_append_right (by omega)] at e1
      rw [show (⟨W.as ++ [p], W.hd⟩ : Wd).as = W.as ++ [p] from rfl, List.getElem?_append_right (by omega)] at e2
      have e3 : i - M.length = 0 := by
        have := (List.getElem?_eq_some_iff.mp e1).1
        simp at this; omega
      rw [e3] at e1
      rw [show i - W.as.length = 0 by rw [m.len]; exact e3] at e2
      simp at e1 e2
      subst e1 e2
      exact hc
  apart := fun a ha => by
    rcases List.mem_append.mp ha with z | z
    · exact m.apart a z
    · rw [List.mem_singleton] at z; subst z
      exact (m.fresh hp).2
  hid := fun a ha => by
    obtain ⟨u, hu⟩ := m.hid a ha
    exact ⟨u, by rw [upd_ne (ne_of_none hu hp)]; exact hu⟩
/-- a cell is written -/
def Nf : HO → Prop
  | .frz _ _ => False
  | _ => True
theorem Fut.wrote {i : Nat} {a : Addr} {o o' : HO} (hi : W.as[i]? = some a) (ha : H a = some o') (hn : Nf o') : Fut W H W (upd H a o) :=
  ⟨⟨[], by simp, by simp⟩, rfl, fun b u e hb => by rw [upd_ne (fun z => hb (by rw [z]; exact List.mem_of_getElem? hi))]; exact e, fun b od u e => by
    rw [upd_ne (fun z => by rw [z, ha] at e; cases e; exact hn)]; exact e⟩
theorem Kp.wrote (m : MemOk G W H M) {i : Nat} {a : Addr} {o : HO} (hi : W.as[i]? = some a) : Kp W H W (upd H a o) :=
  ⟨fun _ _ h => h, fun b u e hb _ => by rw [upd_ne (fun z => hb (by rw [z]; exact List.mem_of_getElem? hi))]; exact e, fun b u e st => by
    rw [upd_ne (fun z => m.nt _ _ e st (by rw [z]; exact List.mem_of_getElem? hi))]; exact e, fun _ _ _ h1 h2 => ⟨h1, h2⟩⟩
theorem CellOk.kp' {W' : Wd} {H' : Hp} (k : Kp W H W' H') {a : Addr} {c : Cell} (e : H' a = H a) (h : CellOk G W H a c) : CellOk G W' H' a c := by
  have rk : ∀ {κ κ' : Type} {f : κ → κ'} {kvs : List (κ × D)} {vs : List (κ' × V)}, RpK G W H f kvs vs → RpK G W' H' f kvs vs := fun r => Paired.mapP r fun _ _ z => ⟨z.1, Rp.kp k _ _ z.2⟩
  cases c with
  | lst l => obtain ⟨us, q, r⟩ := h; exact ⟨us, by rw [e]; exact q, RpL.kp k _ _ r⟩
  | dk lk kvs => obtain ⟨vs, q, r⟩ := h; exact ⟨vs, by rw [e]; exact q, rk r⟩
  | dt lk kvs => obtain ⟨vs, q, r⟩ := h; exact ⟨vs, by rw [e]; exact q, rk r⟩
  | ins c0 fs => obtain ⟨dx, vs, q, r⟩ := h; exact ⟨dx, vs, by rw [e]; exact q, rk r⟩
theorem MemOk.wrote (m : MemOk G W H M) {i : Nat} {a : Addr} {o : HO} (hi : W.as[i]? = some a) {c : Cell} (hc : CellOk G W (upd H a o) a c) : MemOk G W (upd H a o) (M.set i c) where
  len := by simp [m.len]
  nd := m.nd
  cell := fun j c' b e1 e2 => by
    by_cases hj : i = j
    · subst hj
      rw [hi] at e2; cases e2
      rw [List.getElem?_set_self (by rw [← m.len]; exact (List.getElem?_eq_some_iff.mp hi).1)] at e1
      cases e1
      exact hc
    · rw [List.getElem?_set_ne hj] at e1
      have k := m.cell j c' b e1 e2
      refine k.kp' (Kp.wrote m hi) (upd_ne fun z => hj ?_)
      subst z
      exact (List.getElem?_inj (List.getElem?_eq_some_iff.mp hi).1 m.nd).mp (hi.trans e2.symm)
  apart := m.apart
  hid := fun b hb => by
    obtain ⟨u, hu⟩ := m.hid b hb
    refine ⟨u, ?_⟩
    rw [upd_ne fun z => ?_]
    · exact hu
    · subst z
      exact m.apart b (List.mem_of_getElem? hi) hb

/-! ### new lists and tuples -/
/-- a new list: a cell or by value -/
def mkL (c : Bool) (ds : List D) (M : Mem) : R D := if c = true then .ok (.ref M.length) (M ++ [.lst ds]) else .ok (.lst ds) M
theorem mkL_new {c : Bool} {ds : List D} {us : List V} (m : MemOk G W H M) (h : PR G W H (PV G Q) E (mkL c ds M)) (r : RpL G W H ds us) : ∀ p, H p = none → Q (.ref p) (upd H p (.lst us)) := by
  intro p hp
  unfold mkL at h
  cases c with
  | true =>
    rw [if_pos rfl] at h
    refine h ⟨W.as ++ [p], W.hd⟩ _ (Fut.added m hp) (m.added hp ⟨us, upd_same, m.rpL (Fut.added m hp) r⟩) _ ⟨p, ?_, rfl⟩
    rw [← m.len]
    simp
  | false =>
    rw [if_neg Bool.false_ne_true] at h
    exact h W _ (Fut.laid hp) (m.laid hp) _ ⟨p, us, rfl, ⟨upd_same, m.fresh hp⟩, m.rpL (Fut.laid hp) r⟩
theorem tup_new {ds : List D} {us : List V} (m : MemOk G W H M) (h : PR G W H (PV G Q) E (.ok (.tup ds) M)) (r : RpL G W H ds us) : ∀ p, H p = none → Q (.ref p) (upd H p (.tup us)) := fun p hp =>
  h W _ (Fut.laid hp) (m.laid hp) _ ⟨p, us, rfl, .inl upd_same, m.rpL (Fut.laid hp) r⟩
theorem RpL.len : ∀ {ds : List D} {us : List V}, RpL G W H ds us → us.length = ds.length
  | [], us, h => by have : us = [] := h; subst this; rfl
  | d :: r, us, h => by
    obtain ⟨u, us', e, _, h2⟩ := h
    subst e
    simp [RpL.len h2]

/-- the items of a list (by value, frozen, a cell) -/
def lstOf (M : Mem) : D → Option (List D)
  | .lst l => some l
  | .fz l => some l
  | .ref i => match M[i]? with
    | some (.lst l) => some l
    | _ => none
  | _ => none
/-- of a list that the call itself made -/
def ownOf (M : Mem) : D → Option (List D)
  | .lst l => some l
  | .ref i => match M[i]? with
    | some (.lst l) => some l
    | _ => none
  | _ => none
theorem lstOf_ok (m : MemOk G W H M) {d : D} {u : V} {l : List D} (r : Rp G W H d u) (e : lstOf M d = some l) : ∃ a us, u = .ref a ∧ SqL G.K H a us ∧ RpL G W H l us := by
  cases d with
  | lst l' => cases e; obtain ⟨a, us, e1, e2, e3⟩ := r; exact ⟨a, us, e1, .inl (.inl e2.1), e3⟩
  | fz l' =>
    cases e; obtain ⟨a, us, e1, e2, e3⟩ := r
    refine ⟨a, us, e1, ?_, e3⟩
    rcases e2 with ⟨o, e2⟩ | e2
    · exact .inl (.inr ⟨o, e2⟩)
    · exact .inr e2
  | ref i =>
    obtain ⟨a, e1, e2⟩ := r
    simp only [lstOf] at e
    split at e
    · rename_i l' hc
      cases e
      obtain ⟨us, h1, h2⟩ := m.cell i _ a hc e1
      exact ⟨a, us, e2, .inl (.inl h1), h2⟩
    · cases e
  | _ => cases e
theorem ownOf_ok (m : MemOk G W H M) {d : D} {u : V} {l : List D} (r : Rp G W H d u) (e : ownOf M d = some l) : ∃ a us, u = .ref a ∧ H a = some (.lst us) ∧ RpL G W H l us := by
  cases d with
  | lst l' => cases e; obtain ⟨a, us, e1, e2, e3⟩ := r; exact ⟨a, us, e1, e2.1, e3⟩
  | ref i =>
    obtain ⟨a, e1, e2⟩ := r
    simp only [ownOf] at e
    split at e
    · rename_i l' hc
      cases e
      obtain ⟨us, h1, h2⟩ := m.cell i _ a hc e1
      exact ⟨a, us, e2, h1, h2⟩
    · cases e
  | _ => cases e
/-- a list's or a tuple's items -/
def seqOf (M : Mem) : D → Option (List D)
  | .tup l => some l
  | d => lstOf M d
theorem seqOf_ok (m : MemOk G W H M) {d : D} {u : V} {l : List D} (r : Rp G W H d u) (e : seqOf M d = some l) : ∃ a us, u = .ref a ∧ (SqL G.K H a us ∨ SqT G.K H a us) ∧ RpL G W H l us := by
  cases d with
  | tup l' => cases e; obtain ⟨a, us, e1, e2, e3⟩ := r; exact ⟨a, us, e1, .inr e2.sq, e3⟩
  | _ => obtain ⟨a, us, e1, e2, e3⟩ := lstOf_ok m r e; exact ⟨a, us, e1, .inl e2, e3⟩
theorem RpL.get : ∀ {ds : List D} {us : List V}, RpL G W H ds us → ∀ {j : Nat} {d : D}, ds[j]? = some d → ∃ u, us[j]? = some u ∧ Rp G W H d u
  | [], us, h, j, d, e => by simp at e
  | d0 :: r, us, h, j, d, e => by
    obtain ⟨u, us', e1, h1, h2⟩ := h
    subst e1
    cases j with
    | zero => simp at e; subst e; exact ⟨u, by simp, h1⟩
    | succ j => obtain ⟨v, e2, h3⟩ := RpL.get h2 (j := j) (by simpa using e); exact ⟨v, by simpa using e2, h3⟩
theorem RpL.append : ∀ {ds ds' : List D} {us us' : List V}, RpL G W H ds us → RpL G W H ds' us' → RpL G W H (ds ++ ds') (us ++ us')
  | [], ds', us, us', h, h' => by have : us = [] := h; subst this; exact h'
  | d :: r, ds', us, us', h, h' => by
    obtain ⟨u, vs, e1, h1, h2⟩ := h
    subst e1
    exact ⟨u, vs ++ us', rfl, h1, RpL.append h2 h'⟩
theorem RpL.drop : ∀ {ds : List D} {us : List V} (n : Nat), RpL G W H ds us → RpL G W H (ds.drop n) (us.drop n)
  | ds, us, 0, h => h
  | [], us, n + 1, h => by have : us = [] := h; subst this; exact (rfl : ([] : List V) = [])
  | d :: r, us, n + 1, h => by
    obtain ⟨u, vs, e1, h1, h2⟩ := h
    subst e1
    exact RpL.drop n h2
theorem RpL.take : ∀ {ds : List D} {us : List V} (n : Nat), RpL G W H ds us → RpL G W H (ds.take n) (us.take n)
  | ds, us, 0, h => by simp; exact (rfl : ([] : List V) = [])
  | [], us, n + 1, h => by have : us = [] := h; subst this; exact (rfl : ([] : List V) = [])
  | d :: r, us, n + 1, h => by
    obtain ⟨u, vs, e1, h1, h2⟩ := h
    subst e1
    exact ⟨u, vs.take n, by simp, h1, RpL.take n h2⟩
theorem RpL.set : ∀ {ds : List D} {us : List V} {d : D} {u : V} (j : Nat), RpL G W H ds us → Rp G W H d u → RpL G W H (ds.set j d) (us.set j u)
  | [], us, d, u, j, h, r => by have : us = [] := h; subst this; exact (rfl : ([] : List V) = [])
  | d0 :: ds, us, d, u, 0, h, r => by
    obtain ⟨v, vs, e1, h1, h2⟩ := h
    subst e1
    exact ⟨u, vs, rfl, r, h2⟩
  | d0 :: ds, us, d, u, j + 1, h, r => by
    obtain ⟨v, vs, e1, h1, h2⟩ := h
    subst e1
    exact ⟨v, vs.set j u, rfl, h1, RpL.set j h2 r⟩
theorem RpL.reverse : ∀ {ds : List D} {us : List V}, RpL G W H ds us → RpL G W H ds.reverse us.reverse
  | [], us, h => by have : us = [] := h; subst this; exact (rfl : ([] : List V) = [])
  | d :: ds, us, h => by
    obtain ⟨v, vs, e1, h1, h2⟩ := h
    subst e1
    rw [List.reverse_cons, List.reverse_cons]
    exact (RpL.reverse h2).append ⟨v, [], rfl, h1, rfl⟩

/-! ### operators on two values -/
def Op2 (G : Gx) (E : XK) (r : R2) (o : D → D → Mem → R D) : Prop := ∀ W H M a b u v Q, MemOk G W H M → Rp G W H a u → Rp G W H b v → PR G W H (PV G Q) E (o a b M) → r u v H Q
def mOp (o : D → D → Mem → R D) (fa fb : FE) : FE := fun env M => (fa env M).bind fun a m => (fb env m).bind fun b m' => o a b m'
theorem tE_op {r : R2} {fa fb : FE} {o : D → D → Mem → R D} (hs : Op2 G E r o) (σ : L2.St) (H : Hp) (Q : VK) (h : tE G E (mOp o fa fb) σ H Q) : tOp r (tE G E fa) (tE G E fb) σ H Q := by
  obtain ⟨W, env, M, s, p⟩ := h
  refine tE.bind s p fun d m W1 H1 u f1 s1 r1 p1 => ?_
  refine tE.bind s1 p1 fun d2 m2 W2 H2 u2 f2 s2 r2 p2 => ?_
  exact hs W2 H2 m2 d d2 u u2 Q s2.mem (s1.mem.rp f2 r1) r2 p2
theorem sn_op {op : Operator} {r : R2} {a b : Expr} {fa fb : FE} {o : D → D → Mem → R D} {pos : Pos} (ho : OpR X (binaryOp op) r) (hs : Op2 G E r o) (ha : PE X a (tE G E fa)) (hb : PE X b (tE G E fb)) : PE X (.BinOp a op b pos) (tE G E (mOp o fa fb)) :=
  pe_imp (pe_op ho ha hb) (tE_op hs)
theorem sn_cmp {op : CmpOp} {r : R2} {a b : Expr} {fa fb : FE} {o : D → D → Mem → R D} {pos : Pos} (ho : OpR X (compareOp op) r) (hs : Op2 G E r o) (hm : behindInMarks op b = false) (ha : PE X a (tE G E fa)) (hb : PE X b (tE G E fb)) : PE X (.Compare a [op] [b] pos) (tE G E (mOp o fa fb)) :=
  pe_imp (pe_cmpR ho ha hb hm) (tE_op hs)
theorem Op2.or1 {r r' : R2} {o : D → D → Mem → R D} (h : Op2 G E r o) : Op2 G E (fun x y H Q => r x y H Q ∨ r' x y H Q) o := fun W H M a b u v Q m ra rb p => .inl (h W H M a b u v Q m ra rb p)
/-- two ways: the kinds tell -/
theorem Op2.or {r r' : R2} {o o1 o2 : D → D → Mem → R D} (h : Op2 G E r o1) (h' : Op2 G E r' o2) (e : ∀ a b M, o a b M = o1 a b M ∨ o a b M = o2 a b M) : Op2 G E (fun x y H Q => r x y H Q ∨ r' x y H Q) o := fun W H M a b u v Q m ra rb p => by
  rcases e a b M with z | z
  · rw [z] at p; exact .inl (h W H M a b u v Q m ra rb p)
  · rw [z] at p; exact .inr (h' W H M a b u v Q m ra rb p)
theorem PR.here {α : Type} {K : α → Mem → Wd → Hp → Prop} {a : α} (m : MemOk G W H M) (h : PR G W H K E (.ok a M)) : K a M W H := h W H Fut.rfl' m

/-- ints -/
def oI (g : Int → Int → D) : D → D → Mem → R D
  | .int i, .int j, M => .ok (g i j) M
  | _, _, _ => .no
theorem op2_I {g : Int → Int → D} {g' : Int → Int → V} (hg : ∀ W H i j, Rp G W H (g i j) (g' i j)) : Op2 G E (rI0 g') (oI g) := fun W H M a b u v Q m ra rb p => by
  cases a <;> cases b <;> first
    | exact p.elim
    | exact ⟨_, _, ra, rb, p.here m _ (hg _ _ _ _)⟩
/-- ints, under a condition -/
def oIC (C : Int → Int → Bool) (g : Int → Int → D) : D → D → Mem → R D
  | .int i, .int j, M => if C i j = true then .ok (g i j) M else .no
  | _, _, _ => .no
theorem op2_IC {C : Int → Int → Bool} {C' : Int → Int → Prop} {g : Int → Int → D} {g' : Int → Int → V} (hC : ∀ i j, C i j = true → C' i j) (hg : ∀ W H i j, Rp G W H (g i j) (g' i j)) : Op2 G E (rI C' g') (oIC C g) := fun W H M a b u v Q m ra rb p => by
  cases a <;> cases b <;> first
    | exact p.elim
    | (simp only [oIC] at p
       split at p
       · rename_i hc
         exact ⟨_, _, ra, rb, hC _ _ hc, p.here m _ (hg _ _ _ _)⟩
       · exact p.elim)
end

/-! ### + - * // % ** -/
section
variable {X : Cx} {G : Gx} {cl : Nat → Addr} {E : XK}
/-- texts -/
def oAddS : D → D → Mem → R D
  | .str a, .str b, M => if a.length + b.length ≤ 16777216 then .ok (.str (a ++ b)) M else .no
  | _, _, _ => .no
def oAddB : D → D → Mem → R D
  | .int i, .bl k, M => .ok (.int (i + if k = true then 1 else 0)) M
  | _, _, _ => .no
def oAddT : D → D → Mem → R D
  | .tup a, .tup b, M => if a.length + b.length ≤ 16777216 then .ok (.tup (a ++ b)) M else .no
  | _, _, _ => .no
def oAddL (c : Bool) (a b : D) (M : Mem) : R D := match ownOf M a, ownOf M b with
  | some x, some y => if x.length + y.length ≤ 16777216 then mkL c (x ++ y) M else .no
  | _, _ => .no
def oAdd (c : Bool) : D → D → Mem → R D
  | .int i, .int j, M => .ok (.int (i + j)) M
  | .str a, .str b, M => oAddS (.str a) (.str b) M
  | .int i, .bl k, M => oAddB (.int i) (.bl k) M
  | .tup a, .tup b, M => oAddT (.tup a) (.tup b) M
  | a, b, M => oAddL c a b M
theorem op2_addS : Op2 G E (fun x y H Q => ∃ i j, x = .str i ∧ y = .str j ∧ i.length + j.length ≤ sizeLine ∧ Q (.str (i ++ j)) H) oAddS := fun W H M a b u v Q m ra rb p => by
  cases a <;> cases b <;> first
    | exact p.elim
    | (simp only [oAddS] at p
       split at p
       · rename_i hc
         refine ⟨_, _, ra, rb, by rw [l2s_len, l2s_len, line_eq]; exact hc, p.here m _ ?_⟩
         show V.str _ = V.str _
         rw [l2s_append]
       · exact p.elim)
theorem op2_addB : Op2 G E (fun x y H Q => ∃ i k, x = .int i ∧ y = .bl k ∧ Q (.int (i + b2i k)) H) oAddB := fun W H M a b u v Q m ra rb p => by
  cases a <;> cases b <;> first
    | exact p.elim
    | (refine ⟨_, _, ra, rb, p.here m _ ?_⟩
       rename_i k
       cases k <;> rfl)
theorem op2_addT : Op2 G E (rCatA G.K) oAddT := fun W H M a b u v Q m ra rb p => by
  cases a <;> cases b <;> first
    | exact p.elim
    | (simp only [oAddT] at p
       split at p
       · rename_i xs ys hc
         obtain ⟨a1, us, e1, s1, r1⟩ := ra
         obtain ⟨a2, vs, e2, s2, r2⟩ := rb
         subst e1 e2
         refine ⟨a1, a2, us, vs, rfl, rfl, s1.sq, s2.sq, by rw [r1.len, r2.len, line_eq]; exact hc, fun z => ?_, fun _ z => ?_, fun _ _ => tup_new m p (r1.append r2)⟩
         · have e3 : xs = [] := by
             have := r1.len
             rw [z] at this
             exact List.length_eq_zero_iff.mp this.symm
           subst e3
           exact p.here m _ ⟨a2, vs, rfl, s2, r2⟩
         · have e3 : ys = [] := by
             have := r2.len
             rw [z] at this
             exact List.length_eq_zero_iff.mp this.symm
           subst e3
           rw [List.append_nil] at p
           exact p.here m _ ⟨a1, us, rfl, s1, r1⟩
       · exact p.elim)
theorem op2_addL {c : Bool} : Op2 G E rCat (oAddL c) := fun W H M a b u v Q m ra rb p => by
  unfold oAddL at p
  split at p
  · rename_i x y e1 e2
    split at p
    · rename_i hc
      obtain ⟨a1, us, h1, h2, h3⟩ := ownOf_ok m ra e1
      obtain ⟨a2, vs, h4, h5, h6⟩ := ownOf_ok m rb e2
      exact ⟨a1, a2, us, vs, h1, h4, h2, h5, by rw [h3.len, h6.len, line_eq]; exact hc, mkL_new m p (h3.append h6)⟩
    · exact p.elim
  · exact p.elim
theorem sn_add (c : Bool) {a b : Expr} {fa fb : FE} {pos : Pos} (ha : PE X a (tE ⟨X.K, cl⟩ E fa)) (hb : PE X b (tE ⟨X.K, cl⟩ E fb)) : PE X (.BinOp a .Add b pos) (tE ⟨X.K, cl⟩ E (mOp (oAdd c) fa fb)) := by
  refine sn_op (op_add.or (op_add_str.or (op_add_ib.or (op_catA.or op_cat)))) (?_ : Op2 ⟨X.K, cl⟩ E _ _) ha hb
  intro W H M a b u v Q m ra rb p
  have h1 : Op2 ⟨X.K, cl⟩ E (rI0 fun i j => .int (i + j)) (oI fun i j => .int (i + j)) := op2_I fun _ _ _ _ => rfl
  cases a <;> cases b <;> first
    | exact .inl (h1 W H M _ _ u v Q m ra rb p)
    | exact .inr (.inl (op2_addS W H M _ _ u v Q m ra rb p))
    | exact .inr (.inr (.inl (op2_addB W H M _ _ u v Q m ra rb p)))
    | exact .inr (.inr (.inr (.inl (op2_addT W H M _ _ u v Q m ra rb p))))
    | exact .inr (.inr (.inr (.inr (op2_addL W H M _ _ u v Q m ra rb p))))
def oSub : D → D → Mem → R D := oI fun i j => .int (i - j)
theorem sn_sub {a b : Expr} {fa fb : FE} {pos : Pos} (ha : PE X a (tE G E fa)) (hb : PE X b (tE G E fb)) : PE X (.BinOp a .Sub b pos) (tE G E (mOp oSub fa fb)) := sn_op op_sub (op2_I fun _ _ _ _ => rfl) ha hb
/-- the one factor below 2 ^ 64, or both together below a million bits -/
def mulOk (i j : Int) : Bool := decide (-(2 ^ 64) < i ∧ i < 2 ^ 64) || decide (-(2 ^ 64) < j ∧ j < 2 ^ 64) || decide (i.natAbs.log2 + j.natAbs.log2 < 1000000)
def oMulI : D → D → Mem → R D := oIC mulOk fun i j => .int (i * j)
theorem op_mulA : OpR X (binaryOp .Mult) (rI (fun i j => CMul i j ∨ CMulW i j) fun i j => .int (i * j)) := opI fun _ _ _ _ _ _ _ hc q => mul_int q (hc.elim CMul.ok CMulW.ok)
theorem op2_mulI : Op2 G E (rI (fun i j => CMul i j ∨ CMulW i j) fun i j => .int (i * j)) oMulI := op2_IC (fun i j h => by
  unfold mulOk at h
  simp only [Bool.or_eq_true, decide_eq_true_eq] at h
  rcases h with (h | h) | h
  · exact .inl (.inl h)
  · exact .inl (.inr h)
  · exact .inr h) fun _ _ _ _ => rfl
/-- a list as often -/
def oRep (c : Bool) (a b : D) (M : Mem) : R D := match ownOf M a, b with
  | some x, .int k => if -(2 ^ 63) ≤ k ∧ k < 2 ^ 63 ∧ x.length * k.toNat ≤ 16777216 then mkL c (List.replicate k.toNat x).flatten M else .no
  | _, _ => .no
theorem RpL.rep {W : Wd} {H : Hp} {ds : List D} {us : List V} (h : RpL G W H ds us) : ∀ n, RpL G W H (List.replicate n ds).flatten (List.replicate n us).flatten
  | 0 => (rfl : ([] : List V) = [])
  | n + 1 => by
    rw [List.replicate_succ, List.replicate_succ, List.flatten_cons, List.flatten_cons]
    exact h.append (RpL.rep h n)
theorem op2_rep {c : Bool} : Op2 G E rRep (oRep c) := fun W H M a b u v Q m ra rb p => by
  unfold oRep at p
  split at p
  · rename_i x k e1
    split at p
    · rename_i hc
      obtain ⟨a1, us, h1, h2, h3⟩ := ownOf_ok m ra e1
      exact ⟨a1, k, us, h1, rb, h2, hc.1, hc.2.1, by rw [h3.len, line_eq]; exact hc.2.2, mkL_new m p (h3.rep _)⟩
    · exact p.elim
  · exact p.elim
def oMul (c : Bool) : D → D → Mem → R D
  | .int i, .int j, M => oMulI (.int i) (.int j) M
  | a, b, M => oRep c a b M
theorem sn_mul (c : Bool) {a b : Expr} {fa fb : FE} {pos : Pos} (ha : PE X a (tE G E fa)) (hb : PE X b (tE G E fb)) : PE X (.BinOp a .Mult b pos) (tE G E (mOp (oMul c) fa fb)) :=
  sn_op (op_mulA.or op_rep) (op2_mulI.or op2_rep fun a b M => by cases a <;> cases b <;> first | exact .inl rfl | exact .inr rfl) ha hb
def divOk (_ j : Int) : Bool := decide (0 < j) && decide (j.natAbs.log2 < 9000)
def oDiv : D → D → Mem → R D := oIC divOk fun i j => .int (i / j)
theorem sn_div {a b : Expr} {fa fb : FE} {pos : Pos} (ha : PE X a (tE G E fa)) (hb : PE X b (tE G E fb)) : PE X (.BinOp a .FloorDiv b pos) (tE G E (mOp oDiv fa fb)) :=
  sn_op op_fdivW (op2_IC (fun i j h => by unfold divOk at h; simp only [Bool.and_eq_true, decide_eq_true_eq] at h; exact h) fun _ _ _ _ => rfl) ha hb
def oMod : D → D → Mem → R D := oIC (fun _ j => decide (0 < j)) fun i j => .int (i % j)
theorem sn_mod {a b : Expr} {fa fb : FE} {pos : Pos} (ha : PE X a (tE G E fa)) (hb : PE X b (tE G E fb)) : PE X (.BinOp a .Mod b pos) (tE G E (mOp oMod fa fb)) :=
  sn_op op_mod (op2_IC (fun i j h => of_decide_eq_true h) fun _ _ _ _ => rfl) ha hb
def powOk (i j : Int) : Bool := decide (0 ≤ j) && decide (j ≤ 1000000) && decide (i.natAbs < 2 ^ 64)
def oPow : D → D → Mem → R D := oIC powOk fun i j => .int (i ^ j.toNat)
theorem sn_pow {a b : Expr} {fa fb : FE} {pos : Pos} (ha : PE X a (tE G E fa)) (hb : PE X b (tE G E fb)) : PE X (.BinOp a .Pow b pos) (tE G E (mOp oPow fa fb)) :=
  sn_op op_pow (op2_IC (C' := CPow) (fun i j h => by
    unfold powOk at h
    simp only [Bool.and_eq_true, decide_eq_true_eq] at h
    exact ⟨h.1.1, h.1.2, h.2⟩) fun _ _ _ _ => rfl) ha hb
def mUn (o : D → Mem → R D) (fa : FE) : FE := fun env M => (fa env M).bind fun a m => o a m
def oNeg : D → Mem → R D
  | .int i, M => .ok (.int (-i)) M
  | _, _ => .no
theorem sn_neg {a : Expr} {fa : FE} {pos : Pos} (ha : PE X a (tE G E fa)) : PE X (.UnaryOp .USub a pos) (tE G E (mUn oNeg fa)) := pe_imp (pe_un un_neg ha) fun σ H Q ⟨W, env, M, s, p⟩ => by
  refine tE.bind s p fun d m W1 H1 u f1 s1 r1 p1 => ?_
  cases d <;> first
    | exact p1.elim
    | exact ⟨_, r1, p1.here s1.mem _ rfl⟩
end
end Fn

set_option Elab.async false
set_option linter.all false
set_option maxRecDepth 100000
set_option maxHeartbeats 1000000
/-! FnCmp: comparisons, truth, and, or, not, if; displays, subscripts, slices, arguments. -/
namespace Fn
open PySem PySem.Spec PyProof.Rows L2
section
variable {X : Cx} {G : Gx} {cl : Nat → Addr} {E : XK} {W : Wd} {H : Hp} {M : Mem}
/-! ### == -/
mutual
def pyD : D → Option PyData
  | .non => some .none
  | .bl b => some (.bool b)
  | .int i => some (.int i)
  | .str x => some (.str (l2s x))
  | .tup l => (pyL l).map .tuple
  | .lst l => (pyL l).map .list
  | .fz l => (pyL l).map .list
  | .ref _ => none
def pyL : List D → Option (List PyData)
  | [] => some []
  | d :: r => match pyD d, pyL r with
    | some a, some b => some (a :: b)
    | _, _ => none
end
mutual
/-- the data that a value tells, cells by k -/
def pyGo (k : Nat → Option PyData) : D → Option PyData
  | .non => some .none
  | .bl b => some (.bool b)
  | .int i => some (.int i)
  | .str x => some (.str (l2s x))
  | .tup l => (pyGoL k l).map .tuple
  | .lst l => (pyGoL k l).map .list
  | .fz l => (pyGoL k l).map .list
  | .ref i => k i
def pyGoL (k : Nat → Option PyData) : List D → Option (List PyData)
  | [] => some []
  | d :: r => match pyGo k d, pyGoL k r with
    | some a, some b => some (a :: b)
    | _, _ => none
end
/-- a cell that holds a list, to the depth n -/
def kN (M : Mem) : Nat → Nat → Option PyData
  | 0, _ => none
  | n + 1, i => match M[i]? with
    | some (.lst l) => (pyGoL (kN M n) l).map .list
    | _ => none
def pyM (M : Mem) (d : D) : Option PyData := pyGo (kN M 4) d
mutual
theorem pyGo_of {k : Nat → Option PyData} : ∀ {d : D} {p : PyData}, pyD d = some p → pyGo k d = some p
  | .non, p, e => e
  | .bl b, p, e => e
  | .int i, p, e => e
  | .str x, p, e => e
  | .tup l, p, e => by
    simp only [pyD] at e
    cases q : pyL l with
    | none => rw [q] at e; cases e
    | some ps => rw [q] at e; simp only [pyGo, pyGoL_of q]; exact e
  | .lst l, p, e => by
    simp only [pyD] at e
    cases q : pyL l with
    | none => rw [q] at e; cases e
    | some ps => rw [q] at e; simp only [pyGo, pyGoL_of q]; exact e
  | .fz l, p, e => by
    simp only [pyD] at e
    cases q : pyL l with
    | none => rw [q] at e; cases e
    | some ps => rw [q] at e; simp only [pyGo, pyGoL_of q]; exact e
  | .ref i, p, e => by cases e
theorem pyGoL_of {k : Nat → Option PyData} : ∀ {l : List D} {ps : List PyData}, pyL l = some ps → pyGoL k l = some ps
  | [], ps, e => e
  | d :: l, ps, e => by
    simp only [pyL] at e
    split at e
    · rename_i a b h1 h2
      simp only [pyGoL, pyGo_of h1, pyGoL_of h2]
      exact e
    · cases e
end
mutual
theorem pyD_ok : ∀ {d : D} {u : V} {p : PyData}, Rp G W H d u → pyD d = some p → Dp G.K H u p
  | .non, u, p, r, e => by cases r; cases e; exact .non
  | .bl b, u, p, r, e => by cases r; cases e; exact .bl b
  | .int i, u, p, r, e => by cases r; cases e; exact .int i
  | .str x, u, p, r, e => by cases r; cases e; exact .str _
  | .tup l, u, p, r, e => by
    obtain ⟨a, us, e1, s1, r1⟩ := r
    subst e1
    simp only [pyD] at e
    cases q : pyL l with
    | none => rw [q] at e; cases e
    | some ps => rw [q] at e; cases e; exact .tup s1.sq (pyL_ok r1 q)
  | .lst l, u, p, r, e => by
    obtain ⟨a, us, e1, s1, r1⟩ := r
    subst e1
    simp only [pyD] at e
    cases q : pyL l with
    | none => rw [q] at e; cases e
    | some ps => rw [q] at e; cases e; exact .lst (.inl (.inl s1.1)) (pyL_ok r1 q)
  | .fz l, u, p, r, e => by
    obtain ⟨a, us, e1, s1, r1⟩ := r
    subst e1
    simp only [pyD] at e
    cases q : pyL l with
    | none => rw [q] at e; cases e
    | some ps =>
      rw [q] at e; cases e
      refine .lst ?_ (pyL_ok r1 q)
      rcases s1 with ⟨o, s1⟩ | s1
      · exact .inl (.inr ⟨o, s1⟩)
      · exact .inr s1
  | .ref i, u, p, r, e => by cases e
theorem pyL_ok : ∀ {l : List D} {us : List V} {ps : List PyData}, RpL G W H l us → pyL l = some ps → DpAll G.K H us ps
  | [], us, ps, r, e => by have : us = [] := r; subst this; cases e; exact .nil
  | d :: l, us, ps, r, e => by
    obtain ⟨u, us', e1, r1, r2⟩ := r
    subst e1
    simp only [pyL] at e
    split at e
    · rename_i a b h1 h2
      cases e
      exact .cons (pyD_ok r1 h1) (pyL_ok r2 h2)
    · cases e
end
mutual
theorem pyGo_ok {k : Nat → Option PyData} (hk : ∀ i a p, W.as[i]? = some a → k i = some p → Dp G.K H (.ref a) p) : ∀ {d : D} {u : V} {p : PyData}, Rp G W H d u → pyGo k d = some p → Dp G.K H u p
  | .non, u, p, r, e => by cases r; cases e; exact .non
  | .bl b, u, p, r, e => by cases r; cases e; exact .bl b
  | .int i, u, p, r, e => by cases r; cases e; exact .int i
  | .str x, u, p, r, e => by cases r; cases e; exact .str _
  | .tup l, u, p, r, e => by
    obtain ⟨a, us, e1, s1, r1⟩ := r
    subst e1
    simp only [pyGo] at e
    cases q : pyGoL k l with
    | none => rw [q] at e; cases e
    | some ps => rw [q] at e; cases e; exact .tup s1.sq (pyGoL_ok hk r1 q)
  | .lst l, u, p, r, e => by
    obtain ⟨a, us, e1, s1, r1⟩ := r
    subst e1
    simp only [pyGo] at e
    cases q : pyGoL k l with
    | none => rw [q] at e; cases e
    | some ps => rw [q] at e; cases e; exact .lst (.inl (.inl s1.1)) (pyGoL_ok hk r1 q)
  | .fz l, u, p, r, e => by
    obtain ⟨a, us, e1, s1, r1⟩ := r
    subst e1
    simp only [pyGo] at e
    cases q : pyGoL k l with
    | none => rw [q] at e; cases e
    | some ps =>
      rw [q] at e; cases e
      refine .lst ?_ (pyGoL_ok hk r1 q)
      rcases s1 with ⟨o, s1⟩ | s1
      · exact .inl (.inr ⟨o, s1⟩)
      · exact .inr s1
  | .ref i, u, p, r, e => by
    obtain ⟨a, e1, rfl⟩ := r
    exact hk i a p e1 e
theorem pyGoL_ok {k : Nat → Option PyData} (hk : ∀ i a p, W.as[i]? = some a → k i = some p → Dp G.K H (.ref a) p) : ∀ {l : List D} {us : List V} {ps : List PyData}, RpL G W H l us → pyGoL k l = some ps → DpAll G.K H us ps
  | [], us, ps, r, e => by have : us = [] := r; subst this; cases e; exact .nil
  | d :: l, us, ps, r, e => by
    obtain ⟨u, us', e1, r1, r2⟩ := r
    subst e1
    simp only [pyGoL] at e
    split at e
    · rename_i a b h1 h2
      cases e
      exact .cons (pyGo_ok hk r1 h1) (pyGoL_ok hk r2 h2)
    · cases e
end
theorem kN_ok (m : MemOk G W H M) : ∀ (n i : Nat) (a : Addr) (p : PyData), W.as[i]? = some a → kN M n i = some p → Dp G.K H (.ref a) p
  | 0, i, a, p, e1, e => by cases e
  | n + 1, i, a, p, e1, e => by
    simp only [kN] at e
    split at e
    · rename_i l hc
      obtain ⟨us, h1, h2⟩ := m.cell i _ a hc e1
      cases q : pyGoL (kN M n) l with
      | none => rw [q] at e; cases e
      | some ps => rw [q] at e; cases e; exact .lst (.inl (.inl h1)) (pyGoL_ok (kN_ok m n) h2 q)
    · cases e
theorem pyM_ok (m : MemOk G W H M) {d : D} {u : V} {p : PyData} (r : Rp G W H d u) (e : pyM M d = some p) : Dp G.K H u p := pyGo_ok (kN_ok m 4) r e
mutual
theorem pyD_plain : ∀ {d : D} {p : PyData}, pyD d = some p → p.plain = true
  | .non, p, e => by cases e; rfl
  | .bl b, p, e => by cases e; rfl
  | .int b, p, e => by cases e; rfl
  | .str b, p, e => by cases e; rfl
  | .tup l, p, e => by
    simp only [pyD] at e
    cases q : pyL l with
    | none => rw [q] at e; cases e
    | some ps => rw [q] at e; cases e; simp only [PyData.plain]; exact pyL_plain q
  | .lst l, p, e => by
    simp only [pyD] at e
    cases q : pyL l with
    | none => rw [q] at e; cases e
    | some ps => rw [q] at e; cases e; simp only [PyData.plain]; exact pyL_plain q
  | .fz l, p, e => by
    simp only [pyD] at e
    cases q : pyL l with
    | none => rw [q] at e; cases e
    | some ps => rw [q] at e; cases e; simp only [PyData.plain]; exact pyL_plain q
  | .ref i, p, e => by cases e
theorem pyL_plain : ∀ {l : List D} {ps : List PyData}, pyL l = some ps → PyData.plainAll ps = true
  | [], ps, e => by cases e; rfl
  | d :: l, ps, e => by
    simp only [pyL] at e
    split at e
    · rename_i a b h1 h2
      cases e
      simp only [PyData.plainAll, Bool.and_eq_true]
      exact ⟨pyD_plain h1, pyL_plain h2⟩
    · cases e
end
mutual
theorem pyGo_plain {k : Nat → Option PyData} (hk : ∀ i p, k i = some p → p.plain = true) : ∀ {d : D} {p : PyData}, pyGo k d = some p → p.plain = true
  | .non, p, e => by cases e; rfl
  | .bl b, p, e => by cases e; rfl
  | .int b, p, e => by cases e; rfl
  | .str b, p, e => by cases e; rfl
  | .tup l, p, e => by
    simp only [pyGo] at e
    cases q : pyGoL k l with
    | none => rw [q] at e; cases e
    | some ps => rw [q] at e; cases e; simp only [PyData.plain]; exact pyGoL_plain hk q
  | .lst l, p, e => by
    simp only [pyGo] at e
    cases q : pyGoL k l with
    | none => rw [q] at e; cases e
    | some ps => rw [q] at e; cases e; simp only [PyData.plain]; exact pyGoL_plain hk q
  | .fz l, p, e => by
    simp only [pyGo] at e
    cases q : pyGoL k l with
    | none => rw [q] at e; cases e
    | some ps => rw [q] at e; cases e; simp only [PyData.plain]; exact pyGoL_plain hk q
  | .ref i, p, e => hk i p e
theorem pyGoL_plain {k : Nat → Option PyData} (hk : ∀ i p, k i = some p → p.plain = true) : ∀ {l : List D} {ps : List PyData}, pyGoL k l = some ps → PyData.plainAll ps = true
  | [], ps, e => by cases e; rfl
  | d :: l, ps, e => by
    simp only [pyGoL] at e
    split at e
    · rename_i a b h1 h2
      cases e
      simp only [PyData.plainAll, Bool.and_eq_true]
      exact ⟨pyGo_plain hk h1, pyGoL_plain hk h2⟩
    · cases e
end
theorem kN_plain : ∀ (n i : Nat) (p : PyData), kN M n i = some p → p.plain = true
  | 0, i, p, e => by cases e
  | n + 1, i, p, e => by
    simp only [kN] at e
    split at e
    · rename_i l hc
      cases q : pyGoL (kN M n) l with
      | none => rw [q] at e; cases e
      | some ps => rw [q] at e; cases e; simp only [PyData.plain]; exact pyGoL_plain (kN_plain n) q
    · cases e
theorem pyM_plain {d : D} {p : PyData} (e : pyM M d = some p) : p.plain = true := pyGo_plain (kN_plain 4) e
def rEqP (K : PySem.W.Frag) : R2 := fun x y H Q => ∃ d e, Dp K H x d ∧ Dp K H y e ∧ d.plain = true ∧ e.plain = true ∧ min d.depth e.depth ≤ 60 ∧ Q (.bl (PyData.eqv d e)) H
def rNeP (K : PySem.W.Frag) : R2 := fun x y H Q => ∃ d e, Dp K H x d ∧ Dp K H y e ∧ d.plain = true ∧ e.plain = true ∧ min d.depth e.depth ≤ 60 ∧ Q (.bl (!PyData.eqv d e)) H
theorem op_eqP (hu : X.A.units + 64 < cLine) : OpR X (compareOp .Eq) (rEqP X.K) := by
  intro pins s σ H x y v u Q I rx ry h
  obtain ⟨d, e, hd, he, sd, se, hm, q⟩ := h
  obtain ⟨as, r1⟩ := Dp.reads I d x v hd rx
  obtain ⟨bs, r2⟩ := Dp.reads I e y u he ry
  exact PySem.SeqAt.eq_plain r1 r2 sd se (by omega) ⟨.bl _, H, I, rfl, q⟩
theorem op_neP (hu : X.A.units + 64 < cLine) : OpR X (compareOp .NotEq) (rNeP X.K) := by
  intro pins s σ H x y v u Q I rx ry h
  obtain ⟨d, e, hd, he, sd, se, hm, q⟩ := h
  obtain ⟨as, r1⟩ := Dp.reads I d x v hd rx
  obtain ⟨bs, r2⟩ := Dp.reads I e y u he ry
  exact PySem.SeqAt.ne_plain r1 r2 sd se (by omega) ⟨.bl _, H, I, rfl, q⟩
def oEq (ne : Bool) (a b : D) (M : Mem) : R D := match pyM M a, pyM M b with
  | some x, some y => if min x.depth y.depth ≤ 60 then .ok (.bl (if ne = true then !PyData.eqv x y else PyData.eqv x y)) M else .no
  | _, _ => .no
theorem op2_eq : Op2 G E (rEqP G.K) (oEq false) := fun W H M a b u v Q m ra rb p => by
  simp only [oEq] at p
  split at p
  · rename_i x y e1 e2
    split at p
    · rename_i hc
      exact ⟨x, y, pyM_ok m ra e1, pyM_ok m rb e2, pyM_plain e1, pyM_plain e2, hc, p.here m _ rfl⟩
    · exact p.elim
  · exact p.elim
theorem op2_ne : Op2 G E (rNeP G.K) (oEq true) := fun W H M a b u v Q m ra rb p => by
  simp only [oEq] at p
  split at p
  · rename_i x y e1 e2
    split at p
    · rename_i hc
      exact ⟨x, y, pyM_ok m ra e1, pyM_ok m rb e2, pyM_plain e1, pyM_plain e2, hc, p.here m _ rfl⟩
    · exact p.elim
  · exact p.elim
/-! ### in a list or tuple of data -/
def rInP (K : PySem.W.Frag) (neg : Bool) : R2 := fun x y H Q => ∃ d ds, Dp K H x d ∧ (Dp K H y (.list ds) ∨ Dp K H y (.tuple ds)) ∧ d.plain = true ∧ PyData.plainAll ds = true ∧ min (PyData.depthAll ds) d.depth ≤ 60 ∧ Q (.bl (if neg = true then !ds.any fun z => PyData.eqv z d else ds.any fun z => PyData.eqv z d)) H
theorem op_inP (hu : X.A.units + 64 < cLine) : OpR X (compareOp .In) (rInP X.K false) := by
  intro pins s σ H x y v u Q I rx ry h
  obtain ⟨d, ds, hd, he, sd, se, hm, q⟩ := h
  obtain ⟨as, r1⟩ := Dp.reads I d x v hd rx
  rcases he with he | he
  · obtain ⟨bs, r2⟩ := Dp.reads I _ y u he ry
    exact PySem.SeqAt.in_list_data r2 r1 se sd (by omega) ⟨.bl _, H, I, rfl, q⟩
  · obtain ⟨bs, r2⟩ := Dp.reads I _ y u he ry
    exact PySem.SeqAt.in_tuple_data r2 r1 se sd (by omega) ⟨.bl _, H, I, rfl, q⟩
theorem op_notInP (hu : X.A.units + 64 < cLine) : OpR X (compareOp .NotIn) (rInP X.K true) := by
  intro pins s σ H x y v u Q I rx ry h
  obtain ⟨d, ds, hd, he, sd, se, hm, q⟩ := h
  obtain ⟨as, r1⟩ := Dp.reads I d x v hd rx
  rcases he with he | he
  · obtain ⟨bs, r2⟩ := Dp.reads I _ y u he ry
    exact PySem.SeqAt.notIn_list_data r2 r1 se sd (by omega) ⟨.bl _, H, I, rfl, q⟩
  · obtain ⟨bs, r2⟩ := Dp.reads I _ y u he ry
    exact PySem.SeqAt.notIn_tuple_data r2 r1 se sd (by omega) ⟨.bl _, H, I, rfl, q⟩
def oInD (neg : Bool) (a b : D) (M : Mem) : R D := match pyM M a, pyM M b with
  | some x, some (.list ds) => if min (PyData.depthAll ds) x.depth ≤ 60 then .ok (.bl (if neg = true then !ds.any fun z => PyData.eqv z x else ds.any fun z => PyData.eqv z x)) M else .no
  | some x, some (.tuple ds) => if min (PyData.depthAll ds) x.depth ≤ 60 then .ok (.bl (if neg = true then !ds.any fun z => PyData.eqv z x else ds.any fun z => PyData.eqv z x)) M else .no
  | _, _ => .no
theorem op2_inD {neg : Bool} : Op2 G E (rInP G.K neg) (oInD neg) := fun W H M a b u v Q m ra rb p => by
  simp only [oInD] at p
  split at p
  · rename_i x ds e1 e2
    split at p
    · rename_i hc
      exact ⟨x, ds, pyM_ok m ra e1, .inl (pyM_ok m rb e2), pyM_plain e1, pyM_plain e2, hc, p.here m _ rfl⟩
    · exact p.elim
  · rename_i x ds e1 e2
    split at p
    · rename_i hc
      exact ⟨x, ds, pyM_ok m ra e1, .inr (pyM_ok m rb e2), pyM_plain e1, pyM_plain e2, hc, p.here m _ rfl⟩
    · exact p.elim
  · exact p.elim
section
variable {a b c : Expr} {fa fb fc : FE} {pos : Pos}
theorem sn_eq (hu : X.A.units + 64 < cLine) (ha : PE X a (tE ⟨X.K, cl⟩ E fa)) (hb : PE X b (tE ⟨X.K, cl⟩ E fb)) : PE X (.Compare a [.Eq] [b] pos) (tE ⟨X.K, cl⟩ E (mOp (oEq false) fa fb)) := sn_cmp (op_eqP hu) op2_eq (nomark _) ha hb
theorem sn_ne (hu : X.A.units + 64 < cLine) (ha : PE X a (tE ⟨X.K, cl⟩ E fa)) (hb : PE X b (tE ⟨X.K, cl⟩ E fb)) : PE X (.Compare a [.NotEq] [b] pos) (tE ⟨X.K, cl⟩ E (mOp (oEq true) fa fb)) := sn_cmp (op_neP hu) op2_ne (nomark _) ha hb
theorem sn_inD (hu : X.A.units + 64 < cLine) (ha : PE X a (tE ⟨X.K, cl⟩ E fa)) (hb : PE X b (tE ⟨X.K, cl⟩ E fb)) (hm : behindInMarks .In b = false := by rfl) : PE X (.Compare a [.In] [b] pos) (tE ⟨X.K, cl⟩ E (mOp (oInD false) fa fb)) := sn_cmp (op_inP hu) op2_inD hm ha hb
theorem sn_notInD (hu : X.A.units + 64 < cLine) (ha : PE X a (tE ⟨X.K, cl⟩ E fa)) (hb : PE X b (tE ⟨X.K, cl⟩ E fb)) (hm : behindInMarks .NotIn b = false := by rfl) : PE X (.Compare a [.NotIn] [b] pos) (tE ⟨X.K, cl⟩ E (mOp (oInD true) fa fb)) := sn_cmp (op_notInP hu) op2_inD hm ha hb
/-! ### order: ints, texts -/
def oOrd (p : Int → Int → Bool) (q : List Nat → List Nat → Bool) : D → D → Mem → R D
  | .int i, .int j, M => .ok (.bl (p i j)) M
  | .str x, .str y, M => .ok (.bl (q x y)) M
  | _, _, _ => .no
def oLt := oOrd (fun i j => decide (i < j)) (fun x y => decide (x < y))
def oLe := oOrd (fun i j => decide (i ≤ j)) (fun x y => !decide (y < x))
def oGt := oOrd (fun i j => decide (j < i)) (fun x y => decide (y < x))
def oGe := oOrd (fun i j => decide (j ≤ i)) (fun x y => !decide (x < y))
theorem op2_ord {p : Int → Int → Bool} {q : List Nat → List Nat → Bool} : Op2 G E (fun x y H Q => rI0 (fun i j => .bl (p i j)) x y H Q ∨ ∃ i j : Str, x = .str i ∧ y = .str j ∧ Q (.bl (q i.cps.toList j.cps.toList)) H) (oOrd p q) := fun W H M a b u v Q m ra rb h => by
  cases a <;> cases b <;> first
    | exact h.elim
    | exact .inl ⟨_, _, ra, rb, h.here m _ rfl⟩
    | exact .inr ⟨_, _, ra, rb, h.here m _ (by rw [l2s_toList, l2s_toList]; rfl)⟩
theorem sn_lt (ha : PE X a (tE G E fa)) (hb : PE X b (tE G E fb)) : PE X (.Compare a [.Lt] [b] pos) (tE G E (mOp oLt fa fb)) := sn_cmp (op_lt.or op_lt_str) op2_ord (nomark _) ha hb
theorem sn_le (ha : PE X a (tE G E fa)) (hb : PE X b (tE G E fb)) : PE X (.Compare a [.LtE] [b] pos) (tE G E (mOp oLe fa fb)) := sn_cmp (op_le.or op_le_str) op2_ord (nomark _) ha hb
theorem sn_gt (ha : PE X a (tE G E fa)) (hb : PE X b (tE G E fb)) : PE X (.Compare a [.Gt] [b] pos) (tE G E (mOp oGt fa fb)) := sn_cmp (op_gt.or op_gt_str) op2_ord (nomark _) ha hb
theorem sn_ge (ha : PE X a (tE G E fa)) (hb : PE X b (tE G E fb)) : PE X (.Compare a [.GtE] [b] pos) (tE G E (mOp oGe fa fb)) := sn_cmp (op_ge.or op_ge_str) op2_ord (nomark _) ha hb
/-! ### is None -/
def oIsN (neg : Bool) : D → Mem → R D
  | .non, M => .ok (.bl (!neg)) M
  | _, M => .ok (.bl neg) M
theorem sn_isN {i pos2} (ha : PE X a (tE G E fa)) : PE X (.Compare a [.Is] [.Constant .none i pos2] pos) (tE G E (mUn (oIsN false) fa)) := pe_imp (pe_cmpR op_isN ha pe_non (nomark _)) fun σ H Q ⟨W, env, M, s, p⟩ => by
  refine tE.bind s p fun d m W1 H1 u f1 s1 r1 p1 => ?_
  refine ⟨rfl, ?_⟩
  cases d with
  | non => cases r1; exact p1.here s1.mem _ rfl
  | bl b => cases r1; exact p1.here s1.mem _ rfl
  | int b => cases r1; exact p1.here s1.mem _ rfl
  | str b => cases r1; exact p1.here s1.mem _ rfl
  | tup l => obtain ⟨a, us, e1, _⟩ := r1; subst e1; exact p1.here s1.mem _ rfl
  | lst l => obtain ⟨a, us, e1, _⟩ := r1; subst e1; exact p1.here s1.mem _ rfl
  | fz l => obtain ⟨a, us, e1, _⟩ := r1; subst e1; exact p1.here s1.mem _ rfl
  | ref l => obtain ⟨a, us, e1⟩ := r1; subst e1; exact p1.here s1.mem _ rfl
theorem sn_notN {i pos2} (ha : PE X a (tE G E fa)) : PE X (.Compare a [.IsNot] [.Constant .none i pos2] pos) (tE G E (mUn (oIsN true) fa)) := pe_imp (pe_cmpR op_notN ha pe_non (nomark _)) fun σ H Q ⟨W, env, M, s, p⟩ => by
  refine tE.bind s p fun d m W1 H1 u f1 s1 r1 p1 => ?_
  refine ⟨rfl, ?_⟩
  cases d with
  | non => cases r1; exact p1.here s1.mem _ rfl
  | bl b => cases r1; exact p1.here s1.mem _ rfl
  | int b => cases r1; exact p1.here s1.mem _ rfl
  | str b => cases r1; exact p1.here s1.mem _ rfl
  | tup l => obtain ⟨a, us, e1, _⟩ := r1; subst e1; exact p1.here s1.mem _ rfl
  | lst l => obtain ⟨a, us, e1, _⟩ := r1; subst e1; exact p1.here s1.mem _ rfl
  | fz l => obtain ⟨a, us, e1, _⟩ := r1; subst e1; exact p1.here s1.mem _ rfl
  | ref l => obtain ⟨a, us, e1⟩ := r1; subst e1; exact p1.here s1.mem _ rfl
/-! ### in: a text, a list or tuple of flat things -/
def flatD : D → Bool
  | .non | .bl _ | .int _ | .str _ => true
  | _ => false
def eqF : D → D → Bool
  | .non, .non => true
  | .bl a, .bl b => a == b
  | .bl a, .int b => (if a = true then 1 else 0) == b
  | .int a, .bl b => a == (if b = true then 1 else 0)
  | .int a, .int b => a == b
  | .str a, .str b => a == b
  | _, _ => false
theorem l2s_beq (a b : List Nat) : (l2s a == l2s b) = (a == b) := by
  by_cases h : a = b
  · subst h; simp
  · have h2 : ¬ l2s a = l2s b := fun z => h (l2s_inj z)
    rw [beq_eq_false_iff_ne.mpr h, beq_eq_false_iff_ne.mpr h2]
theorem flat_ok {d : D} {u : V} (r : Rp G W H d u) (h : flatD d = true) : flatV u = true := by
  cases d <;> first
    | (cases r; rfl)
    | cases h
theorem eqF_ok {x y : D} {u v : V} (rx : Rp G W H x u) (ry : Rp G W H y v) (hx : flatD x = true) (hy : flatD y = true) : eqV u v = eqF x y := by
  cases x <;> first
    | (cases hx; done)
    | (cases rx
       cases y <;> first
        | (cases hy; done)
        | (cases ry; first | rfl | exact l2s_beq _ _ | (rename_i p q; cases p <;> rfl) | (rename_i p q; cases q <;> rfl)))
theorem inV_ok {x : D} {u : V} (rx : Rp G W H x u) (hx : flatD x = true) : ∀ {l : List D} {us : List V}, RpL G W H l us → l.all flatD = true → us.all flatV = true ∧ inV u us = l.any fun y => eqF y x
  | [], us, r, h => by have : us = [] := r; subst this; exact ⟨rfl, rfl⟩
  | d :: l, us, r, h => by
    obtain ⟨v, us', e1, r1, r2⟩ := r
    subst e1
    rw [List.all_cons, Bool.and_eq_true] at h
    obtain ⟨k1, k2⟩ := inV_ok rx hx r2 h.2
    refine ⟨by rw [List.all_cons, flat_ok r1 h.1, k1]; rfl, ?_⟩
    have k3 : inV u us' = us'.any fun y => eqV y u := rfl
    show (v :: us').any (fun y => eqV y u) = _
    rw [List.any_cons, List.any_cons, ← k2, k3, eqF_ok r1 rx h.1 hx]
def oInF (neg : Bool) (a b : D) (M : Mem) : R D := match seqOf M b with
  | some l => if flatD a = true ∧ l.all flatD = true then .ok (.bl (if neg = true then !l.any fun y => eqF y a else l.any fun y => eqF y a)) M else .no
  | none => .no
theorem op2_inF {neg : Bool} : Op2 G E (rIn G.K neg) (oInF neg) := fun W H M a b u v Q m ra rb p => by
  simp only [oInF] at p
  split at p
  · rename_i l e1
    split at p
    · rename_i hc
      obtain ⟨p1, us, h1, h2, h3⟩ := seqOf_ok m rb e1
      obtain ⟨k1, k2⟩ := inV_ok ra hc.1 h3 hc.2
      refine ⟨p1, us, h1, h2, flat_ok ra hc.1, k1, ?_⟩
      rw [k2]
      exact p.here m _ rfl
    · exact p.elim
  · exact p.elim
theorem sn_inF (ha : PE X a (tE ⟨X.K, cl⟩ E fa)) (hb : PE X b (tE ⟨X.K, cl⟩ E fb)) (hm : behindInMarks .In b = false := by rfl) : PE X (.Compare a [.In] [b] pos) (tE ⟨X.K, cl⟩ E (mOp (oInF false) fa fb)) := sn_cmp op_in_seq op2_inF hm ha hb
theorem sn_notInF (ha : PE X a (tE ⟨X.K, cl⟩ E fa)) (hb : PE X b (tE ⟨X.K, cl⟩ E fb)) (hm : behindInMarks .NotIn b = false := by rfl) : PE X (.Compare a [.NotIn] [b] pos) (tE ⟨X.K, cl⟩ E (mOp (oInF true) fa fb)) := sn_cmp op_notIn_seq op2_inF hm ha hb
/-- one sign in a text -/
def oInS (neg : Bool) : D → D → Mem → R D
  | .str [c], .str y, M => .ok (.bl (if neg = true then !decide (c ∈ y) else decide (c ∈ y))) M
  | _, _, _ => .no
/-! ### chains -/
def mChain (o o' : D → D → Mem → R D) (fa fb fc : FE) : FE := fun env M => (fa env M).bind fun x m => (fb env m).bind fun y m => (o x y m).bind fun z m => match z with
  | .bl true => (fc env m).bind fun w m => o' y w m
  | .bl false => .ok (.bl false) m
  | _ => .no
theorem chain_reads {r r' : R2} {o o' : D → D → Mem → R D} (hs : Op2 G E r o) (hs' : Op2 G E r' o') (σ : L2.St) (H : Hp) (Q : VK) (h : tE G E (mChain o o' fa fb fc) σ H Q) : tChain r r' (tE G E fa) (tE G E fb) (tE G E fc) σ H Q := by
  obtain ⟨W, env, M, s, p⟩ := h
  refine tE.bind s p fun d m W1 H1 u f1 s1 r1 p1 => ?_
  refine tE.bind s1 p1 fun d2 m2 W2 H2 u2 f2 s2 r2 p2 => ?_
  refine hs W2 H2 m2 d d2 u u2 _ s2.mem (s1.mem.rp f2 r1) r2 (PR.bind p2 fun z m3 W3 H3 f3 mk3 p3 => fun w rw_ => ?_)
  have s3 := s2.fut f3 mk3
  cases z with
  | bl k =>
    cases rw_
    cases k with
    | true =>
      refine ⟨true, rfl, ?_⟩
      rw [if_pos rfl]
      refine tE.bind s3 p3 fun d4 m4 W4 H4 u4 f4 s4 r4 p4 => ?_
      exact hs' W4 H4 m4 d2 d4 u2 u4 Q s4.mem (s3.mem.rp f4 (s2.mem.rp f3 r2)) r4 p4
    | false =>
      refine ⟨false, rfl, ?_⟩
      rw [if_neg Bool.false_ne_true]
      exact p3.here mk3 _ rfl
  | _ => exact p3.elim
theorem sn_chain {op op' : CmpOp} {r r' : R2} {o o' : D → D → Mem → R D} (ho : OpR X (compareOp op) r) (hs : Op2 G E r o) (ho' : OpR X (compareOp op') r') (hs' : Op2 G E r' o') (ha : PE X a (tE G E fa)) (hb : PE X b (tE G E fb)) (hc : PE X c (tE G E fc))
    (hm : lastMarks [op, op'] [b, c] = false := by rfl) : PE X (.Compare a [op, op'] [b, c] pos) (tE G E (mChain o o' fa fb fc)) := pe_imp (pe_chain ho ho' ha hb hc hm) (chain_reads hs hs')
end
/-! ### tests -/
/-- the truth of a value -/
def truD (M : Mem) : D → Option Bool
  | .non => some false
  | .bl b => some b
  | .int i => some (i != 0)
  | .str x => if x.length ≤ 16777216 then some (!x.isEmpty) else none
  | .tup l => some (!l.isEmpty)
  | .lst l => some (!l.isEmpty)
  | .fz l => some (!l.isEmpty)
  | .ref i => match M[i]? with
    | some (.lst l) => some (!l.isEmpty)
    | some (.dk false kvs) => some (!kvs.isEmpty)
    | _ => none
/-- a test that must be a truth -/
def bOf (f : FE) : FT := fun env M => (f env M).bind fun d m => match d with
  | .bl b => .ok b m
  | _ => .no
section
variable {a b c : Expr} {fa fb fc : FE} {ga gb gc : FT} {pos : Pos}
theorem st_val (ha : PE X a (tE G E fa)) (he : ∀ whole, isTrue a X.env whole = (do let v ← whole; standAt a.pos; holding [v] (truthy v)) := by intro _; rfl) : PT X a (tT G E (bOf fa)) := pt_imp (pt_val ha he) fun σ H Q ⟨W, env, M, s, p⟩ => by
  refine tE.bind s p fun d m W1 H1 u f1 s1 r1 p1 => ?_
  cases d with
  | bl k => exact ⟨k, r1, p1.here s1.mem⟩
  | _ => exact p1.elim
/-- any value as a test -/
def tOf (f : FE) : FT := fun env M => (f env M).bind fun d m => match truD m d with
  | some b => .ok b m
  | none => .no
theorem truD_ok (m : MemOk G W H M) {d : D} {u : V} {k : Bool} (r : Rp G W H d u) (e : truD M d = some k) : TruV G.K u H k := by
  cases d with
  | non => cases r; cases e; rfl
  | bl b => cases r; cases e; rfl
  | int b => cases r; cases e; rfl
  | str x =>
    cases r
    simp only [truD] at e
    split at e
    · rename_i hz
      cases e
      refine ⟨by rw [l2s_len, line_eq]; exact hz, ?_⟩
      rw [l2s_len]
      cases x with
      | nil => rfl
      | cons c x => simp; omega
    · cases e
  | tup l =>
    obtain ⟨a, us, e1, s1, r1⟩ := r
    subst e1; cases e
    refine .inr (.inl ⟨us, s1.sq, ?_⟩)
    cases l with
    | nil => have : us = [] := r1; subst this; rfl
    | cons d l => obtain ⟨_, _, e2, _⟩ := r1; subst e2; rfl
  | lst l =>
    obtain ⟨a, us, e1, s1, r1⟩ := r
    subst e1; cases e
    refine .inl ⟨us, .inl (.inl s1.1), ?_⟩
    cases l with
    | nil => have : us = [] := r1; subst this; rfl
    | cons d l => obtain ⟨_, _, e2, _⟩ := r1; subst e2; rfl
  | fz l =>
    obtain ⟨a, us, e1, s1, r1⟩ := lstOf_ok m (d := .fz l) r rfl
    subst e1; cases e
    refine .inl ⟨us, s1, ?_⟩
    cases l with
    | nil => have : us = [] := r1; subst this; rfl
    | cons d l => obtain ⟨_, _, e2, _⟩ := r1; subst e2; rfl
  | ref i =>
    obtain ⟨a, e1, e2⟩ := r
    subst e2
    simp only [truD] at e
    split at e
    · rename_i l hc
      cases e
      obtain ⟨us, h1, r1⟩ := m.cell i _ a hc e1
      refine .inl ⟨us, .inl (.inl h1), ?_⟩
      cases l with
      | nil => have : us = [] := r1; subst this; rfl
      | cons d l => obtain ⟨_, _, e2, _⟩ := r1; subst e2; rfl
    · rename_i kvs hc
      cases e
      obtain ⟨vs, h1, r1⟩ := m.cell i _ a hc e1
      refine .inr (.inr ⟨vs, h1, ?_⟩)
      cases r1 <;> rfl
    · cases e
theorem st_truth (ha : PE X a (tE ⟨X.K, cl⟩ E fa)) (he : ∀ whole, isTrue a X.env whole = (do let v ← whole; standAt a.pos; holding [v] (truthy v)) := by intro _; rfl) : PT X a (tT ⟨X.K, cl⟩ E (tOf fa)) := pt_imp (pt_truth ha he) fun σ H Q ⟨W, env, M, s, p⟩ => by
  refine tE.bind s p fun d m W1 H1 u f1 s1 r1 p1 => ?_
  split at p1
  · rename_i k e
    exact ⟨k, truD_ok s1.mem r1 e, p1.here s1.mem⟩
  · exact p1.elim
def tAndM (f g : FT) : FT := fun env M => (f env M).bind fun b m => if b = true then g env m else .ok false m
def tOrM (f g : FT) : FT := fun env M => (f env M).bind fun b m => if b = true then .ok true m else g env m
def tNotM (f : FT) : FT := fun env M => (f env M).bind fun b m => .ok (!b) m
theorem tT_and {f g : FT} {σ : L2.St} {H : Hp} {Q : Bool → Hp → Prop} (h : tT G E (tAndM f g) σ H Q) : tAnd (tT G E f) (tT G E g) σ H Q := by
  obtain ⟨W, env, M, s, p⟩ := h
  refine tT.bind s p fun b m W1 H1 f1 s1 p1 => ?_
  cases b with
  | true => rw [if_pos rfl] at p1 ⊢; exact ⟨W1, env, m, s1, p1⟩
  | false => rw [if_neg Bool.false_ne_true] at p1 ⊢; exact p1.here s1.mem
theorem tT_or {f g : FT} {σ : L2.St} {H : Hp} {Q : Bool → Hp → Prop} (h : tT G E (tOrM f g) σ H Q) : tOr (tT G E f) (tT G E g) σ H Q := by
  obtain ⟨W, env, M, s, p⟩ := h
  refine tT.bind s p fun b m W1 H1 f1 s1 p1 => ?_
  cases b with
  | true => rw [if_pos rfl] at p1 ⊢; exact p1.here s1.mem
  | false => rw [if_neg Bool.false_ne_true] at p1 ⊢; exact ⟨W1, env, m, s1, p1⟩
theorem sw_and1 (ha : PT X a (tT G E ga)) : PW X (.BoolOp .And [a] pos) (tT G E ga) := pw_and1 ha
theorem sw_or1 (ha : PT X a (tT G E ga)) : PW X (.BoolOp .Or [a] pos) (tT G E ga) := pw_or1 ha
theorem sw_and {rest : List Expr} (ha : PT X a (tT G E ga)) (hb : PW X (.BoolOp .And (b :: rest) pos) (tT G E gb)) : PW X (.BoolOp .And (a :: b :: rest) pos) (tT G E (tAndM ga gb)) := pw_imp (pw_and ha hb) fun _ _ _ h => tT_and h
theorem sw_or {rest : List Expr} (ha : PT X a (tT G E ga)) (hb : PW X (.BoolOp .Or (b :: rest) pos) (tT G E gb)) : PW X (.BoolOp .Or (a :: b :: rest) pos) (tT G E (tOrM ga gb)) := pw_imp (pw_or ha hb) fun _ _ _ h => tT_or h
theorem st_not (ha : PT X a (tT G E ga)) : PT X (.UnaryOp .Not a pos) (tT G E (tNotM ga)) := pt_imp (pt_not ha) fun σ H Q ⟨W, env, M, s, p⟩ => by
  refine tT.bind s p fun b m W1 H1 f1 s1 p1 => ?_
  exact p1.here s1.mem
theorem st_chain {op op' : CmpOp} {r r' : R2} {o o' : D → D → Mem → R D} (ho : OpR X (compareOp op) r) (hs : Op2 G E r o) (ho' : OpR X (compareOp op') r') (hs' : Op2 G E r' o') (ha : PE X a (tE G E fa)) (hb : PE X b (tE G E fb)) (hc : PE X c (tE G E fc))
    (hm : lastMarks [op, op'] [b, c] = false := by rfl) : PT X (.Compare a [op, op'] [b, c] pos) (tT G E (bOf (mChain o o' fa fb fc))) := pt_imp (pt_chain ho ho' ha hb hc hm) fun σ H Q ⟨W, env, M, s, p⟩ => by
  have h : tE G E (mChain o o' fa fb fc) σ H (fun x H' => ∃ k, x = .bl k ∧ Q k H') := tE.bind s p fun d m W1 H1 u f1 s1 r1 p1 => by
    cases d with
    | bl k => exact ⟨k, r1, p1.here s1.mem⟩
    | _ => exact p1.elim
  exact chain_reads hs hs' σ H _ h
/-! ### and, or, not as values (truths) -/
def mAnd (f g : FE) : FE := fun env M => (f env M).bind fun d m => match d with
  | .bl true => g env m
  | .bl false => .ok (.bl false) m
  | _ => .no
def mOr (f g : FE) : FE := fun env M => (f env M).bind fun d m => match d with
  | .bl true => .ok (.bl true) m
  | .bl false => g env m
  | _ => .no
def mNot (f : FE) : FE := fun env M => (f env M).bind fun d m => match d with
  | .bl b => .ok (.bl (!b)) m
  | _ => .no
theorem sn_one {op} (ha : PE X a (tE G E fa)) : PE X (.BoolOp op [a] pos) (tE G E fa) := pe_one ha
theorem sn_and {rest : List Expr} (ha : PE X a (tE G E fa)) (hb : PE X (.BoolOp .And (b :: rest) pos) (tE G E fb)) : PE X (.BoolOp .And (a :: b :: rest) pos) (tE G E (mAnd fa fb)) := pe_imp (pe_and ha hb) fun σ H Q ⟨W, env, M, s, p⟩ => by
  refine tE.bind s p fun d m W1 H1 u f1 s1 r1 p1 => ?_
  cases d with
  | bl k =>
    cases r1
    cases k with
    | true => exact ⟨true, rfl, by rw [if_pos rfl]; exact ⟨W1, env, m, s1, p1⟩⟩
    | false => exact ⟨false, rfl, by rw [if_neg Bool.false_ne_true]; exact p1.here s1.mem _ rfl⟩
  | _ => exact p1.elim
theorem sn_or {rest : List Expr} (ha : PE X a (tE G E fa)) (hb : PE X (.BoolOp .Or (b :: rest) pos) (tE G E fb)) : PE X (.BoolOp .Or (a :: b :: rest) pos) (tE G E (mOr fa fb)) := pe_imp (pe_or ha hb) fun σ H Q ⟨W, env, M, s, p⟩ => by
  refine tE.bind s p fun d m W1 H1 u f1 s1 r1 p1 => ?_
  cases d with
  | bl k =>
    cases r1
    cases k with
    | true => exact ⟨true, rfl, by rw [if_pos rfl]; exact p1.here s1.mem _ rfl⟩
    | false => exact ⟨false, rfl, by rw [if_neg Bool.false_ne_true]; exact ⟨W1, env, m, s1, p1⟩⟩
  | _ => exact p1.elim
theorem sn_not (ha : PE X a (tE G E fa)) : PE X (.UnaryOp .Not a pos) (tE G E (mNot fa)) := pe_imp (pe_not ha) fun σ H Q ⟨W, env, M, s, p⟩ => by
  refine tE.bind s p fun d m W1 H1 u f1 s1 r1 p1 => ?_
  cases d with
  | bl k => exact ⟨k, r1, p1.here s1.mem _ rfl⟩
  | _ => exact p1.elim
def mIf (t : FT) (f g : FE) : FE := fun env M => (t env M).bind fun b m => if b = true then f env m else g env m
theorem sn_if (hc : PT X c (tT G E gc)) (ha : PE X a (tE G E fa)) (hb : PE X b (tE G E fb)) : PE X (.IfExp c a b pos) (tE G E (mIf gc fa fb)) := pe_imp (pe_ifExp hc ha hb) fun σ H Q ⟨W, env, M, s, p⟩ => by
  refine tT.bind s p fun k m W1 H1 f1 s1 p1 => ?_
  cases k with
  | true => rw [if_pos rfl] at p1 ⊢; exact ⟨W1, env, m, s1, p1⟩
  | false => rw [if_neg Bool.false_ne_true] at p1 ⊢; exact ⟨W1, env, m, s1, p1⟩
/-! ### arguments, displays -/
def aNil : FA := fun _ M => .ok [] M
def aCons (f : FE) (g : FA) : FA := fun env M => (f env M).bind fun d m => (g env m).bind fun ds m' => .ok (d :: ds) m'
theorem sa_nil : PA X [] (tA G E aNil) := pa_imp pa_nil fun σ H Q ⟨W, env, M, s, p⟩ => p.here s.mem _ rfl
theorem sa_cons {es : List Expr} {g : FA} (ha : PE X a (tE G E fa)) (hr : PA X es (tA G E g)) (hs : starEach (a :: es) X.env = (false, eval a X.env) :: starEach es X.env := by rfl) : PA X (a :: es) (tA G E (aCons fa g)) := pa_imp (pa_cons ha hr hs) fun σ H Q ⟨W, env, M, s, p⟩ => by
  refine tE.bind s p fun d m W1 H1 u f1 s1 r1 p1 => ?_
  refine tA.bind s1 p1 fun ds m2 W2 H2 us f2 s2 r2 p2 => ?_
  exact p2.here s2.mem _ ⟨u, us, rfl, s1.mem.rp f2 r1, r2⟩
def mTup (g : FA) : FE := fun env M => (g env M).bind fun ds m => if ds.length ≤ 16777216 then .ok (.tup ds) m else .no
def mLst (c : Bool) (g : FA) : FE := fun env M => (g env M).bind fun ds m => if ds.length ≤ 16777216 then mkL c ds m else .no
theorem sn_tup {es : List Expr} {g : FA} {x1} (h : PA X es (tA G E g)) : PE X (.Tuple es x1 pos) (tE G E (mTup g)) := pe_imp (pe_tup h) fun σ H Q ⟨W, env, M, s, p⟩ => by
  refine tA.bind s p fun ds m2 W2 H2 us f2 s2 r2 p2 => ?_
  split at p2
  · rename_i hz
    exact ⟨by rw [r2.len, line_eq]; exact hz, tup_new s2.mem p2 r2⟩
  · exact p2.elim
theorem sn_lst (c : Bool) {es : List Expr} {g : FA} (h : PA X es (tA G E g)) : PE X (.List es pos) (tE G E (mLst c g)) := pe_imp (pe_lst h) fun σ H Q ⟨W, env, M, s, p⟩ => by
  refine tA.bind s p fun ds m2 W2 H2 us f2 s2 r2 p2 => ?_
  split at p2
  · rename_i hz
    exact ⟨by rw [r2.len, line_eq]; exact hz, mkL_new s2.mem p2 r2⟩
  · exact p2.elim
end
end
end Fn

set_option Elab.async false
set_option linter.all false
set_option maxRecDepth 100000
set_option maxHeartbeats 1000000
/-! FnExpr: subscripts, slices, built-in functions, methods. -/
namespace Fn
open PySem PySem.Spec PyProof.Rows L2
section
variable {X : Cx} {G : Gx} {cl : Nat → Addr} {E : XK} {W : Wd} {H : Hp} {M : Mem} {a b c : Expr} {fa fb fc : FE} {pos : Pos}
/-! ### x[i] -/
def oIx : D → D → Mem → R D
  | .str x, .int i, M => if x.length ≤ 16777216 then match atI x i with
    | some c => .ok (.str [c]) M
    | none => .no
    else .no
  | a, .int i, M => match seqOf M a with
    | some l => match atI l i with
      | some d => .ok d M
      | none => .no
    | none => .no
  | _, _, _ => .no
theorem RpL.atI {ds : List D} {us : List V} (r : RpL G W H ds us) {i : Int} {d : D} (e : atI ds i = some d) : ∃ u, L2.atI us i = some u ∧ Rp G W H d u := by
  unfold L2.atI at e ⊢
  rw [r.len]
  cases h : ixN ds.length i with
  | none => rw [h] at e; cases e
  | some j => rw [h] at e; exact r.get e
theorem op2_ix : Op2 G E (rIx G.K) oIx := fun W H M a b u v Q m ra rb p => by
  cases b with
  | int i =>
    cases rb
    have seq : ∀ l, seqOf M a = some l → PR G W H (PV G Q) E (match atI l i with | some d => .ok d M | none => (.no : R D)) → rIx G.K u (.int i) H Q := fun l e1 p => by
      split at p
      · rename_i d e2
        obtain ⟨p1, us, h1, h2, h3⟩ := seqOf_ok m ra e1
        obtain ⟨w, h4, h5⟩ := h3.atI e2
        rcases h2 with h2 | h2
        · exact .inl ⟨p1, us, i, w, h1, rfl, h2, h4, p.here m _ h5⟩
        · exact .inr (.inl ⟨p1, us, i, w, h1, rfl, h2, h4, p.here m _ h5⟩)
      · exact p.elim
    cases a with
    | str x =>
      cases ra
      simp only [oIx] at p
      split at p
      · rename_i hz
        split at p
        · rename_i c e2
          exact .inr (.inr ⟨l2s x, i, c, rfl, rfl, by rw [l2s_len, line_eq]; exact hz, by rw [l2s_toList]; exact e2, p.here m _ rfl⟩)
        · exact p.elim
      · exact p.elim
    | tup l => exact seq l rfl p
    | lst l => exact seq l rfl p
    | fz l => exact seq l rfl p
    | ref j =>
      simp only [oIx] at p
      split at p
      · rename_i l e1
        exact seq l e1 p
      · exact p.elim
    | _ => exact p.elim
  | _ => cases a <;> exact p.elim
theorem sn_ix (ha : PE X a (tE ⟨X.K, cl⟩ E fa)) (hb : PE X b (tE ⟨X.K, cl⟩ E fb)) (hs : PlainIx b := by intro _ _; rfl) : PE X (.Subscript a b pos) (tE ⟨X.K, cl⟩ E (mOp oIx fa fb)) :=
  pe_imp (pe_ix ix_seq ha hb hs) (tE_op op2_ix)
/-! ### x[i:j] -/
def FO := Env → Mem → R (Option Int)
def pNone : FO := fun _ M => .ok none M
def pSome (f : FE) : FO := fun env M => (f env M).bind fun d m => match d with
  | .int i => .ok (some i) m
  | _ => .no
def cutD {α : Type} (xs : List α) (lo hi : Option Int) : List α := (xs.drop (HT.sIx xs.length 0 lo)).take (HT.sIx xs.length xs.length hi - HT.sIx xs.length 0 lo)
def oSl (c : Bool) (d : D) (lo hi : Option Int) (M : Mem) : R D := match d with
  | .str x => if x.length ≤ 16777216 then .ok (.str (cutD x lo hi)) M else .no
  | .tup l => .ok (.tup (cutD l lo hi)) M
  | d => match lstOf M d with
    | some l => mkL c (cutD l lo hi) M
    | none => .no
def mSl (c : Bool) (f : FE) (lo hi : FO) : FE := fun env M => (f env M).bind fun d m => (lo env m).bind fun l m1 => (hi env m1).bind fun h m2 => oSl c d l h m2
def tOO (G : Gx) (E : XK) (f : FO) : L2.St → Hp → (Option Int → Hp → Prop) → Prop := fun σ H Q => ∃ W env M, Sta G W env M σ H ∧ PR G W H (fun o _ _ H' => Q o H') E (f env M)
theorem po_imp {e : Option Expr} {t t' : TO} (h : PO X e t) (i : ∀ σ H Q, t' σ H Q → t σ H Q) : PO X e t' := ⟨fun pins s σ H Q I q => h.run pins s σ H Q I (i σ H Q q)⟩
theorem sp_none : PO X none (tOO G E pNone) := po_imp po_none fun σ H Q ⟨W, env, M, s, p⟩ => p.here s.mem
theorem sp_some (ha : PE X a (tE G E fa)) : PO X (some a) (tOO G E (pSome fa)) := po_imp (po_some ha) fun σ H Q ⟨W, env, M, s, p⟩ => by
  refine tE.bind s p fun d m W1 H1 u f1 s1 r1 p1 => ?_
  cases d with
  | int i => exact ⟨i, r1, p1.here s1.mem⟩
  | _ => exact p1.elim
theorem cut_len {xs : List V} {lo hi : Option Int} : cutV xs lo hi = cutD xs lo hi := rfl
theorem RpL.cut {ds : List D} {us : List V} (r : RpL G W H ds us) (lo hi : Option Int) : RpL G W H (cutD ds lo hi) (cutV us lo hi) := by
  unfold cutD cutV
  rw [r.len]
  exact (r.drop _).take _
theorem sIx_le (n d : Nat) (h : d ≤ n) (o : Option Int) : HT.sIx n d o ≤ n := HT.sIx_le _ _ h _
theorem cutD_whole {α : Type} {xs : List α} {lo hi : Option Int} (h : HT.sIx xs.length 0 lo = 0 ∧ HT.sIx xs.length xs.length hi = xs.length) : cutD xs lo hi = xs := by
  unfold cutD
  rw [h.1, h.2, List.drop_zero, Nat.sub_zero, List.take_length]
theorem sl2 (c : Bool) (d : D) (lo hi : Option Int) (W : Wd) (H : Hp) (M : Mem) (u : V) (Q : VK) (m : MemOk G W H M) (r : Rp G W H d u) (p : PR G W H (PV G Q) E (oSl c d lo hi M)) :
    rSlL G.K u lo hi H Q ∨ rSlA G.K u lo hi H Q ∨ rSlS u lo hi H Q := by
  have seq : ∀ l, lstOf M d = some l → PR G W H (PV G Q) E (mkL c (cutD l lo hi) M) → rSlL G.K u lo hi H Q := fun l e q => by
    obtain ⟨a1, us, h1, h2, h3⟩ := lstOf_ok m r e
    exact ⟨a1, us, h1, h2, mkL_new m q (h3.cut lo hi)⟩
  cases d with
  | str x =>
    cases r
    simp only [oSl] at p
    split at p
    · rename_i hz
      refine .inr (.inr ⟨l2s x, rfl, by rw [l2s_len, line_eq]; exact hz, p.here m _ ?_⟩)
      show V.str _ = V.str _
      unfold cutS cutD
      rw [l2s_len, l2s_toList]
      rfl
    · exact p.elim
  | tup l =>
    obtain ⟨a1, us, h1, h2, h3⟩ := r
    refine .inr (.inl ⟨a1, us, h1, h2.sq, fun hw => p.here m _ ⟨a1, us, rfl, h2.imp id fun z => ⟨by rw [z.1]; simp [cutD], z.2⟩, ?_⟩, fun _ => tup_new m p (h3.cut lo hi)⟩)
    have hw' := hw
    rw [h3.len] at hw'
    rw [cutD_whole hw']
    exact h3
  | lst l => exact .inl (seq l rfl p)
  | fz l => exact .inl (seq l rfl p)
  | ref j =>
    simp only [oSl] at p
    split at p
    · rename_i l e1
      exact .inl (seq l e1 p)
    · exact p.elim
  | _ => exact p.elim
theorem sn_sl (c : Bool) {lo hi : Option Expr} {gl gh : FO} {p2 : Pos} (ha : PE X a (tE ⟨X.K, cl⟩ E fa)) (hl : PO X lo (tOO ⟨X.K, cl⟩ E gl)) (hh : PO X hi (tOO ⟨X.K, cl⟩ E gh)) : PE X (.Subscript a (.Slice lo hi none p2) pos) (tE ⟨X.K, cl⟩ E (mSl c fa gl gh)) :=
  pe_imp (pe_slice (sl_list.or (sl_tupA.or sl_str)) ha hl hh) fun σ H Q ⟨W, env, M, s, p⟩ => by
    refine tE.bind s p fun d m W1 H1 u f1 s1 r1 p1 => ?_
    refine ⟨W1, env, m, s1, PR.bind p1 fun l m2 W2 H2 f2 k2 p2 => ?_⟩
    have s2 := s1.fut f2 k2
    refine ⟨W2, env, m2, s2, PR.bind p2 fun h m3 W3 H3 f3 k3 p3 => ?_⟩
    exact sl2 c d l h W3 H3 m3 u Q k3 (s2.mem.rp f3 (s1.mem.rp f2 r1)) p3
/-! ### built-in functions of values -/
def Fn1 (G : Gx) (E : XK) (r : List V → Hp → VK → Prop) (o : List D → Mem → R D) : Prop := ∀ W H M ds us Q, MemOk G W H M → RpL G W H ds us → PR G W H (PV G Q) E (o ds M) → r us H Q
def mCall (o : List D → Mem → R D) (g : FA) : FE := fun env M => (g env M).bind o
theorem tE_call {r : List V → Hp → VK → Prop} {o : List D → Mem → R D} {g : FA} (hs : Fn1 G E r o) (σ : L2.St) (H : Hp) (Q : VK) (h : tE G E (mCall o g) σ H Q) : tCB r (tA G E g) σ H Q := by
  obtain ⟨W, env, M, s, p⟩ := h
  refine tA.bind s p fun ds m2 W2 H2 us f2 s2 r2 p2 => ?_
  exact hs W2 H2 m2 ds us Q s2.mem r2 p2
def oLen : List D → Mem → R D
  | [.str x], M => if x.length ≤ 16777216 then .ok (.int x.length) M else .no
  | [d], M => match seqOf M d with
    | some l => .ok (.int l.length) M
    | none => .no
  | _, _ => .no
theorem fn_len : Fn1 G E (fun xs H Q => (∃ p ys, xs = [.ref p] ∧ (SqL G.K H p ys ∨ SqT G.K H p ys) ∧ Q (.int ys.length) H) ∨ ∃ z : Str, xs = [.str z] ∧ z.length ≤ sizeLine ∧ Q (.int z.length) H) oLen := fun W H M ds us Q m r p => by
  match ds, r, p with
  | [d], r, p =>
    obtain ⟨u, us', e1, r1, r2⟩ := r
    have : us' = [] := r2
    subst this e1
    have seq : ∀ l, seqOf M d = some l → PR G W H (PV G Q) E (.ok (.int l.length) M) → ∃ p ys, [u] = [V.ref p] ∧ (SqL G.K H p ys ∨ SqT G.K H p ys) ∧ Q (.int ys.length) H := fun l e q => by
      obtain ⟨a1, us, h1, h2, h3⟩ := seqOf_ok m r1 e
      subst h1
      exact ⟨a1, us, rfl, h2, by rw [h3.len]; exact q.here m _ rfl⟩
    cases d with
    | str x =>
      cases r1
      simp only [oLen] at p
      split at p
      · rename_i hz
        exact .inr ⟨_, rfl, by rw [l2s_len, line_eq]; exact hz, by rw [l2s_len]; exact p.here m _ rfl⟩
      · exact p.elim
    | tup l => exact .inl (seq l rfl p)
    | lst l => exact .inl (seq l rfl p)
    | fz l => exact .inl (seq l rfl p)
    | ref j =>
      simp only [oLen] at p
      split at p
      · rename_i l e1
        exact .inl (seq l e1 p)
      · exact p.elim
    | _ => exact p.elim
  | [], r, p => exact p.elim
  | a :: b :: c, r, p => cases a <;> exact p.elim
theorem call_lenA : CallR X (.builtin "len") (fun xs H Q => (∃ p ys, xs = [.ref p] ∧ (SqL X.K H p ys ∨ SqT X.K H p ys) ∧ Q (.int ys.length) H) ∨ ∃ z : Str, xs = [.str z] ∧ z.length ≤ sizeLine ∧ Q (.int z.length) H) := call_len_seq.or call_len_str
def o2I (f : Int → Int → Int) : List D → Mem → R D
  | [.int i, .int j], M => .ok (.int (f i j)) M
  | _, _ => .no
theorem fn_2I {f : Int → Int → Int} : Fn1 G E (fun xs H Q => ∃ i j, xs = [.int i, .int j] ∧ Q (.int (f i j)) H) (o2I f) := fun W H M ds us Q m r p => by
  unfold o2I at p
  split at p
  · obtain ⟨u, us', e1, r1, v, us2, e2, r2, r3⟩ := r
    have : us2 = [] := r3
    subst this e2 e1
    cases r1; cases r2
    exact ⟨_, _, rfl, p.here m _ rfl⟩
  · exact p.elim
def oMax := o2I fun i j => if j > i then j else i
def oMin := o2I fun i j => if j < i then j else i
def oAbs : List D → Mem → R D
  | [.int i], M => .ok (.int (if i < 0 then -i else i)) M
  | _, _ => .no
theorem fn_abs : Fn1 G E (fun xs H Q => ∃ i, xs = [.int i] ∧ Q (.int (if i < 0 then -i else i)) H) oAbs := fun W H M ds us Q m r p => by
  unfold oAbs at p
  split at p
  · obtain ⟨u, us', e1, r1, r3⟩ := r
    have : us' = [] := r3
    subst this e1
    cases r1
    exact ⟨_, rfl, p.here m _ rfl⟩
  · exact p.elim
def oInt : List D → Mem → R D
  | [.int i], M => .ok (.int i) M
  | [.bl k], M => .ok (.int (if k = true then 1 else 0)) M
  | _, _ => .no
theorem fn_int : Fn1 G E (fun xs H Q => (∃ i, xs = [.int i] ∧ Q (.int i) H) ∨ ∃ k, xs = [.bl k] ∧ Q (.int (if k then 1 else 0)) H) oInt := fun W H M ds us Q m r p => by
  unfold oInt at p
  split at p
  · obtain ⟨u, us', e1, r1, r3⟩ := r
    have : us' = [] := r3
    subst this e1
    cases r1
    exact .inl ⟨_, rfl, p.here m _ rfl⟩
  · obtain ⟨u, us', e1, r1, r3⟩ := r
    have : us' = [] := r3
    subst this e1
    cases r1
    exact .inr ⟨_, rfl, p.here m _ rfl⟩
  · exact p.elim
def oList (c : Bool) : List D → Mem → R D
  | [d], M => match seqOf M d with
    | some l => mkL c l M
    | none => .no
  | _, _ => .no
theorem rp_one {d : D} {us : List V} (r : RpL G W H [d] us) : ∃ u, us = [u] ∧ Rp G W H d u := by
  obtain ⟨u, us', e1, r1, r2⟩ := r
  have : us' = [] := r2
  subst this e1
  exact ⟨u, rfl, r1⟩
theorem fn_list {c : Bool} : Fn1 G E (fun xs H Q => ∃ p ys, xs = [.ref p] ∧ (SqL G.K H p ys ∨ SqT G.K H p ys) ∧ ∀ l, H l = none → Q (.ref l) (upd H l (.lst ys))) (oList c) := fun W H M ds us Q m r p => by
  unfold oList at p
  split at p
  · obtain ⟨u, e1, r1⟩ := rp_one r
    subst e1
    split at p
    · rename_i l e1
      obtain ⟨a1, us, h1, h2, h3⟩ := seqOf_ok m r1 e1
      subst h1
      exact ⟨a1, us, rfl, h2, mkL_new m p h3⟩
    · exact p.elim
  · exact p.elim
def oTuple : List D → Mem → R D
  | [.tup l], M => .ok (.tup l) M
  | [d], M => match lstOf M d with
    | some l => .ok (.tup l) M
    | none => .no
  | _, _ => .no
theorem fn_tuple : Fn1 G E (fun xs H Q => ∃ p ys, xs = [.ref p] ∧ ((SqL G.K H p ys ∧ ∀ l, H l = none → Q (.ref l) (upd H l (.tup ys))) ∨ (SqT G.K H p ys ∧ Q (.ref p) H))) oTuple := fun W H M ds us Q m r p => by
  unfold oTuple at p
  split at p
  · obtain ⟨u, e1, r1⟩ := rp_one r
    subst e1
    obtain ⟨a1, us, h1, h2, h3⟩ := r1
    subst h1
    exact ⟨a1, us, rfl, .inr ⟨h2.sq, p.here m _ ⟨a1, us, rfl, h2, h3⟩⟩⟩
  · obtain ⟨u, e1, r1⟩ := rp_one r
    subst e1
    split at p
    · rename_i l e1
      obtain ⟨a1, us, h1, h2, h3⟩ := lstOf_ok m r1 e1
      subst h1
      exact ⟨a1, us, rfl, .inl ⟨h2, tup_new m p h3⟩⟩
    · exact p.elim
  · exact p.elim
/-- all, any of a list of truths -/
def blsOf : List D → Option (List Bool)
  | [] => some []
  | .bl b :: r => (blsOf r).map (b :: ·)
  | _ :: _ => none
theorem blsOf_ok : ∀ {l : List D} {us : List V} {bs : List Bool}, RpL G W H l us → blsOf l = some bs → us = bs.map V.bl
  | [], us, bs, r, e => by have : us = [] := r; subst this; cases e; rfl
  | .bl b :: l, us, bs, r, e => by
    obtain ⟨u, us', e1, r1, r2⟩ := r
    cases r1
    simp only [blsOf] at e
    cases q : blsOf l with
    | none => rw [q] at e; cases e
    | some bs' =>
      rw [q] at e; cases e
      rw [e1, blsOf_ok r2 q]; rfl
  | .non :: _, _, _, _, e => by cases e
  | .int _ :: _, _, _, _, e => by cases e
  | .str _ :: _, _, _, _, e => by cases e
  | .tup _ :: _, _, _, _, e => by cases e
  | .lst _ :: _, _, _, _, e => by cases e
  | .fz _ :: _, _, _, _, e => by cases e
  | .ref _ :: _, _, _, _, e => by cases e
def oAllAny (f : List Bool → Bool) : List D → Mem → R D
  | [d], M => match (lstOf M d).bind blsOf with
    | some bs => .ok (.bl (f bs)) M
    | none => .no
  | _, _ => .no
theorem fn_allany {f : List Bool → Bool} : Fn1 G E (fun vs H Q => ∃ (a : Addr) (bs : List Bool), vs = [V.ref a] ∧ SqL G.K H a (bs.map V.bl) ∧ Q (.bl (f bs)) H) (oAllAny f) := fun W H M ds us Q m r p => by
  unfold oAllAny at p
  split at p
  · obtain ⟨u, e1, r1⟩ := rp_one r
    subst e1
    split at p
    · rename_i bs e1
      cases q : lstOf M _ with
      | none => rw [q] at e1; cases e1
      | some l =>
        rw [q] at e1
        obtain ⟨a1, us, h1, h2, h3⟩ := lstOf_ok m r1 q
        subst h1
        have := blsOf_ok h3 e1
        subst this
        exact ⟨a1, bs, rfl, h2, p.here m _ rfl⟩
    · exact p.elim
  · exact p.elim
def oAll := oAllAny fun bs => bs.all id
def oAny := oAllAny fun bs => bs.any id
/-! ### methods -/
def Mt1 (G : Gx) (E : XK) (r : V → List V → Hp → VK → Prop) (o : D → List D → Mem → R D) : Prop := ∀ W H M a u ds us Q, MemOk G W H M → Rp G W H a u → RpL G W H ds us → PR G W H (PV G Q) E (o a ds M) → r u us H Q
def tyOk (T : String) (M : Mem) : D → Bool
  | .str _ => T == "str"
  | .int _ => T == "int"
  | .lst _ => T == "list"
  | .fz _ => T == "list"
  | .ref i => match M[i]? with
    | some (.lst _) => T == "list"
    | some (.dk false _) => T == "dict"
    | some (.dt false _) => T == "dict"
    | _ => false
  | _ => false
theorem tyOk_ok {T : String} {d : D} {u : V} (m : MemOk G W H M) (r : Rp G W H d u) (e : tyOk T M d = true) : tyV G.K T u H := by
  cases d with
  | str x => cases r; exact eq_of_beq e
  | int x => cases r; exact eq_of_beq e
  | lst l => obtain ⟨a1, us, h1, h2, h3⟩ := lstOf_ok m (d := .lst l) r rfl; subst h1; exact .inl ⟨eq_of_beq e, us, h2⟩
  | fz l => obtain ⟨a1, us, h1, h2, h3⟩ := lstOf_ok m (d := .fz l) r rfl; subst h1; exact .inl ⟨eq_of_beq e, us, h2⟩
  | ref i =>
    obtain ⟨a, e1, e2⟩ := r
    subst e2
    simp only [tyOk] at e
    split at e
    · rename_i l hc
      obtain ⟨us, h1, r1⟩ := m.cell i _ a hc e1
      exact .inl ⟨eq_of_beq e, us, .inl (.inl h1)⟩
    · rename_i kvs hc
      obtain ⟨us, h1, r1⟩ := m.cell i _ a hc e1
      exact .inr (.inr (.inl ⟨eq_of_beq e, .inl ⟨us, h1⟩⟩))
    · rename_i kvs hc
      obtain ⟨us, h1, r1⟩ := m.cell i _ a hc e1
      exact .inr (.inr (.inl ⟨eq_of_beq e, .inr ⟨us, h1⟩⟩))
    · cases e
  | _ => cases e
def mMeth (T : String) (o : D → List D → Mem → R D) (f : FE) (g : FA) : FE := fun env M => (f env M).bind fun a m => if tyOk T m a = true then (g env m).bind fun ds m' => o a ds m' else .no
theorem tE_meth {T : String} {r : V → List V → Hp → VK → Prop} {o : D → List D → Mem → R D} {f : FE} {g : FA} (hs : Mt1 G E r o) (σ : L2.St) (H : Hp) (Q : VK) (h : tE G E (mMeth T o f g) σ H Q) : tBM G.K T r (tE G E f) (tA G E g) σ H Q := by
  obtain ⟨W, env, M, s, p⟩ := h
  refine tE.bind s p fun d m W1 H1 u f1 s1 r1 p1 => ?_
  split at p1
  · rename_i ht
    refine ⟨tyOk_ok s1.mem r1 ht, ?_⟩
    refine tA.bind s1 p1 fun ds m2 W2 H2 us f2 s2 r2 p2 => ?_
    exact hs W2 H2 m2 d u ds us Q s2.mem (s1.mem.rp f2 r1) r2 p2
  · exact p1.elim
theorem tE_meth0 {T : String} {r : V → List V → Hp → VK → Prop} {o : D → List D → Mem → R D} {f : FE} (hs : Mt1 G E r o) (σ : L2.St) (H : Hp) (Q : VK) (h : tE G E (mMeth T o f aNil) σ H Q) : tBM0 G.K T r (tE G E f) σ H Q := by
  obtain ⟨W, env, M, s, p⟩ := h
  refine tE.bind s p fun d m W1 H1 u f1 s1 r1 p1 => ?_
  split at p1
  · rename_i ht
    exact ⟨tyOk_ok s1.mem r1 ht, hs W1 H1 m d u [] [] Q s1.mem r1 rfl p1⟩
  · exact p1.elim
def oAppend : D → List D → Mem → R D
  | .ref i, [d], M => match M[i]? with
    | some (.lst l) => if l.length < 16777216 then .ok .non (M.set i (.lst (l ++ [d]))) else .no
    | _ => .no
  | _, _, _ => .no
theorem mt1_append : Mt1 G E rAppend oAppend := fun W H M a u ds us Q m ra r p => by
  unfold oAppend at p
  split at p
  · obtain ⟨v, e1, r1⟩ := rp_one r
    subst e1
    obtain ⟨a1, e2, e3⟩ := ra
    subst e3
    split at p
    · rename_i l hc
      split at p
      · rename_i hz
        obtain ⟨xs, h1, h2⟩ := m.cell _ _ a1 hc e2
        refine ⟨a1, xs, v, rfl, rfl, h1, by rw [h2.len, line_eq]; exact hz, ?_⟩
        have f := Fut.wrote (W := W) (H := H) (o := .lst (xs ++ [v])) e2 h1 trivial
        exact p W _ f (m.wrote e2 ⟨_, upd_same, m.rpL f (h2.append ⟨v, [], rfl, r1, rfl⟩)⟩) _ rfl
      · exact p.elim
    · exact p.elim
  · exact p.elim
def oExtend : D → List D → Mem → R D
  | .ref i, [d], M => match M[i]?, ownOf M d with
    | some (.lst l), some l' => if l.length + l'.length ≤ 16777216 then .ok .non (M.set i (.lst (l ++ l'))) else .no
    | _, _ => .no
  | _, _, _ => .no
theorem mt1_extend : Mt1 G E rExtend oExtend := fun W H M a u ds us Q m ra r p => by
  unfold oExtend at p
  split at p
  · obtain ⟨v, e1, r1⟩ := rp_one r
    subst e1
    obtain ⟨a1, e2, e3⟩ := ra
    subst e3
    split at p
    · rename_i l l' hc hd
      split at p
      · rename_i hz
        obtain ⟨xs, h1, h2⟩ := m.cell _ _ a1 hc e2
        obtain ⟨b1, ys, h4, h5, h6⟩ := ownOf_ok m r1 hd
        subst h4
        refine ⟨a1, b1, xs, ys, rfl, rfl, h1, h5, by rw [h2.len, h6.len, line_eq]; exact hz, ?_⟩
        have f := Fut.wrote (W := W) (H := H) (o := .lst (xs ++ ys)) e2 h1 trivial
        exact p W _ f (m.wrote e2 ⟨_, upd_same, m.rpL f (h2.append h6)⟩) _ rfl
      · exact p.elim
    · exact p.elim
  · exact p.elim
def oPop : D → List D → Mem → R D
  | .ref i, [], M => match M[i]? with
    | some (.lst l) => match l[l.length - 1]? with
      | some d => .ok d (M.set i (.lst l.dropLast))
      | none => .no
    | _ => .no
  | _, _, _ => .no
theorem RpL.dropLast {ds : List D} {us : List V} (r : RpL G W H ds us) : RpL G W H ds.dropLast us.dropLast := by
  rw [List.dropLast_eq_take, List.dropLast_eq_take, r.len]
  exact r.take _
theorem mt1_pop : Mt1 G E rPop oPop := fun W H M a u ds us Q m ra r p => by
  unfold oPop at p
  split at p
  · have : us = [] := r
    subst this
    obtain ⟨a1, e2, e3⟩ := ra
    subst e3
    split at p
    · rename_i l hc
      split at p
      · rename_i d hd
        obtain ⟨xs, h1, h2⟩ := m.cell _ _ a1 hc e2
        obtain ⟨w, h3, h4⟩ := h2.get hd
        rw [← h2.len] at h3
        refine ⟨a1, xs, w, rfl, rfl, h1, h3, ?_⟩
        have f := Fut.wrote (W := W) (H := H) (o := .lst xs.dropLast) e2 h1 trivial
        exact p W _ f (m.wrote e2 ⟨_, upd_same, m.rpL f h2.dropLast⟩) _ (m.rp f h4)
      · exact p.elim
    · exact p.elim
  · exact p.elim
def oPopAt : D → List D → Mem → R D
  | .ref i, [.int k], M => match M[i]? with
    | some (.lst l) => match ixN l.length k with
      | some j => match l[j]? with
        | some d => if -(2 ^ 63) ≤ k ∧ k < 2 ^ 63 then .ok d (M.set i (.lst (l.eraseIdx j))) else .no
        | none => .no
      | none => .no
    | _ => .no
  | _, _, _ => .no
theorem RpL.eraseIdx : ∀ {ds : List D} {us : List V} (j : Nat), RpL G W H ds us → RpL G W H (ds.eraseIdx j) (us.eraseIdx j)
  | [], us, j, h => by have : us = [] := h; subst this; exact (rfl : ([] : List V) = [])
  | d0 :: ds, us, 0, h => by
    obtain ⟨v, vs, e1, h1, h2⟩ := h
    subst e1
    exact h2
  | d0 :: ds, us, j + 1, h => by
    obtain ⟨v, vs, e1, h1, h2⟩ := h
    subst e1
    exact ⟨v, vs.eraseIdx j, rfl, h1, RpL.eraseIdx j h2⟩
theorem mt1_popAt : Mt1 G E rPopAt oPopAt := fun W H M a u ds us Q m ra r p => by
  unfold oPopAt at p
  split at p
  · obtain ⟨v, e1, r1⟩ := rp_one r
    subst e1
    cases r1
    obtain ⟨a1, e2, e3⟩ := ra
    subst e3
    split at p
    · rename_i l hc
      split at p
      · rename_i j hj
        split at p
        · rename_i d hd
          split at p
          · rename_i hk
            obtain ⟨xs, h1, h2⟩ := m.cell _ _ a1 hc e2
            obtain ⟨w, h3, h4⟩ := h2.get hd
            rw [← h2.len] at hj
            refine ⟨a1, xs, _, j, w, rfl, rfl, h1, hk.1, hk.2, (ixN_seq hj).1, h3, ?_⟩
            have f := Fut.wrote (W := W) (H := H) (o := .lst (xs.eraseIdx j)) e2 h1 trivial
            exact p W _ f (m.wrote e2 ⟨_, upd_same, m.rpL f (h2.eraseIdx j)⟩) _ (m.rp f h4)
          · exact p.elim
        · exact p.elim
      · exact p.elim
    · exact p.elim
  · exact p.elim
def strsOf : List D → Option (List (List Nat))
  | [] => some []
  | .str b :: r => (strsOf r).map (b :: ·)
  | _ :: _ => none
theorem strsOf_ok : ∀ {l : List D} {us : List V} {bs : List (List Nat)}, RpL G W H l us → strsOf l = some bs → us = (bs.map l2s).map V.str
  | [], us, bs, r, e => by have : us = [] := r; subst this; cases e; rfl
  | .str b :: l, us, bs, r, e => by
    obtain ⟨u, us', e1, r1, r2⟩ := r
    cases r1
    simp only [strsOf] at e
    cases q : strsOf l with
    | none => rw [q] at e; cases e
    | some bs' =>
      rw [q] at e; cases e
      rw [e1, strsOf_ok r2 q]; rfl
  | .non :: _, _, _, _, e => by cases e
  | .int _ :: _, _, _, _, e => by cases e
  | .bl _ :: _, _, _, _, e => by cases e
  | .tup _ :: _, _, _, _, e => by cases e
  | .lst _ :: _, _, _, _, e => by cases e
  | .fz _ :: _, _, _, _, e => by cases e
  | .ref _ :: _, _, _, _, e => by cases e
def joinL (sep : List Nat) : List (List Nat) → List Nat
  | [] => []
  | [x] => x
  | x :: r => x ++ sep ++ joinL sep r
def oJoin : D → List D → Mem → R D
  | .str sep, [d], M => match (seqOf M d).bind strsOf with
    | some xs => if (xs.map (·.length)).sum + xs.length * sep.length ≤ 16777216 then .ok (.str (joinL sep xs)) M else .no
    | none => .no
  | _, _, _ => .no
end
end Fn

set_option Elab.async false
set_option linter.all false
set_option maxRecDepth 100000
set_option maxHeartbeats 1000000
/-! FnText: texts: join, count of a sign, a sign in a text; isinstance; sorted. -/
namespace Fn
open PySem PySem.Spec PyProof.Rows L2
section
variable {X : Cx} {G : Gx} {cl : Nat → Addr} {E : XK} {W : Wd} {H : Hp} {M : Mem} {a b c : Expr} {fa fb fc : FE} {pos : Pos}
theorem join_l2s (sep : List Nat) : ∀ xs : List (List Nat), Str.join (l2s sep) (xs.map l2s) = l2s (joinL sep xs)
  | [] => rfl
  | [x] => rfl
  | x :: y :: r => by
    show l2s x ++ l2s sep ++ Str.join (l2s sep) ((y :: r).map l2s) = l2s (x ++ sep ++ joinL sep (y :: r))
    rw [join_l2s sep (y :: r), l2s_append, l2s_append]
theorem mt1_join : Mt1 G E (fun x xs H Q => ∃ a p, ∃ ys : List Str, x = .str a ∧ xs = [.ref p] ∧ (SqL G.K H p (ys.map V.str) ∨ SqT G.K H p (ys.map V.str)) ∧
    (ys.map (·.length)).sum + ys.length * a.length ≤ 16777216 ∧ Q (.str (PySem.Txt.join a ys)) H) oJoin := fun W H M a u ds us Q m ra r p => by
  unfold oJoin at p
  split at p
  · obtain ⟨v, e1, r1⟩ := rp_one r
    subst e1
    cases ra
    split at p
    · rename_i xs e1
      cases q : seqOf M _ with
      | none => rw [q] at e1; cases e1
      | some l =>
        rw [q] at e1
        obtain ⟨a1, us, h1, h2, h3⟩ := seqOf_ok m r1 q
        subst h1
        have := strsOf_ok h3 e1
        subst this
        split at p
        · rename_i hz
          refine ⟨_, a1, xs.map l2s, rfl, rfl, h2, ?_, p.here m _ ?_⟩
          · rw [List.map_map, List.length_map, l2s_len]
            rw [show (fun x : Str => x.length) ∘ l2s = (·.length) from funext fun x => l2s_len x]
            exact hz
          · show V.str _ = V.str _
            rw [PySem.Txt.join, PySem.StrLaws.glued_eq_join, join_l2s]
        · exact p.elim
    · exact p.elim
  · exact p.elim
theorem occ_one_run (x : Str) (c : Nat) : ∀ (k j : Nat) (acc : Array Nat) (free : Nat), j + k = x.length + 1 → acc.size ≤ j → free ≤ j →
    (forIn (List.range' j k) (acc, free) (PySem.StrLaws.occBody x ⟨#[c]⟩ x.length (x.length + 1))).run.fst.size = acc.size + (x.cps.toList.drop j).count c
  | 0, j, acc, free, h, _, _ => by
    have : x.cps.toList.drop j = [] := List.drop_eq_nil_of_le (by simp [Str.length] at h ⊢; omega)
    rw [this]; simp
  | k + 1, j, acc, free, h, ha, hf => by
    rw [List.range'_succ, List.forIn_cons]
    unfold PySem.StrLaws.occBody
    have hs := PySem.StrLaws.subAt_one x c j
    by_cases hc : x.cps.toList[j]? = some c
    · have hh := hs.mpr hc
      rw [if_pos ⟨⟨⟨by show acc.size < _; omega, hf⟩, hh.1⟩, hh.2⟩]
      have hlt : j < x.length := by
        have := hh.1
        simp [Str.length] at this ⊢; omega
      have ih := occ_one_run x c k (j + 1) (acc.push j) (j + 1) (by omega) (by simp; omega) (Nat.le_refl _)
      refine Eq.trans ih ?_
      have hd : x.cps.toList.drop j = c :: x.cps.toList.drop (j + 1) := by
        have h2 : j < x.cps.toList.length := by simpa [Str.length] using hlt
        rw [List.drop_eq_getElem_cons h2]
        congr 1
        exact Option.some.inj ((List.getElem?_eq_getElem h2).symm.trans hc)
      rw [hd, List.count_cons_self]
      simp; omega
    · have c2 : ¬ (((((acc, free) : Array Nat × Nat).fst.size < x.length + 1 ∧ ((acc, free) : Array Nat × Nat).snd ≤ j) ∧ j + (⟨#[c]⟩ : Str).length ≤ x.length) ∧ Builtin.Str.subAt x ⟨#[c]⟩ j = true) := fun z => hc (hs.mp ⟨z.1.2, z.2⟩)
      rw [if_neg c2]
      have ih := occ_one_run x c k (j + 1) acc free (by omega) (by omega) (by omega)
      refine Eq.trans ih ?_
      by_cases hl : j < x.cps.toList.length
      · have hd : x.cps.toList.drop j = x.cps.toList[j] :: x.cps.toList.drop (j + 1) := List.drop_eq_getElem_cons hl
        rw [hd, List.count_cons_of_ne]
        intro z
        exact hc (by rw [List.getElem?_eq_getElem hl, z])
      · rw [List.drop_eq_nil_of_le (by omega), List.drop_eq_nil_of_le (by omega)]
theorem count_one (x : Str) (c : Nat) : PySem.Txt.count x ⟨#[c]⟩ = (x.cps.toList.count c : Nat) := by
  unfold PySem.Txt.count
  rw [PySem.StrLaws.occ_eq, Array.length_toList]
  have := occ_one_run x c (x.length + 1 + 0 - 0) 0 #[] 0 (by omega) (by simp) (by omega)
  have e := this
  simp only [List.drop_zero] at e
  simp at e ⊢
  exact congrArg (Nat.cast : Nat → Int) e
/-- how often one sign stands in a text -/
def oCountS : D → List D → Mem → R D
  | .str x, [.str [c]], M => .ok (.int (x.count c)) M
  | _, _, _ => .no
theorem mt1_countS : Mt1 G E (fun x xs H Q => ∃ a b, x = .str a ∧ xs = [.str b] ∧ Q (.int (PySem.Txt.count a b)) H) oCountS := fun W H M a u ds us Q m ra r p => by
  unfold oCountS at p
  split at p
  · rename_i x c
    obtain ⟨v, e1, r1⟩ := rp_one r
    subst e1
    cases ra; cases r1
    refine ⟨_, _, rfl, rfl, p.here m _ ?_⟩
    show V.int _ = V.int _
    rw [show l2s [c] = ⟨#[c]⟩ from rfl, count_one, l2s_toList]
  · exact p.elim
theorem op2_inS : Op2 G E (fun x y H Q => ∃ (c : Nat) (z : Str), x = .str ⟨#[c]⟩ ∧ y = .str z ∧ Q (.bl (decide (c ∈ z.cps.toList))) H) (oInS false) := fun W H M a b u v Q m ra rb p => by
  unfold oInS at p
  split at p
  · cases ra; cases rb
    exact ⟨_, _, rfl, rfl, p.here m _ (by rw [l2s_toList]; rfl)⟩
  · exact p.elim
theorem op2_notInS : Op2 G E (fun x y H Q => ∃ (c : Nat) (z : Str), x = .str ⟨#[c]⟩ ∧ y = .str z ∧ Q (.bl (!decide (c ∈ z.cps.toList))) H) (oInS true) := fun W H M a b u v Q m ra rb p => by
  unfold oInS at p
  split at p
  · cases ra; cases rb
    exact ⟨_, _, rfl, rfl, p.here m _ (by rw [l2s_toList]; rfl)⟩
  · exact p.elim
theorem sn_inS (ha : PE X a (tE G E fa)) (hb : PE X b (tE G E fb)) (hm : behindInMarks .In b = false := by rfl) : PE X (.Compare a [.In] [b] pos) (tE G E (mOp (oInS false) fa fb)) := sn_cmp op_in_sign op2_inS hm ha hb
theorem sn_notInS (ha : PE X a (tE G E fa)) (hb : PE X b (tE G E fb)) (hm : behindInMarks .NotIn b = false := by rfl) : PE X (.Compare a [.NotIn] [b] pos) (tE G E (mOp (oInS true) fa fb)) := sn_cmp op_notIn_sign op2_notInS hm ha hb

/-! ### isinstance(x, T), T a built-in class -/
def tyD (M : Mem) : D → Option String
  | .non => some "NoneType"
  | .bl _ => some "bool"
  | .int _ => some "int"
  | .str _ => some "str"
  | .tup _ => some "tuple"
  | .lst _ => some "list"
  | .fz _ => some "list"
  | .ref i => match M[i]? with
    | some (.lst _) => some "list"
    | _ => none
/-- is a of class b, of the classes of data -/
def isTy (a b : String) : Bool := a == b || (a == "bool" && b == "int")
def isTyOk (b : String) : Bool := b == "bool" || b == "int" || b == "str" || b == "tuple" || b == "list"
theorem kitB_ok {a b : String} (ha : a = "NoneType" ∨ a = "bool" ∨ a = "int" ∨ a = "str" ∨ a = "tuple" ∨ a = "list") (hb : isTyOk b = true) : kitB a b = some (isTy a b) := by
  unfold isTyOk at hb
  simp only [Bool.or_eq_true, beq_iff_eq] at hb
  rcases hb with (((rfl | rfl) | rfl) | rfl) | rfl <;> rcases ha with rfl | rfl | rfl | rfl | rfl | rfl <;> decide +kernel
theorem tyX_lst {xs : List V} {a : Addr} (h : SqL G.K H a xs) : TyX G.K H (.ref a) (.type "list") := by
  rcases h with (h | ⟨o, h⟩) | ⟨o, its, n, h1, h2, _⟩
  · exact .base (.lst h)
  · exact .base (.frz h)
  · exact .kList h1 h2
theorem tyX_tup {xs : List V} {a : Addr} (h : SqT G.K H a xs) : TyX G.K H (.ref a) (.type "tuple") := by
  rcases h with (h | ⟨o, h⟩) | ⟨o, its, n, h1, h2, _⟩
  · exact .base (.tup h)
  · exact .fTuple h
  · exact .kTuple h1 h2
theorem tyD_ok (m : MemOk G W H M) {d : D} {u : V} {t : String} (r : Rp G W H d u) (e : tyD M d = some t) : TyX G.K H u (.type t) ∧ (t = "NoneType" ∨ t = "bool" ∨ t = "int" ∨ t = "str" ∨ t = "tuple" ∨ t = "list") := by
  cases d with
  | non => cases r; cases e; exact ⟨.base .non, .inl rfl⟩
  | bl b => cases r; cases e; exact ⟨.base (.bl b), .inr (.inl rfl)⟩
  | int b => cases r; cases e; exact ⟨.base (.int b), .inr (.inr (.inl rfl))⟩
  | str b => cases r; cases e; exact ⟨.base (.str _), .inr (.inr (.inr (.inl rfl)))⟩
  | tup l => cases e; obtain ⟨a, us, h1, h2, _⟩ := r; subst h1; exact ⟨tyX_tup h2.sq, .inr (.inr (.inr (.inr (.inl rfl))))⟩
  | lst l => cases e; obtain ⟨a, us, h1, h2, _⟩ := lstOf_ok m (d := .lst l) r rfl; subst h1; exact ⟨tyX_lst h2, .inr (.inr (.inr (.inr (.inr rfl))))⟩
  | fz l => cases e; obtain ⟨a, us, h1, h2, _⟩ := lstOf_ok m (d := .fz l) r rfl; subst h1; exact ⟨tyX_lst h2, .inr (.inr (.inr (.inr (.inr rfl))))⟩
  | ref i =>
    obtain ⟨a, e1, e2⟩ := r
    subst e2
    simp only [tyD] at e
    split at e
    · rename_i l hc
      cases e
      obtain ⟨us, h1, h2⟩ := m.cell i _ a hc e1
      exact ⟨.base (.lst h1), .inr (.inr (.inr (.inr (.inr rfl))))⟩
    · cases e
/-- isinstance(e, T) -/
def oIsi (T : String) (d : D) (M : Mem) : R D := match tyD M d with
  | some t => .ok (.bl (isTy t T)) M
  | none => .no
theorem sn_isi {T : String} {x : Str} {p1 p3 : Pos} (hg : Gl X "isinstance") (hm : X.mg "isinstance" = none) (hg2 : Gl X x) (hm2 : X.mg x = none) (hv2 : bootBuiltins x = some (.type T)) (hT : isTyOk T = true) (hn : x ≠ "__name__") (hd : (x == ("__debug__" : Str)) = false) (ha : PE X a (tE ⟨X.K, cl⟩ E fa))
    (hs1 : starEach [.Name x p3] X.env = (false, eval (.Name x p3) X.env) :: starEach [] X.env := by rfl)
    (hs2 : starEach [a, .Name x p3] X.env = (false, eval a X.env) :: starEach [.Name x p3] X.env := by rfl)
    (hpl : (backTo pos (starEach [.Name x p3] X.env)).any (·.1) = false := by rfl) : PE X (.Call (.Name "isinstance" p1) [a, .Name x p3] [] pos) (tE ⟨X.K, cl⟩ E (mUn (oIsi T) fa)) :=
  pe_imp (pe_callB call_isi hg hm (by decide +kernel) (pa_cons ha (pa_cons (pe_bltn (v := .ty T) hg2 hm2 hv2 rfl hn hd) pa_nil hs1) hs2) (by decide) (by decide) hs2 hpl) fun σ H Q ⟨W, env, M, s, p⟩ => by
    refine tE.bind s p fun d m W1 H1 u f1 s1 r1 p1 => ?_
    simp only [oIsi] at p1
    split at p1
    · rename_i t e
      obtain ⟨k1, k2⟩ := tyD_ok s1.mem r1 e
      exact ⟨u, .ty T, .type t, .type T, isTy t T, rfl, .ty T, k1, kit_ty (kitB_ok k2 hT), p1.here s1.mem _ rfl⟩
    · exact p1.elim
end
end Fn

set_option Elab.async false
set_option linter.all false
set_option maxRecDepth 100000
set_option maxHeartbeats 1000000
/-! FnStmt: targets, statements, blocks, if, while, for. -/
namespace Fn
open PySem PySem.Spec PyProof.Rows L2
inductive Flow where
  | nx (env : Env) | bk (env : Env) | ct (env : Env) | rt (d : D)
abbrev FS := Env → Mem → R Flow
abbrev FG := D → Env → Mem → R Env
section
variable {X : Cx} {G : Gx} {cl : Nat → Addr} {E : XK} {W : Wd} {H : Hp} {M : Mem} {a b c : Expr} {fa fb fc : FE} {pos : Pos}
def PFl (G : Gx) (D : Ends) : Flow → Mem → Wd → Hp → Prop
  | .nx env, _, W', H' => ∀ σ', EnvOk G W' H' env σ' → D.nx σ' H'
  | .bk env, _, W', H' => ∀ σ', EnvOk G W' H' env σ' → D.bk σ' H'
  | .ct env, _, W', H' => ∀ σ', EnvOk G W' H' env σ' → D.ct σ' H'
  | .rt d, _, W', H' => ∀ u, Rp G W' H' d u → D.rt u H'
def tS (G : Gx) (E : XK) (f : FS) : TS := fun D σ H => ∃ W env M, Sta G W env M σ H ∧ PR G W H (PFl G D) E (f env M)
/-- slots beside vs stay -/
def PEnv (G : Gx) (vs : List Nat) (σ : L2.St) (Q : L2.St → Hp → Prop) : Env → Mem → Wd → Hp → Prop := fun env _ W' H' => ∀ σ', EnvOk G W' H' env σ' → wipe σ' vs = wipe σ vs → Q σ' H'
def tGt (G : Gx) (E : XK) (vs : List Nat) (f : FG) : TG := fun v σ H Q => ∃ W env M d, Sta G W env M σ H ∧ Rp G W H d v ∧ PR G W H (PEnv G vs σ Q) E (f d env M)
theorem wipe_get (σ : L2.St) (j : Nat) : ∀ vs : List Nat, j ∉ vs → (wipe σ vs)[j]? = σ[j]?
  | [], _ => rfl
  | v :: vs, h => by
    unfold wipe
    rw [List.getElem?_set_ne (fun z => h (by rw [z]; exact List.mem_cons_self ..))]
    exact wipe_get σ j vs fun z => h (List.mem_cons_of_mem _ z)
theorem wipe_in (σ : L2.St) (j : Nat) : ∀ vs : List Nat, j ∈ vs → j < σ.length → (wipe σ vs)[j]? = some none
  | v :: vs, h, hl => by
    unfold wipe
    by_cases e : v = j
    · subst e
      exact List.getElem?_set_self (by rw [wipe_length]; exact hl)
    · rw [List.getElem?_set_ne e]
      exact wipe_in σ j vs ((List.mem_cons.mp h).resolve_left fun z => e z.symm) hl
theorem wipe_ext {σ σ' : L2.St} {vs : List Nat} (hl : σ.length = σ'.length) (h : ∀ j, j ∉ vs → σ[j]? = σ'[j]?) : wipe σ vs = wipe σ' vs := by
  apply List.ext_getElem?
  intro j
  by_cases hj : j ∈ vs
  · by_cases hb : j < σ.length
    · rw [wipe_in σ j vs hj hb, wipe_in σ' j vs hj (by omega)]
    · rw [List.getElem?_eq_none (by rw [wipe_length]; omega), List.getElem?_eq_none (by rw [wipe_length]; omega)]
  · rw [wipe_get σ j vs hj, wipe_get σ' j vs hj, h j hj]
theorem wipe_set {σ : L2.St} {vs : List Nat} {i : Nat} {x : Option V} (hi : i ∈ vs) : wipe (σ.set i x) vs = wipe σ vs :=
  wipe_ext (by simp) fun j hj => List.getElem?_set_ne (fun z => hj (by rw [← z]; exact hi))
theorem pg_imp {e : Expr} {t t' : TG} (h : PG X e t) (i : ∀ v σ H Q, t' v σ H Q → t v σ H Q) : PG X e t' := ⟨fun pins s σ H v u Q I r q => h.run pins s σ H v u Q I r (i v σ H Q q)⟩
theorem EnvOk.set {env : Env} {σ : L2.St} {d : D} {u : V} (h : EnvOk G W H env σ) (i : Nat) (r : Rp G W H d u) : EnvOk G W H (env.set i (some d)) (σ.set i (some u)) := by
  refine ⟨by simp [h.1], fun j d' e => ?_⟩
  by_cases hj : i = j
  · subst hj
    by_cases hl : i < env.length
    · rw [List.getElem?_set_self hl] at e
      cases e
      exact ⟨u, List.getElem?_set_self (by rw [← h.1]; exact hl), r⟩
    · rw [List.set_eq_of_length_le (by omega)] at e
      rw [List.getElem?_eq_none (by omega)] at e
      cases e
  · rw [List.getElem?_set_ne hj] at e ⊢
    exact h.2 j d' e
/-! ### targets -/
def gN (i : Nat) : FG := fun d env M => .ok (env.set i (some d)) M
theorem sg_name {i : Nat} {x : Str} {pos : Pos} {vs : List Nat} (h : PG X (.Name x pos) (gName i)) (hv : i ∈ vs) : PG X (.Name x pos) (tGt G E vs (gN i)) := pg_imp h fun v σ H Q ⟨W, env, M, d, s, r, p⟩ => p.here s.mem _ (s.env.set i r) (wipe_set hv)
abbrev FGs := List D → Env → Mem → R Env
def tGts (G : Gx) (E : XK) (sl : List Nat) (f : FGs) : TGs := fun vs σ H Q => ∃ W env M ds, Sta G W env M σ H ∧ RpL G W H ds vs ∧ PR G W H (PEnv G sl σ Q) E (f ds env M)
theorem pgs_imp {e : List Expr} {t t' : TGs} (h : PGs X e t) (i : ∀ v σ H Q, t' v σ H Q → t v σ H Q) : PGs X e t' := ⟨fun pins s σ H v u Q I r q => h.run pins s σ H v u Q I r (i v σ H Q q)⟩
def gsNil : FGs := fun ds env M => match ds with
  | [] => .ok env M
  | _ => .no
def gsCons (f : FG) (g : FGs) : FGs := fun ds env M => match ds with
  | d :: r => (f d env M).bind fun env' m => g r env' m
  | [] => .no
theorem sgs_nil {vs : List Nat} : PGs X [] (tGts G E vs gsNil) := pgs_imp pgs_nil fun v σ H Q ⟨W, env, M, ds, s, r, p⟩ => by
  unfold gsNil at p
  split at p
  · have : v = [] := r
    subst this
    exact ⟨rfl, p.here s.mem _ s.env rfl⟩
  · exact p.elim
theorem sgs_cons {e : Expr} {es : List Expr} {f : FG} {g : FGs} {sl : List Nat} (h1 : PG X e (tGt G E sl f)) (h2 : PGs X es (tGts G E sl g))
    (hs : (assignEach (e :: es) X.env).map (·.2) = assign e X.env :: (assignEach es X.env).map (·.2) := by rfl) : PGs X (e :: es) (tGts G E sl (gsCons f g)) := pgs_imp (pgs_cons h1 h2 hs) fun v σ H Q ⟨W, env, M, ds, s, r, p⟩ => by
  unfold gsCons at p
  split at p
  · rename_i d r'
    obtain ⟨u, us, e1, r1, r2⟩ := r
    refine ⟨u, us, e1, W, env, M, d, s, r1, PR.bind p fun env' m W1 H1 f1 k1 p1 => fun σ' en ew => ?_⟩
    refine ⟨W1, env', m, r', ⟨k1, en⟩, s.mem.rpL f1 r2, PR.mono p1 fun env2 m2 W2 H2 f2 k2 q σ2 en2 ew2 => q σ2 en2 (ew2.trans ew)⟩
  · exact p.elim
def gT (n : Nat) (g : FGs) : FG := fun d env M => match d with
  | .tup l => if l.length = n then g l env M else .no
  | _ => .no
theorem sg_tup {es : List Expr} {k : Nat} {g : FGs} {n : Nat} {sl : List Nat} (hc : X.calm = true) (h : PGs X es (tGts ⟨X.K, cl⟩ E sl g))
    (hn : (assignEach es X.env).length = n := by rfl) (hst : (assignEach es X.env).findIdx? (·.1) = none := by rfl) : PG X (.Tuple es k pos) (tGt ⟨X.K, cl⟩ E sl (gT n g)) := pg_imp (pg_tup hc h hn hst) fun v σ H Q ⟨W, env, M, d, s, r, p⟩ => by
  unfold gT at p
  split at p
  · rename_i l
    obtain ⟨a1, us, e1, s1, r1⟩ := r
    split at p
    · rename_i hl
      exact ⟨a1, us, e1, s1.sq, by rw [r1.len, hl], W, env, M, l, s, r1, p⟩
    · exact p.elim
  · exact p.elim
/-- x[i] = v of a list -/
def gIx (fo fi : FE) : FG := fun d env M => (fo env M).bind fun o m => (fi env m).bind fun i m' => match o, i with
  | .ref j, .int k => match m'[j]? with
    | some (.lst l) => match ixN l.length k with
      | some n => .ok env (m'.set j (.lst (l.set n d)))
      | none => .no
    | _ => .no
  | _, _ => .no
theorem sg_ix {sl : List Nat} (ha : PE X a (tE G E fa)) (hb : PE X b (tE G E fb)) (hs : ∀ v, assign (.Subscript a b pos) X.env v = (do
      let ov ← holding [v] (eval a X.env)
      let iv ← holding [v, ov] (eval b X.env)
      standAt pos
      holding [v, ov, iv] (setItem ov iv v)
      release [v, ov, iv] []) := by intro _; rfl) : PG X (.Subscript a b pos) (tGt G E sl (gIx fa fb)) := pg_imp (pg_sub ha hb set_list hs) fun v σ H Q ⟨W, env, M, d, s, r, p⟩ => by
  refine tE.bind s p fun o m W1 H1 u1 f1 s1 r1 p1 => ?_
  refine tE.bind s1 p1 fun i m2 W2 H2 u2 f2 s2 r2 p2 => ?_
  split at p2
  · rename_i j k
    split at p2
    · rename_i l hc
      split at p2
      · rename_i n hn
        obtain ⟨a1, e1, e2⟩ := s1.mem.rp f2 r1
        subst e2; cases r2
        obtain ⟨us, h1, h2⟩ := s2.mem.cell _ _ a1 hc e1
        refine ⟨a1, us, k, n, rfl, rfl, h1, by rw [h2.len]; exact hn, ?_⟩
        have f := Fut.wrote (W := W2) (H := H2) (o := .lst (us.set n v)) e1 h1 trivial
        exact p2 W2 _ f (s2.mem.wrote e1 ⟨_, upd_same, s2.mem.rpL f (h2.set n (s1.mem.rp f2 (s.mem.rp f1 r)))⟩) _ (s2.env.fut s2.mem f) rfl
      · exact p2.elim
    · exact p2.elim
  · exact p2.elim
/-! ### statements -/
def mSet (i : Nat) (f : FE) : FS := fun env M => (f env M).bind fun d m => .ok (.nx (env.set i (some d))) m
theorem ss_set {i : Nat} {x : Str} {pos' : Pos} (ha : PE X a (tE G E fa)) (hN : X.N.Nodup) (hi : X.N[i]? = some x) (hx : Loc X.env.scope x) (hs : swapsWith a (some (.Name x pos')) pos.line X.env = pure false := by rfl) (hf : X.fn x = true ∨ X.env.scope.names.lookup x = some .local := by first | exact .inl rfl | exact .inr rfl | assumption) :
    PS X (.Assign [.Name x pos'] a pos) (tS G E (mSet i fa)) := ps_imp (ps_set hN hi hx ha hs hf) fun D σ H ⟨W, env, M, s, p⟩ => by
  refine tE.bind s p fun d m W1 H1 u f1 s1 r1 p1 => ?_
  exact p1.here s1.mem _ (s1.env.set i r1)
def mAsg (f : FE) (g : FG) : FS := fun env M => (f env M).bind fun d m => (g d env m).bind fun env' m' => .ok (.nx env') m'
theorem ss_asg {tg : Expr} {g : FG} {sl : List Nat} (ha : PE X a (tE G E fa)) (hg : PG X tg (tGt G E sl g)) (hs : swapsWithSole [tg] a pos.line X.env = pure false := by rfl) (hw : swappedStores [tg] a X.env = pure none := by rfl)
    (h1 : (assignEach [tg] X.env).map (·.2) = [assign tg X.env] := by rfl) : PS X (.Assign [tg] a pos) (tS G E (mAsg fa g)) := ps_imp (ps_asg ha hg hs hw h1) fun D σ H ⟨W, env, M, s, p⟩ => by
  refine tE.bind s p fun d m W1 H1 u f1 s1 r1 p1 => ?_
  refine ⟨W1, env, m, d, s1, r1, PR.bind p1 fun env' m2 W2 H2 f2 k2 p2 => fun σ' en _ => ?_⟩
  exact p2.here k2 _ en
/-- a, b = e, e': no tuple is made -/
def mPar (i j : Nat) (g : FA) : FS := fun env M => (g env M).bind fun ds m => match ds with
  | [d, d'] => .ok (.nx ((env.set i (some d)).set j (some d'))) m
  | _ => .no
theorem ss_par {i j : Nat} {x y : Str} {g : FA} {px py pt : Pos} {kt k2 pt2} (hc : X.calm = true) (hN : X.N.Nodup) (hi : X.N[i]? = some x) (hj : X.N[j]? = some y) (hij : i ≠ j)
    (hx : X.env.scope.names.lookup x = some .local) (hy : X.env.scope.names.lookup y = some .local) (ha : PA X [a, b] (tA G E g))
    (hw : swappedStores [.Tuple [.Name x px, .Name y py] kt pt] (.Tuple [a, b] k2 pt2) X.env = pure (some [x, y]))
    (hs : swapsWithSole [.Tuple [.Name x px, .Name y py] kt pt] (.Tuple [a, b] k2 pt2) pos.line X.env = pure false := by rfl) :
    PS X (.Assign [.Tuple [.Name x px, .Name y py] kt pt] (.Tuple [a, b] k2 pt2) pos) (tS G E (mPar i j g)) := ps_imp (ps_par hc hN hi hj hij hx hy ha hw hs) fun D σ H ⟨W, env, M, s, p⟩ => by
  refine tA.bind s p fun ds m W1 H1 us f1 s1 r1 p1 => ?_
  split at p1
  · rename_i d d'
    obtain ⟨u, us', e1, r2, u', us2, e2, r3, r4⟩ := r1
    have : us2 = [] := r4
    subst this e2 e1
    exact ⟨u, u', rfl, p1.here s1.mem _ ((s1.env.set i r2).set j r3)⟩
  · exact p1.elim
def mExpr (f : FE) : FS := fun env M => (f env M).bind fun _ m => .ok (.nx env) m
theorem ss_expr (ha : PE X a (tE G E fa)) (hs : swapsWith a none pos.line X.env = pure false := by rfl) : PS X (.Expr a pos) (tS G E (mExpr fa)) := ps_imp (ps_expr ha hs) fun D σ H ⟨W, env, M, s, p⟩ => by
  refine tE.bind s p fun d m W1 H1 u f1 s1 r1 p1 => ?_
  exact p1.here s1.mem _ s1.env
def mRet (f : FE) : FS := fun env M => (f env M).bind fun d m => .ok (.rt d) m
theorem ss_ret (ha : PE X a (tE G E fa)) : PS X (.Return (some a) pos) (tS G E (mRet fa)) := ps_imp (ps_ret ha) fun D σ H ⟨W, env, M, s, p⟩ => by
  refine tE.bind s p fun d m W1 H1 u f1 s1 r1 p1 => ?_
  exact p1.here s1.mem _ r1
def mRetN : FS := fun _ M => .ok (.rt .non) M
theorem ss_retN : PS X (.Return none pos) (tS G E mRetN) := ps_imp ps_retN fun D σ H ⟨W, env, M, s, p⟩ => p.here s.mem _ rfl
def mPass : FS := fun env M => .ok (.nx env) M
theorem ss_pass : PS X (.Pass pos) (tS G E mPass) := ps_imp ps_pass fun D σ H ⟨W, env, M, s, p⟩ => p.here s.mem _ s.env
theorem ss_doc {x j p1 p2} : PS X (.Expr (.Constant (.str x) j p1) p2) (tS G E mPass) := ps_imp ps_doc fun D σ H ⟨W, env, M, s, p⟩ => p.here s.mem _ s.env
def mBrk : FS := fun env M => .ok (.bk env) M
theorem ss_break : PS X (.Break pos) (tS G E mBrk) := ps_imp ps_break fun D σ H ⟨W, env, M, s, p⟩ => p.here s.mem _ s.env
def mCt : FS := fun env M => .ok (.ct env) M
theorem ss_continue : PS X (.Continue pos) (tS G E mCt) := ps_imp ps_continue fun D σ H ⟨W, env, M, s, p⟩ => p.here s.mem _ s.env
/-! ### blocks -/
def mSeq (f g : FS) : FS := fun env M => (f env M).bind fun fl m => match fl with
  | .nx env' => g env' m
  | fl => .ok fl m
theorem sb_nil : PSs X [] (tS G E mPass) := pss_imp pss_nil fun D σ H ⟨W, env, M, s, p⟩ => p.here s.mem _ s.env
theorem sb_one {st : Stmt} {f : FS} (h : PS X st (tS G E f)) : PSs X [st] (tS G E f) := pss_one h
theorem sb_cons {st : Stmt} {r : List Stmt} {f g : FS} (h : PS X st (tS G E f)) (h2 : PSs X r (tS G E g)) : PSs X (st :: r) (tS G E (mSeq f g)) := pss_imp (pss_cons h h2) fun D σ H ⟨W, env, M, s, p⟩ => by
  refine ⟨W, env, M, s, PR.bind p fun fl m W1 H1 f1 k1 p1 => ?_⟩
  cases fl with
  | nx env' => exact fun σ' en => ⟨W1, env', m, ⟨k1, en⟩, p1⟩
  | bk env' => exact PR.here (E := E) k1 p1
  | ct env' => exact PR.here (E := E) k1 p1
  | rt d => exact PR.here (E := E) k1 p1
def mIfS (c : FT) (f g : FS) : FS := fun env M => (c env M).bind fun b m => if b = true then f env m else g env m
theorem ss_if {gc : FT} {f g : FS} {st1 st2 : List Stmt} (hc : PT X c (tT G E gc)) (ha : PSs X st1 (tS G E f)) (hb : PSs X st2 (tS G E g)) : PS X (.If c st1 st2 pos) (tS G E (mIfS gc f g)) := ps_imp (ps_if hc ha hb) fun D σ H ⟨W, env, M, s, p⟩ => by
  refine tT.bind s p fun k m W1 H1 f1 s1 p1 => ?_
  cases k with
  | true => rw [if_pos rfl] at p1 ⊢; exact ⟨W1, env, m, s1, p1⟩
  | false => rw [if_neg Bool.false_ne_true] at p1 ⊢; exact ⟨W1, env, m, s1, p1⟩
/-- x op= e of a name: as x = x op e -/
def mAug (i : Nat) (o : D → D → Mem → R D) (f : FE) : FS := fun env M => match env[i]? with
  | some (some x) => (f env M).bind fun d m => (o x d m).bind fun z m' => .ok (.nx (env.set i (some z))) m'
  | _ => .no
def Ip2 (G : Gx) (E : XK) (r : TIp) (o : D → D → Mem → R D) : Prop := ∀ W H M a b u v Q, MemOk G W H M → Rp G W H a u → Rp G W H b v → PR G W H (PV G Q) E (o a b M) → r u v H Q
theorem ss_aug {i : Nat} {x : Str} {op : Operator} {ti : TIp} {o : D → D → Mem → R D} {pos' : Pos} (hi2 : Ip2 G E ti o) (ha : PE X a (tE G E fa)) (ho : PIp X op ti) (hN : X.N.Nodup) (hi : X.N[i]? = some x) (hx : Loc X.env.scope x) (hf : X.fn x = true ∨ X.env.scope.names.lookup x = some .local := by first | exact .inl rfl | exact .inr rfl | assumption) :
    PS X (.AugAssign (.Name x pos') op a pos) (tS G E (mAug i o fa)) := ps_imp (ps_aug hN hi hx ha ho hf) fun D σ H ⟨W, env, M, s, p⟩ => by
  unfold mAug at p
  split at p
  · rename_i d e
    obtain ⟨u, h1, h2⟩ := s.env.2 i d e
    refine ⟨u, h1, ?_⟩
    refine tE.bind s p fun d2 m W1 H1 u2 f1 s1 r1 p1 => ?_
    refine hi2 W1 H1 m d d2 u u2 _ s1.mem (s.mem.rp f1 h2) r1 (PR.bind p1 fun z m2 W2 H2 f2 k2 p2 => fun w rw_ => ?_)
    exact p2.here k2 _ ((s1.env.fut s1.mem f2).set i rw_)
  · exact p.elim
theorem ip2_add : Ip2 G E (ipI fun i j => i + j) (oI fun i j => .int (i + j)) := fun W H M a b u v Q m ra rb p => by
  cases a <;> cases b <;> first
    | exact p.elim
    | exact ⟨_, _, ra, rb, p.here m _ rfl⟩
theorem ip2_sub : Ip2 G E (ipI fun i j => i - j) (oI fun i j => .int (i - j)) := fun W H M a b u v Q m ra rb p => by
  cases a <;> cases b <;> first
    | exact p.elim
    | exact ⟨_, _, ra, rb, p.here m _ rfl⟩
/-! ### while -/
def whileM (c : FT) (body : FS) : Nat → Env → Mem → R Flow
  | 0, _, _ => .no
  | n + 1, env, M => (c env M).bind fun b m => if b = true then (body env m).bind fun fl m' => match fl with
      | .nx env' => whileM c body n env' m'
      | .ct env' => whileM c body n env' m'
      | .bk env' => .ok (.nx env') m'
      | .rt d => .ok (.rt d) m'
    else .ok (.nx env) m
def mWhile (c : FT) (body : FS) : FS := whileM c body 1000000000
theorem ss_while {gc : FT} {f : FS} {st : List Stmt} (hp : PassesOwn (model X.prog X.w) X.A X.env X.xe) (hc : PT X c (tT G E gc)) (hb : PSs X st (tS G E f)) : PS X (.While c st [] pos) (tS G E (mWhile gc f)) := ps_imp (ps_while hp hc hb) fun D σ H ⟨W, env, M, s, p⟩ => by
  refine ⟨fun n σ' H' => ∃ W env M, Sta G W env M σ' H' ∧ PR G W H' (PFl G D) E (whileM gc f n env M), ⟨1000000000, W, env, M, s, p⟩, ?_⟩
  rintro n σ' H' ⟨W, env, M, s, p⟩
  cases n with
  | zero => exact p.elim
  | succ n =>
    refine tT.bind s p fun k m W1 H1 f1 s1 p1 => ?_
    cases k with
    | true =>
      rw [if_pos rfl] at p1 ⊢
      refine ⟨fun σ2 H2 => ∃ W env M, Sta G W env M σ2 H2 ∧ PR G W H2 (PFl G D) E (whileM gc f n env M), fun σ2 H2 h => ⟨n, Nat.lt_succ_self n, h⟩, ?_⟩
      refine ⟨W1, env, m, s1, PR.bind p1 fun fl m2 W2 H2 f2 k2 p2 => ?_⟩
      cases fl with
      | nx env' => exact fun σ3 en => ⟨W2, env', m2, ⟨k2, en⟩, p2⟩
      | ct env' => exact fun σ3 en => ⟨W2, env', m2, ⟨k2, en⟩, p2⟩
      | bk env' => exact PR.here (E := E) k2 p2
      | rt d => exact PR.here (E := E) k2 p2
    | false =>
      rw [if_neg Bool.false_ne_true] at p1 ⊢
      exact p1.here s1.mem _ s1.env
end
end Fn

set_option Elab.async false
set_option linter.all false
set_option maxRecDepth 100000
set_option maxHeartbeats 1000000
/-! FnLoop: what is walked; for; comprehensions. -/
namespace Fn
open PySem PySem.Spec PyProof.Rows L2
/-- what is walked: its items; what must stay true of the memory meanwhile -/
structure Src where
  items : List D
  still : Mem → Prop
abbrev FI := Env → Mem → R Src
section
variable {X : Cx} {G : Gx} {cl : Nat → Addr} {E : XK} {W : Wd} {H : Hp} {M : Mem} {a b c : Expr} {fa fb fc : FE} {pos : Pos}
/-- what is locked stays -/
def Lk (H H' : Hp) : Prop := ∀ a od u, H a = some (.frz od u) → H' a = some (.frz od u)
structure SrcOk (G : Gx) (W0 : Wd) (H0 : Hp) (src : Src) (J : It) : Prop where
  item : ∀ W H M, Kp W0 H0 W H → Lk H0 H → MemOk G W H M → src.still M → ∀ (i : Nat) d, src.items[i]? = some d → J.go i H ∧ ∀ x H', J.yld i H x H' → Fut W H W H' ∧ MemOk G W H' M ∧ Rp G W H' d x
  stop : ∀ W H M, Kp W0 H0 W H → Lk H0 H → MemOk G W H M → src.still M → J.stop src.items.length H
def PI' (G : Gx) (Rr : It → Hp → Prop) : Src → Mem → Wd → Hp → Prop := fun src M W H => ∀ J, SrcOk G W H src J → src.still M → Rr J H
def tI (G : Gx) (E : XK) (f : FI) : TI := fun σ H Rr => ∃ W env M, Sta G W env M σ H ∧ PR G W H (PI' G Rr) E (f env M)
theorem pi_imp {tg it : Expr} {t t' : TI} (h : PI X tg it t) (i : ∀ σ H Q, t' σ H Q → t σ H Q) : PI X tg it t' := ⟨fun pins s σ H Q I q => h.run pins s σ H Q I (i σ H Q q)⟩
/-- a list or a tuple -/
def iSeq (K : PySem.W.Frag) (tl : TE) : TI := fun σ H R => tl σ H fun x H1 => ∃ a, x = .ref a ∧ (((∃ xs, SqL K H1 a xs) ∧ R (Itl K a) H1) ∨ ((∃ xs, SqT K H1 a xs) ∧ R (Itt K a) H1))
theorem pi_seq {tg l : Expr} {tl : TE} (hl : PE X l tl) : PI X tg l (iSeq X.K tl) := by
  refine ⟨fun pins s σ H R I h => ?_⟩
  refine thn (hl.run pins s σ H _ I h) fun v s1 ⟨x, H1, I1, r1, q1⟩ => ?_
  obtain ⟨a, e, q⟩ := q1
  subst e
  cases r1
  rcases q with ⟨⟨xs, hq⟩, q⟩ | ⟨⟨xs, hq⟩, q⟩
  · obtain ⟨its, rv, p, hz⟩ := I1.list hq
    refine wpAny_pyIter_list p.isList ?_
    refine ⟨s1.heap.objs.size, [s1.heap.objs.size], _, _, H1, rfl, I1.kept (t' := s1.toks) fun b o e => Heap.get?_push_of_some _ e, turn_list a _, ⟨_, Heap.get?_push_size _ rfl, rfl, rfl⟩, fun b hb => ?_, q⟩
    have e : b = s1.heap.objs.size := by simpa using hb
    subst e
    exact I1.fpOk (Nat.le_refl _) (I1.hok.fresh (Nat.le_refl _))
  · obtain ⟨its, rv, p, hz⟩ := I1.tuple hq
    refine wpAny_pyIter_tuple (show s1.heap.IsTuple a its.toArray from p) ?_
    refine ⟨s1.heap.objs.size, [s1.heap.objs.size], _, _, H1, rfl, I1.kept (t' := s1.toks) fun b o e => Heap.get?_push_of_some _ e, turn_tuple a _, ⟨_, Heap.get?_push_size _ rfl, rfl, rfl⟩, fun b hb => ?_, q⟩
    have e : b = s1.heap.objs.size := by simpa using hb
    subst e
    exact I1.fpOk (Nat.le_refl _) (I1.hok.fresh (Nat.le_refl _))
/-- the items of a list or tuple, walked -/
def srcOf (M : Mem) (d : D) : Option Src := match d with
  | .tup l => some ⟨l, fun _ => True⟩
  | .lst l => some ⟨l, fun _ => True⟩
  | .fz l => some ⟨l, fun _ => True⟩
  | .ref i => match M[i]? with
    | some (.lst l) => some ⟨l, fun M' => M'[i]? = some (.lst l)⟩
    | _ => none
  | _ => none
def iSq (f : FE) : FI := fun env M => (f env M).bind fun d m => match srcOf m d with
  | some s => .ok s m
  | none => .no
theorem src_itl {W0 : Wd} {H0 : Hp} {src : Src} {a : Addr} (h : ∀ W H M, Kp W0 H0 W H → MemOk G W H M → src.still M → ∃ us, SqL G.K H a us ∧ RpL G W H src.items us) : SrcOk G W0 H0 src (Itl G.K a) where
  item := fun W H M f _ m st i d e => by
    obtain ⟨us, h1, h2⟩ := h W H M f m st
    obtain ⟨u, e2, r2⟩ := h2.get e
    refine ⟨⟨us, u, h1, e2⟩, fun x H' y => ?_⟩
    obtain ⟨rfl, y⟩ := y
    have := y us h1
    rw [e2] at this; cases this
    exact ⟨Fut.rfl', m, r2⟩
  stop := fun W H M f _ m st => by
    obtain ⟨us, h1, h2⟩ := h W H M f m st
    exact ⟨us, h1, by rw [h2.len]; exact Nat.le_refl _⟩
theorem src_itt {W0 : Wd} {H0 : Hp} {src : Src} {a : Addr} (h : ∀ W H M, Kp W0 H0 W H → MemOk G W H M → src.still M → ∃ us, SqT G.K H a us ∧ RpL G W H src.items us) : SrcOk G W0 H0 src (Itt G.K a) where
  item := fun W H M f _ m st i d e => by
    obtain ⟨us, h1, h2⟩ := h W H M f m st
    obtain ⟨u, e2, r2⟩ := h2.get e
    refine ⟨⟨us, u, h1, e2⟩, fun x H' y => ?_⟩
    obtain ⟨rfl, y⟩ := y
    have := y us h1
    rw [e2] at this; cases this
    exact ⟨Fut.rfl', m, r2⟩
  stop := fun W H M f _ m st => by
    obtain ⟨us, h1, h2⟩ := h W H M f m st
    exact ⟨us, h1, by rw [h2.len]; exact Nat.le_refl _⟩
theorem srcOf_ok (m : MemOk G W H M) {d : D} {u : V} {src : Src} (r : Rp G W H d u) (e : srcOf M d = some src) :
    src.still M ∧ ∃ a, u = .ref a ∧ (((∃ xs, SqL G.K H a xs) ∧ SrcOk G W H src (Itl G.K a)) ∨ ((∃ xs, SqT G.K H a xs) ∧ SrcOk G W H src (Itt G.K a))) := by
  cases d with
  | tup l =>
    cases e
    obtain ⟨a, us, e1, s1, r1⟩ := id r
    refine ⟨trivial, a, e1, .inr ⟨⟨us, s1.sq⟩, src_itt fun W2 H2 M2 f2 m2 _ => ?_⟩⟩
    obtain ⟨a', us', e', s', r'⟩ := Rp.kp f2 _ _ r
    rw [e1] at e'; cases e'
    exact ⟨us', s'.sq, r'⟩
  | lst l =>
    cases e
    obtain ⟨a, us, e1, s1, r1⟩ := id r
    refine ⟨trivial, a, e1, .inl ⟨⟨us, .inl (.inl s1.1)⟩, src_itl fun W2 H2 M2 f2 m2 _ => ?_⟩⟩
    obtain ⟨a', us', e', s', r'⟩ := Rp.kp f2 _ _ r
    rw [e1] at e'; cases e'
    exact ⟨us', .inl (.inl s'.1), r'⟩
  | fz l =>
    cases e
    obtain ⟨a, us, e1, s1, r1⟩ := lstOf_ok m (d := .fz l) r rfl
    refine ⟨trivial, a, e1, .inl ⟨⟨us, s1⟩, src_itl fun W2 H2 M2 f2 m2 _ => ?_⟩⟩
    obtain ⟨a', us', e', s', r'⟩ := lstOf_ok m2 (d := .fz l) (Rp.kp f2 _ _ r) rfl
    rw [e1] at e'; cases e'
    exact ⟨us', s', r'⟩
  | ref i =>
    simp only [srcOf] at e
    split at e
    · rename_i l hc
      cases e
      obtain ⟨a, e1, e2⟩ := id r
      obtain ⟨us, h1, h2⟩ := m.cell i _ a hc e1
      refine ⟨hc, a, e2, .inl ⟨⟨us, .inl (.inl h1)⟩, src_itl fun W2 H2 M2 f2 m2 st => ?_⟩⟩
      obtain ⟨us', h1', h2'⟩ := m2.cell i _ a st (f2.get _ _ e1)
      exact ⟨us', .inl (.inl h1'), h2'⟩
    · cases e
  | _ => cases e
theorem si_seq {tg : Expr} (ha : PE X a (tE ⟨X.K, cl⟩ E fa)) : PI X tg a (tI ⟨X.K, cl⟩ E (iSq fa)) := pi_imp (pi_seq ha) fun σ H Rr ⟨W, env, M, s, p⟩ => by
  refine tE.bind s p fun d m W1 H1 u f1 s1 r1 p1 => ?_
  split at p1
  · rename_i src e
    obtain ⟨st, a1, e1, q⟩ := srcOf_ok s1.mem r1 e
    have k := p1.here s1.mem
    refine ⟨a1, e1, ?_⟩
    rcases q with ⟨h1, h2⟩ | ⟨h1, h2⟩
    · exact .inl ⟨h1, k _ h2 st⟩
    · exact .inr ⟨h1, k _ h2 st⟩
  · exact p1.elim
/-- a text, sign by sign -/
def iStrM (f : FE) : FI := fun env M => (f env M).bind fun d m => match d with
  | .str x => .ok ⟨x.map fun c => .str [c], fun _ => True⟩ m
  | _ => .no
theorem si_str {tg : Expr} (ha : PE X a (tE G E fa)) : PI X tg a (tI G E (iStrM fa)) := pi_imp (pi_str ha) fun σ H Rr ⟨W, env, M, s, p⟩ => by
  refine tE.bind s p fun d m W1 H1 u f1 s1 r1 p1 => ?_
  cases d with
  | str x =>
    cases r1
    refine ⟨l2s x, rfl, p1.here s1.mem _ ⟨fun W2 H2 M2 f2 _ m2 _ i d e => ?_, fun W2 H2 M2 f2 _ m2 _ => ?_⟩ trivial⟩
    · rw [List.getElem?_map] at e
      cases q : x[i]? with
      | none => rw [q] at e; cases e
      | some c =>
        rw [q] at e; cases e
        have hi : i < x.length := (List.getElem?_eq_some_iff.mp q).1
        refine ⟨?_, fun y H' h => ?_⟩
        · show i < (l2s x).cps.size
          simp [l2s]; exact hi
        · obtain ⟨rfl, c', e1, e2⟩ := h
          have : c' = c := by
            simp [l2s] at e1
            rw [q] at e1; exact (Option.some.inj e1).symm
          subst this
          exact ⟨Fut.rfl', m2, e2⟩
    · show (l2s x).cps.size ≤ _
      simp [l2s]
  | _ => exact p1.elim
def rngItems (lo : Int) (n : Nat) : List D := (List.range n).map fun i : Nat => .int (lo + (i : Int))
theorem src_rng {W0 : Wd} {H0 : Hp} (lo : Int) (n : Nat) : SrcOk G W0 H0 ⟨rngItems lo n, fun _ => True⟩ (Itr lo n) where
  item := fun W H M f _ m _ i d e => by
    have e' : (rngItems lo n)[i]? = some d := e
    unfold rngItems at e'
    rw [List.getElem?_map] at e'
    cases q : (List.range n)[i]? with
    | none => rw [q] at e'; cases e'
    | some k =>
      rw [q] at e'; cases e'
      obtain ⟨h1, h2⟩ := List.getElem?_eq_some_iff.mp q
      simp at h1 h2
      subst h2
      refine ⟨h1, fun x H' y => ?_⟩
      obtain ⟨rfl, rfl⟩ := y
      exact ⟨Fut.rfl', m, rfl⟩
  stop := fun W H M f _ m _ => by
    show n ≤ (rngItems lo n).length
    simp [rngItems]
def rngOk (i : Int) : Bool := decide (-(2 ^ 62) ≤ i) && decide (i < 2 ^ 62)
theorem rngOk_ok {i : Int} (h : rngOk i = true) : -(2 ^ 62) ≤ i ∧ i < 2 ^ 62 := by
  unfold rngOk at h
  simp only [Bool.and_eq_true, decide_eq_true_eq] at h
  exact h
def iR1 (g : FA) : FI := fun env M => (g env M).bind fun ds m => match ds with
  | [.int j] => if rngOk j = true then .ok ⟨rngItems 0 j.toNat, fun _ => True⟩ m else .no
  | _ => .no
def iR2 (g : FA) : FI := fun env M => (g env M).bind fun ds m => match ds with
  | [.int i, .int j] => if rngOk i = true ∧ rngOk j = true then .ok ⟨rngItems i (j - i).toNat, fun _ => True⟩ m else .no
  | _ => .no
theorem si_range1 {tg : Expr} {g : FA} {p : Pos} (hg : Gl X "range") (hm : X.mg "range" = none) (ha : PA X [a] (tA G E g)) (hs : starEach [a] X.env = [(false, eval a X.env)] := by rfl) : PI X tg (.Call (.Name "range" p) [a] [] pos) (tI G E (iR1 g)) :=
  pi_imp (pi_range1 hg hm ha hs) fun σ H Rr ⟨W, env, M, s, p⟩ => by
    refine tA.bind s p fun ds m W1 H1 us f1 s1 r1 p1 => ?_
    split at p1
    · rename_i j
      split at p1
      · rename_i hj
        obtain ⟨u, e1, r2⟩ := rp_one r1
        subst e1; cases r2
        exact ⟨j, rfl, (rngOk_ok hj).1, (rngOk_ok hj).2, p1.here s1.mem _ (src_rng 0 j.toNat) trivial⟩
      · exact p1.elim
    · exact p1.elim
theorem si_range2 {tg : Expr} {g : FA} {p : Pos} (hg : Gl X "range") (hm : X.mg "range" = none) (ha : PA X [a, b] (tA G E g)) (hs : starEach [a, b] X.env = [(false, eval a X.env), (false, eval b X.env)] := by rfl) (hs2 : starEach [b] X.env = [(false, eval b X.env)] := by rfl) : PI X tg (.Call (.Name "range" p) [a, b] [] pos) (tI G E (iR2 g)) :=
  pi_imp (pi_range2 hg hm ha hs hs2) fun σ H Rr ⟨W, env, M, s, p⟩ => by
    refine tA.bind s p fun ds m W1 H1 us f1 s1 r1 p1 => ?_
    split at p1
    · rename_i i j
      split at p1
      · rename_i hj
        obtain ⟨u, us', e1, r2, v, us2, e2, r3, r4⟩ := r1
        have : us2 = [] := r4
        subst this e2 e1
        cases r2; cases r3
        exact ⟨i, j, rfl, ⟨(rngOk_ok hj.1).1, (rngOk_ok hj.1).2, (rngOk_ok hj.2).1, (rngOk_ok hj.2).2⟩, p1.here s1.mem _ (src_rng i (j - i).toNat) trivial⟩
      · exact p1.elim
    · exact p1.elim
/-! ### for -/
open Classical in
noncomputable def forL (P : Mem → Prop) (g : FG) (body : FS) : List D → Env → Mem → R Flow
  | [], env, M => if P M then .ok (.nx env) M else .no
  | d :: r, env, M => if P M then (g d env M).bind fun env1 m1 => (body env1 m1).bind fun fl m => match fl with
      | .nx env' => forL P g body r env' m
      | .ct env' => forL P g body r env' m
      | .bk env' => .ok (.nx env') m
      | .rt d => .ok (.rt d) m
    else .no
noncomputable def mFor (f : FI) (g : FG) (body : FS) : FS := fun env M => (f env M).bind fun src m => forL src.still g body src.items env m
theorem ss_for {tg it : Expr} {f : FI} {g : FG} {body : FS} {st : List Stmt} {sl : List Nat} (hp : PassesOwn (model X.prog X.w) X.A X.env X.xe) (hc : X.calm = true) (hi : PI X tg it (tI G E f)) (hg : PG X tg (tGt G E sl g)) (hb : PSs X st (tS G E body))
    (hs : ∀ x, foldedSetIterable it X.env x = pure x := by intro _; rfl) : PS X (.For tg it st [] pos) (tS G E (mFor f g body)) := ps_imp (ps_for hp hc hi hg hb hs) fun D σ H ⟨W, env, M, s, p⟩ => by
  refine ⟨W, env, M, s, PR.bind p fun src m W0 H0 f0 k0 p0 => fun J sj st0 => ?_⟩
  have s0 := s.fut f0 k0
  refine ⟨fun i n σ' H' => n + i = src.items.length ∧ ∃ W env M, Fut W0 H0 W H' ∧ Sta G W env M σ' H' ∧ PR G W H' (PFl G D) E (forL src.still g body (src.items.drop i) env M), ⟨src.items.length, rfl, W0, env, m, Fut.rfl', s0, p0⟩, ?_⟩
  rintro i n σ' H' ⟨hn, W1, env1, M1, f1, s1, p1⟩
  cases hd : src.items.drop i with
  | nil =>
    rw [hd] at p1
    unfold forL at p1
    split at p1
    · rename_i hP
      have hl : src.items.length ≤ i := List.drop_eq_nil_iff.mp hd
      have : i = src.items.length := by omega
      subst this
      exact .inl ⟨sj.stop W1 H' M1 (f1.kp k0) f1.lk s1.mem hP, p1.here s1.mem _ s1.env⟩
    · exact p1.elim
  | cons d r =>
    rw [hd] at p1
    unfold forL at p1
    split at p1
    · rename_i hP
      have hi' : src.items[i]? = some d := by
        have h0 : (src.items.drop i)[0]? = some d := by rw [hd]; rfl
        rw [List.getElem?_drop] at h0
        simpa using h0
      have hr : src.items.drop (i + 1) = r := by
        rw [← List.tail_drop, hd]; rfl
      have hlt : i < src.items.length := (List.getElem?_eq_some_iff.mp hi').1
      obtain ⟨go, yl⟩ := sj.item W1 H' M1 (f1.kp k0) f1.lk s1.mem hP i d hi'
      refine .inr ⟨go, fun σ2 H2 => ∃ W env M, Fut W0 H0 W H2 ∧ Sta G W env M σ2 H2 ∧ PR G W H2 (PFl G D) E (forL src.still g body r env M), fun σ2 H2 ⟨W, env, M, q1, q2, q3⟩ => ⟨n - 1, by omega, by omega, W, env, M, q1, q2, by rw [hr]; exact q3⟩, fun x H2 y => ?_⟩
      obtain ⟨f2, k2, rx⟩ := yl x H2 y
      have s2 := s1.fut f2 k2
      refine ⟨W1, env1, M1, d, s2, rx, PR.bind (PR.fut f2 p1) fun env3 m3 W3 H3 f3 k3 p3 => fun σ3 en3 _ => ?_⟩
      refine ⟨W3, env3, m3, ⟨k3, en3⟩, PR.bind p3 fun fl m4 W4 H4 f4 k4 p4 => ?_⟩
      have ff := f1.trans (f2.trans (f3.trans f4))
      cases fl with
      | nx env' => exact fun σ4 en => ⟨W4, env', m4, ff, ⟨k4, en⟩, p4⟩
      | ct env' => exact fun σ4 en => ⟨W4, env', m4, ff, ⟨k4, en⟩, p4⟩
      | bk env' => exact PR.here (E := E) k4 p4
      | rt d => exact PR.here (E := E) k4 p4
    · exact p1.elim
end
end Fn

set_option Elab.async false
set_option linter.all false
set_option maxRecDepth 100000
set_option maxHeartbeats 1000000
/-! FnComp: list comprehensions. -/
namespace Fn
open PySem PySem.Spec PyProof.Rows L2
section
variable {X : Cx} {G : Gx} {cl : Nat → Addr} {E : XK} {W : Wd} {H : Hp} {M : Mem} {a b c : Expr} {fa fb fc : FE} {pos : Pos}
def wipeE (env : Env) : List Nat → Env
  | [] => env
  | v :: vs => (wipeE env vs).set v none
theorem wipeE_ok {env : Env} {σ : L2.St} (h : EnvOk G W H env σ) : ∀ vs, EnvOk G W H (wipeE env vs) (wipe σ vs)
  | [] => h
  | v :: vs => by
    have ih := wipeE_ok h vs
    unfold wipeE wipe
    refine ⟨by simp [ih.1], fun j d e => ?_⟩
    by_cases hj : v = j
    · subst hj
      by_cases hl : v < (wipeE env vs).length
      · rw [List.getElem?_set_self hl] at e; cases e
      · rw [List.getElem?_eq_none (by simp; omega)] at e; cases e
    · rw [List.getElem?_set_ne hj] at e ⊢
      exact ih.2 j d e
/-- the block's tests -/
theorem wipe_wipe (σ : L2.St) (vs : List Nat) : wipe (wipe σ vs) vs = wipe σ vs := wipe_ext (wipe_length σ vs) fun j hj => wipe_get σ j vs hj
def tsYes : FT := fun _ M => .ok true M
open Classical in
noncomputable def compL (P : Mem → Prop) (g : FG) (t : FT) (f : FE) (env : Env) : List D → Mem → R (List D)
  | [], M => if P M then .ok [] M else .no
  | d :: r, M => if P M then (g d env M).bind fun env1 m1 => (t env1 m1).bind fun b m2 => if b = true then (f env1 m2).bind fun y m3 => (compL P g t f env r m3).bind fun ys m4 => .ok (y :: ys) m4 else compL P g t f env r m2
    else .no
/-- a hidden object is written -/
theorem Kp.hidden {D0 : Addr} {xs : List V} {o : HO} (hD : D0 ∈ W.hd) (hx : H D0 = some (.lst xs)) : Kp W H W (upd H D0 o) :=
  ⟨fun _ _ h => h, fun a o' e _ h2 => by rw [upd_ne (fun z => h2 (by rw [z]; exact hD))]; exact e,
   fun a o' e st => by rw [upd_ne fun z => by subst z; rw [hx] at e; cases e; exact st]; exact e, fun _ _ _ h1 h2 => ⟨h1, h2⟩⟩
theorem CellOk.kp {W' : Wd} {H' : Hp} (k : Kp W H W' H') {a : Addr} {c : Cell} (e : H' a = H a) (h : CellOk G W H a c) : CellOk G W' H' a c := by
  have pk : ∀ {κ κ' : Type} {f : κ → κ'} {l : List (κ × D)} {vs : List (κ' × V)}, RpK G W H f l vs → RpK G W' H' f l vs := fun h => Paired.imp (fun _ _ z => ⟨z.1, Rp.kp k _ _ z.2⟩) h
  cases c with
  | lst l => obtain ⟨vs, q, r⟩ := h; exact ⟨vs, by rw [e]; exact q, RpL.kp k _ _ r⟩
  | dk lk kvs => obtain ⟨vs, q, r⟩ := h; exact ⟨vs, by rw [e]; exact q, pk r⟩
  | dt lk kvs => obtain ⟨vs, q, r⟩ := h; exact ⟨vs, by rw [e]; exact q, pk r⟩
  | ins c0 fs => obtain ⟨dx, vs, q, r⟩ := h; exact ⟨dx, vs, by rw [e]; exact q, pk r⟩
theorem MemOk.hidden (m : MemOk G W H M) {D0 : Addr} {xs : List V} {o : HO} (hD : D0 ∈ W.hd) (hx : H D0 = some (.lst xs)) : MemOk G W (upd H D0 o) M where
  len := m.len
  nd := m.nd
  cell := fun i c a e1 e2 => (m.cell i c a e1 e2).kp (Kp.hidden hD hx) (upd_ne fun z => by subst z; exact m.apart _ (List.mem_of_getElem? e2) hD)
  apart := m.apart
  hid := fun b hb => by
    by_cases z : b = D0
    · subst z; exact ⟨_, upd_same⟩
    · obtain ⟨u, hu⟩ := m.hid b hb
      exact ⟨u, by rw [upd_ne z]; exact hu⟩
/-- D0 hidden, and no more -/
theorem Kp.hide {D0 : Addr} {o : HO} (hD : H D0 = none) : Kp W H ⟨W.as, D0 :: W.hd⟩ (upd H D0 o) :=
  ⟨fun _ _ h => h, fun a o' e _ _ => by rw [upd_ne (ne_of_none e hD)]; exact e, fun a o' e _ => by rw [upd_ne (ne_of_none e hD)]; exact e,
   fun a o' e h1 h2 => ⟨h1, fun z => by rcases List.mem_cons.mp z with z | z; · exact ne_of_none e hD z
                                        · exact h2 z⟩⟩
theorem MemOk.hide (m : MemOk G W H M) {D0 : Addr} {o : HO} (hD : H D0 = none) : MemOk G ⟨W.as, D0 :: W.hd⟩ (upd H D0 o) M where
  len := m.len
  nd := m.nd
  cell := fun i c a e1 e2 => by
    have k := m.cell i c a e1 e2
    obtain ⟨u, hu, _⟩ := k.there
    exact k.kp (Kp.hide hD) (upd_ne (ne_of_none hu hD))
  apart := fun a ha z => by
    rcases List.mem_cons.mp z with z | z
    · subst z; exact (m.fresh hD).1 ha
    · exact m.apart a ha z
  hid := fun b hb => by
    rcases List.mem_cons.mp hb with z | z
    · subst z; exact ⟨_, upd_same⟩
    · obtain ⟨u, hu⟩ := m.hid b z
      exact ⟨u, by rw [upd_ne (ne_of_none hu hD)]; exact hu⟩
theorem Kp.show {as hd : List Addr} {D0 : Addr} : Kp ⟨as, D0 :: hd⟩ H ⟨as, hd⟩ H :=
  ⟨fun _ _ h => h, fun _ _ e _ _ => e, fun _ _ e _ => e, fun _ _ _ h1 h2 => ⟨h1, fun z => h2 (List.mem_cons_of_mem _ z)⟩⟩
theorem MemOk.show {as hd : List Addr} {D0 : Addr} (m : MemOk G ⟨as, D0 :: hd⟩ H M) : MemOk G ⟨as, hd⟩ H M where
  len := m.len
  nd := m.nd
  cell := fun i c a e1 e2 => (m.cell i c a e1 e2).kp Kp.show rfl
  apart := fun a ha z => m.apart a ha (List.mem_cons_of_mem _ z)
  hid := fun b hb => m.hid b (List.mem_cons_of_mem _ hb)
theorem Kp.track {as hd : List Addr} {D0 : Addr} : Kp ⟨as, D0 :: hd⟩ H ⟨as ++ [D0], hd⟩ H :=
  ⟨fun i a h => by
    show (as ++ [D0])[i]? = some a
    rw [List.getElem?_append_left (List.getElem?_eq_some_iff.mp h).1]; exact h, fun _ _ e _ _ => e, fun _ _ e _ => e,
   fun a _ _ h1 h2 => ⟨fun z => by
    rcases List.mem_append.mp z with z | z
    · exact h1 z
    · exact h2 (by rw [List.mem_singleton] at z; rw [z]; exact List.mem_cons_self ..), fun z => h2 (List.mem_cons_of_mem _ z)⟩⟩
theorem MemOk.track {as hd : List Addr} {D0 : Addr} {us : List V} {ys : List D} (m : MemOk G ⟨as, D0 :: hd⟩ H M) (hx : H D0 = some (.lst us)) (hn : D0 ∉ hd) (r : RpL G ⟨as, D0 :: hd⟩ H ys us) : MemOk G ⟨as ++ [D0], hd⟩ H (M ++ [.lst ys]) where
  len := by
    have := m.len
    simp at this ⊢
    omega
  nd := by
    show (as ++ [D0]).Nodup
    rw [List.nodup_append]
    refine ⟨m.nd, by simp, fun a ha b hb => ?_⟩
    rw [List.mem_singleton] at hb; subst hb
    intro z; subst z
    exact m.apart a ha (List.mem_cons_self ..)
  cell := fun i c' a e1 e2 => by
    have ml : as.length = M.length := m.len
    have e2' : (as ++ [D0])[i]? = some a := e2
    by_cases hi : i < M.length
    · rw [List.getElem?_append_left hi] at e1
      rw [List.getElem?_append_left (by omega)] at e2'
      exact (m.cell i c' a e1 e2').kp Kp.track rfl
    · rw [List.getElem?_append_right (by omega)] at e1 e2'
      have e3 : i - M.length = 0 := by
        have := (List.getElem?_eq_some_iff.mp e1).1
        simp at this; omega
      rw [e3] at e1
      rw [show i - as.length = 0 by omega] at e2'
      simp at e1 e2'
      subst e1 e2'
      exact ⟨us, hx, RpL.kp Kp.track _ _ r⟩
  apart := fun a ha z => by
    rcases List.mem_append.mp ha with q | q
    · exact m.apart a q (List.mem_cons_of_mem _ z)
    · rw [List.mem_singleton] at q; subst q
      exact hn z
  hid := fun b hb => m.hid b (List.mem_cons_of_mem _ hb)
theorem ifF {A B : Prop} (h : B) : if false = true then A else B := by rw [if_neg Bool.false_ne_true]; exact h
theorem ifT {A B : Prop} (h : A) : if true = true then A else B := by rw [if_pos rfl]; exact h
def R.nox {α : Type} : R α → R α
  | .ok a m => .ok a m
  | _ => .no
@[simp] theorem R.nox_ok {α : Type} (a : α) (m : Mem) : (R.ok a m).nox = .ok a m := rfl
theorem R.bind_eq {α β : Type} {r : R α} {k : α → Mem → R β} {b : β} {m : Mem} (h : r.bind k = .ok b m) : ∃ a m1, r = .ok a m1 ∧ k a m1 = .ok b m := by
  cases r with
  | ok a m1 => exact ⟨a, m1, rfl, h⟩
  | ex c fs m1 => cases h
  | no => cases h
/-- the hidden list becomes the made one -/
theorem mkL_shown {W0 : Wd} {H0 : Hp} {as : List Addr} {D0 : Addr} {us : List V} {c : Bool} {ys : List D} {Q : VK} (f : Fut W0 H0 ⟨as, W0.hd⟩ H) (h0 : H0 D0 = none) (n0 : D0 ∉ W0.as ∧ D0 ∉ W0.hd) (m : MemOk G ⟨as, D0 :: W0.hd⟩ H M) (hx : H D0 = some (.lst us)) (r : RpL G ⟨as, D0 :: W0.hd⟩ H ys us) (p : PR G W0 H0 (PV G Q) E (mkL c ys M)) : Q (.ref D0) H := by
  have nas : D0 ∉ as := fun z => m.apart D0 z (List.mem_cons_self ..)
  unfold mkL at p
  cases c with
  | false =>
    rw [if_neg Bool.false_ne_true] at p
    exact p ⟨as, W0.hd⟩ H f m.show _ ⟨D0, us, rfl, ⟨hx, nas, n0.2⟩, RpL.kp Kp.show _ _ r⟩
  | true =>
    rw [if_pos rfl] at p
    refine p ⟨as ++ [D0], W0.hd⟩ H ⟨?_, rfl, f.keep, f.lk⟩ (m.track hx n0.2 r) _ ⟨D0, ?_, rfl⟩
    · obtain ⟨nw, e, q⟩ := f.ext
      have e' : as = W0.as ++ nw := e
      refine ⟨nw ++ [D0], by show as ++ [D0] = _; rw [e', List.append_assoc], fun a ha => ?_⟩
      rcases List.mem_append.mp ha with z | z
      · exact q a z
      · rw [List.mem_singleton] at z; subst z
        exact ⟨h0, n0.1⟩
    · have ml : as.length = M.length := m.len
      show (as ++ [D0])[M.length]? = some D0
      rw [← ml]; simp
noncomputable def mLc (c : Bool) (vs : List Nat) (fi : FI) (g : FG) (t : FT) (f : FE) : FE := fun env M => (fi env M).bind fun src m => if src.items.length < 16777216 then (compL src.still g t f (wipeE env vs) src.items m).nox.bind fun ys m' => mkL c ys m' else .no
theorem compL_len {P : Mem → Prop} {g : FG} {t : FT} {f : FE} {env : Env} : ∀ {l : List D} {M M' : Mem} {ys : List D}, compL P g t f env l M = .ok ys M' → ys.length ≤ l.length
  | [], M, M', ys, h => by
    unfold compL at h
    split at h
    · cases h; simp
    · cases h
  | d :: r, M, M', ys, h => by
    unfold compL at h
    split at h
    · obtain ⟨env1, m1, _, h⟩ := R.bind_eq h
      obtain ⟨b, m2, _, h⟩ := R.bind_eq h
      cases b with
      | true =>
        rw [if_pos rfl] at h
        obtain ⟨y, m3, _, h⟩ := R.bind_eq h
        obtain ⟨ys', m4, h3, h⟩ := R.bind_eq h
        cases h
        have := compL_len h3
        simp; omega
      | false =>
        rw [if_neg Bool.false_ne_true] at h
        have := compL_len h
        simp; omega
    · cases h
theorem PR.of_ok {α : Type} {K : α → Mem → Wd → Hp → Prop} {r : R α} {x : α} {m : Mem} (e : r = .ok x m) (h : ∀ W' H', Fut W H W' H' → MemOk G W' H' m → K x m W' H') : PR G W H K E r := by
  subst e; exact h
theorem tLc_of {E' : XK} {c : Bool} {vs : List Nat} {fi : FI} {g : FG} {t : FT} {f : FE} (σ : L2.St) (H : Hp) (Q : VK) (h : tE G E (mLc c vs fi g t f) σ H Q) : tLc (tI G E fi) (tGt G E' vs g) (tT G E' t) (tE G E' f) vs σ H Q := by
  obtain ⟨W, env, M, s, p⟩ := h
  refine ⟨W, env, M, s, PR.bind p fun src m W0 H0 f0 k0 p0 => fun J sj st0 => fun D0 hD0 => ?_⟩
  have s0 := s.fut f0 k0
  split at p0
  · rename_i hz
    obtain ⟨ys, m', hrun⟩ : ∃ ys m', compL src.still g t f (wipeE env vs) src.items m = .ok ys m' := by
      cases hc : compL src.still g t f (wipeE env vs) src.items m with
      | ok ys m' => exact ⟨ys, m', rfl⟩
      | ex c fs m' => rw [hc] at p0; exact p0.elim
      | no => rw [hc] at p0; exact p0.elim
    rw [hrun] at p0
    have q0 : PR G W0 H0 (PV G Q) E (mkL c ys m') := p0
    have n0 := k0.fresh hD0
    refine ⟨fun i n H' => n + i = src.items.length ∧ ∃ as M done rest acc, compL src.still g t f (wipeE env vs) (src.items.drop i) M = .ok rest m' ∧ done ++ rest = ys ∧ done.length ≤ i ∧ Fut W0 H0 ⟨as, W0.hd⟩ H' ∧ Kp W0 H0 ⟨as, D0 :: W0.hd⟩ H' ∧ MemOk G ⟨as, D0 :: W0.hd⟩ H' M ∧ H' D0 = some (.lst acc) ∧ RpL G ⟨as, D0 :: W0.hd⟩ H' done acc, ⟨src.items.length, rfl, W0.as, m, [], ys, [], hrun, rfl, Nat.le_refl _, ⟨⟨[], by simp, by simp⟩, rfl, fun a o e _ => by rw [upd_ne (ne_of_none e hD0)]; exact e, fun a od u e => by rw [upd_ne (ne_of_none e hD0)]; exact e⟩, Kp.hide hD0, k0.hide hD0, upd_same, rfl⟩, ?_⟩
    rintro i n H1 ⟨hn, as, M1, done, rest, acc, h1, h2, h3, h4, h4k, h5, h6, h7⟩
    cases hd : src.items.drop i with
    | nil =>
      rw [hd] at h1
      unfold compL at h1
      split at h1
      · rename_i hP
        cases h1
        rw [List.append_nil] at h2
        subst h2
        have hl : src.items.length ≤ i := List.drop_eq_nil_iff.mp hd
        have : i = src.items.length := by omega
        subst this
        exact .inl ⟨sj.stop _ H1 _ h4k h4.lk h5 hP, mkL_shown h4 hD0 n0 h5 h6 h7 q0⟩
      · cases h1
    | cons d r =>
      rw [hd] at h1
      unfold compL at h1
      split at h1
      · rename_i hP
        have hi' : src.items[i]? = some d := by
          have h0 : (src.items.drop i)[0]? = some d := by rw [hd]; rfl
          rw [List.getElem?_drop] at h0
          simpa using h0
        have hr : src.items.drop (i + 1) = r := by
          rw [← List.tail_drop, hd]; rfl
        have hlt : i < src.items.length := (List.getElem?_eq_some_iff.mp hi').1
        obtain ⟨go, yl⟩ := sj.item _ H1 _ h4k h4.lk h5 hP i d hi'
        obtain ⟨env1, m1, g1, h1⟩ := R.bind_eq h1
        obtain ⟨b, m2, g2, h1⟩ := R.bind_eq h1
        refine .inr ⟨go, fun H' => ∃ as M done rest acc, compL src.still g t f (wipeE env vs) r M = .ok rest m' ∧ done ++ rest = ys ∧ done.length ≤ i + 1 ∧ Fut W0 H0 ⟨as, W0.hd⟩ H' ∧ Kp W0 H0 ⟨as, D0 :: W0.hd⟩ H' ∧ MemOk G ⟨as, D0 :: W0.hd⟩ H' M ∧ H' D0 = some (.lst acc) ∧ RpL G ⟨as, D0 :: W0.hd⟩ H' done acc, fun H' ⟨as, M, done, rest, acc, k⟩ => ⟨n - 1, by omega, by omega, as, M, done, rest, acc, by rw [hr]; exact k⟩, fun x H2 y => ?_⟩
        obtain ⟨f2, k2, rx⟩ := yl x H2 y
        have en2 : EnvOk G ⟨as, D0 :: W0.hd⟩ H2 env σ := s0.env.kp (h4k.trans (f2.kp h5))
        refine ⟨_, wipeE env vs, M1, d, ⟨k2, wipeE_ok en2 vs⟩, rx, PR.of_ok g1 fun W3 H3 f3 k3 => fun σ3 en3 ew3 => ⟨by rw [ew3]; exact wipe_wipe σ vs, W3, env1, m1, ⟨k3, en3⟩, PR.of_ok g2 fun W4 H4 f4 k4 => ?_⟩⟩
        have f24 := f2.trans (f3.trans f4)
        have a4 := h5.rpL f24 h7
        have hD4 : H4 D0 = some (.lst acc) := f24.keep _ _ h6 fun z => h5.apart D0 z (List.mem_cons_self ..)
        have ft : ∀ {as5 : List Addr} {H5 : Hp}, Fut ⟨as, D0 :: W0.hd⟩ H1 ⟨as5, D0 :: W0.hd⟩ H5 → Fut W0 H0 ⟨as5, W0.hd⟩ H5 := fun f5 => h4.trans ⟨f5.ext, rfl, f5.keep, f5.lk⟩
        cases b with
        | false =>
          rw [if_neg Bool.false_ne_true] at h1
          simp only [PB, Bool.false_eq_true, if_false]
          obtain ⟨as4, hd4⟩ := W4
          obtain rfl : hd4 = D0 :: W0.hd := f24.hd
          exact ⟨as4, m2, done, rest, acc, h1, h2, by omega, ft f24, h4k.trans (f24.kp h5), k4, hD4, a4⟩
        | true =>
          rw [if_pos rfl] at h1
          obtain ⟨y, m3, g3, h1⟩ := R.bind_eq h1
          obtain ⟨ys', m4, g4, h1⟩ := R.bind_eq h1
          cases h1
          simp only [PB, if_true]
          refine ⟨W4, env1, m2, ⟨k4, en3.fut k3 f4⟩, PR.of_ok g3 fun W5 H5 f5 k5 => fun u ru => ?_⟩
          have f25 := f24.trans f5
          obtain ⟨as5, hd5⟩ := W5
          obtain rfl : hd5 = D0 :: W0.hd := f25.hd
          have hD5 : H5 D0 = some (.lst acc) := f25.keep _ _ h6 fun z => h5.apart D0 z (List.mem_cons_self ..)
          have a5 := h5.rpL f25 h7
          have hid : D0 ∈ (⟨as5, D0 :: W0.hd⟩ : Wd).hd := List.mem_cons_self ..
          have kh : Kp ⟨as5, D0 :: W0.hd⟩ H5 ⟨as5, D0 :: W0.hd⟩ (upd H5 D0 (.lst (acc ++ [u]))) := Kp.hidden hid hD5
          refine ⟨acc, hD5, by rw [h7.len, line_eq]; omega, as5, m3, done ++ [y], ys', acc ++ [u], g4, by rw [List.append_assoc]; exact h2, by simp; omega, ?_, h4k.trans ((f25.kp h5).trans kh), k5.hidden hid hD5, upd_same, RpL.kp kh _ _ (a5.append ⟨u, [], rfl, ru, rfl⟩)⟩
          have f5' := ft f25
          exact ⟨f5'.ext, rfl, fun a o e ha => by rw [upd_ne (ne_of_none e hD0)]; exact f5'.keep a o e ha, fun a od u e => by rw [upd_ne (ne_of_none e hD0)]; exact f5'.lk a od u e⟩
      · cases h1
  · exact p0.elim
theorem EnvOk.kpp {W' : Wd} {H' : Hp} {env : Env} {σ : L2.St} (h : EnvOk G W H env σ) (k : Kp W H W' H') : EnvOk G W' H' env σ := h.kp k
theorem sn_lc (c : Bool) {elt tg iter : Expr} {ifs : List Expr} {scope : Scope} {own : List (Str × Nat)} {fi : FI} {g : FG} {t : FT} {f : FE} (hc : X.calm = true) (hN : X.N.Nodup) (hi : PI X tg iter (tI G E fi)) (ok : BlkOk X.N X.env.scope scope own)
    (hg : ∀ (s : Shared) (H : Hp) (C : Addr) (cl : List (Str × Addr)) (fp : List Addr), PG (X.blk s H scope (compEnvC scope cl C X.env) fp) tg (tGt G (fun _ _ _ => False) (own.map (·.2)) g)) (ht : ∀ (s : Shared) (H : Hp) (C : Addr) (cl : List (Str × Addr)) (fp : List Addr), PTs (X.blk s H scope (compEnvC scope cl C X.env) fp) ifs (tT G (fun _ _ _ => False) t))
    (he : ∀ (s : Shared) (H : Hp) (C : Addr) (cl : List (Str × Addr)) (fp : List Addr), PE (X.blk s H scope (compEnvC scope cl C X.env) fp) elt (tE G (fun _ _ _ => False) f)) (hs : ∀ x, foldedSetIterable iter X.env x = pure x := by intro _; rfl) :
    PE X (.ListComp elt [⟨tg, iter, ifs, 0⟩] scope pos) (tE G E (mLc c (own.map (·.2)) fi g t f)) := pe_imp (pe_lc hc hN hi ok hg ht he hs) tLc_of
theorem ss_setLc (c : Bool) {i : Nat} {y : Str} {py : Pos} {elt tg iter : Expr} {ifs : List Expr} {scope : Scope} {own : List (Str × Nat)} {spos : Pos} {fi : FI} {g : FG} {t : FT} {f : FE} (hc : X.calm = true) (hN : X.N.Nodup) (hy : X.N[i]? = some y) (hyl : X.env.scope.names.lookup y = some .local)
    (hsw : swapsWith (.ListComp elt [⟨tg, iter, ifs, 0⟩] scope pos) (some (.Name y py)) spos.line X.env = pure true) (hi : PI X tg iter (tI G E fi)) (ok : BlkOk X.N X.env.scope scope own)
    (hg : ∀ (s : Shared) (H : Hp) (C : Addr) (cl : List (Str × Addr)) (fp : List Addr), PG (X.blk s H scope (compEnvC scope cl C X.env) fp) tg (tGt G (fun _ _ _ => False) (own.map (·.2)) g)) (ht : ∀ (s : Shared) (H : Hp) (C : Addr) (cl : List (Str × Addr)) (fp : List Addr), PTs (X.blk s H scope (compEnvC scope cl C X.env) fp) ifs (tT G (fun _ _ _ => False) t))
    (he : ∀ (s : Shared) (H : Hp) (C : Addr) (cl : List (Str × Addr)) (fp : List Addr), PE (X.blk s H scope (compEnvC scope cl C X.env) fp) elt (tE G (fun _ _ _ => False) f)) (hs : ∀ x, foldedSetIterable iter X.env x = pure x := by intro _; rfl) :
    PS X (.Assign [.Name y py] (.ListComp elt [⟨tg, iter, ifs, 0⟩] scope pos) spos) (tS G E (mSet i (mLc c (own.map (·.2)) fi g t f))) := ps_imp (ps_setLc hc hN hy hyl hsw hi ok hg ht he hs) fun D σ H ⟨W, env, M, s, p⟩ => by
  refine tLc_of (c := c) σ H _ ?_
  refine tE.bind s p fun d m W1 H1 u f1 s1 r1 p1 => ?_
  exact p1.here s1.mem _ (s1.env.set i r1)
theorem sts_nil : PTs X [] (tT G E tsYes) := ⟨fun pins s σ H Q I h => pts_nil.run pins s σ H Q I (by obtain ⟨W, env, M, st, p⟩ := h; exact p.here st.mem)⟩
theorem sts_one {t : FT} (h : PT X c (tT G E t)) : PTs X [c] (tT G E t) := pts_one h
end
end Fn

set_option Elab.async false
set_option linter.all false
set_option maxRecDepth 100000
set_option maxHeartbeats 1000000
/-! FnCall: defs and their calls. -/
namespace Fn
open PySem PySem.Spec PyProof.Rows L2
abbrev FD := List D → Mem → R D
section
variable {X : Cx} {G : Gx} {cl : Nat → Addr} {E : XK} {W : Wd} {H : Hp} {M : Mem} {a b c : Expr} {fa fb fc : FE} {pos : Pos}
def spOf (G : Gx) (n : Nat) (g : FD) : Sp := fun vs H Q E => ∃ W M ds, MemOk G W H M ∧ RpL G W H ds vs ∧ ds.length = n ∧ PR G W H (PV G Q) E (g ds M)
theorem passA {X : Cx} {E : XK} : Passes CX0 X E := fun _ _ _ _ _ _ _ h => h.elim
/-- f(..) with the written arguments and the defaults dd -/
def mFun (n : Nat) (g : FD) (dd : List D) (fa : FA) : FE := fun env M => (fa env M).bind fun ds m => if (ds ++ dd).length = n then g (ds ++ dd) m else .no
def Closed (dd : List D) (dvs : List V) : Prop := ∀ (G : Gx) (W : Wd) (H : Hp), RpL G W H dd dvs
theorem closed_nil : Closed [] [] := fun _ _ _ => rfl
section
variable {CX : CXT} {k n : Nat} {f C : Addr} {fd : FuncData} {ps : List Str} {g : FD} {dvs : List V} {dd : List D} {ds : List Value} {x m : Str} {p apos : Pos} {e o : Expr} {es : List Expr} {ga : FA}
theorem fun_reads {E' : XK} (hc : Closed dd dvs) (σ : L2.St) (H : Hp) (Q : VK) (h : tE G E (mFun n g dd ga) σ H Q) : tCall (spOf G n g) dvs E (tA G E ga) σ H Q := by
  obtain ⟨W, env, M, s, p⟩ := h
  refine tA.bind s p fun ds m2 W2 H2 us f2 s2 r2 p2 => ?_
  split at p2
  · rename_i hl
    exact ⟨W2, m2, ds ++ dd, s2.mem, r2.append (hc G W2 H2), hl, p2⟩
  · exact p2.elim
theorem sn_call (F : FnOk X.prog X.w X.K X.mg X.base CX k f fd ps (spOf ⟨X.K, cl⟩ n g)) (hr : Room k X.A) (hg : Gl X x) (hm : X.mg x = some (.ref f)) (hk : PySem.W.keepIn X.K (.ref f) = true) (hb : Binds X.K fd ps ds) (hd : Vals dvs ds) (hc : Closed dd dvs) (hx : Passes CX X E)
    (ha : PA X (e :: es) (tA ⟨X.K, cl⟩ E ga)) (hdb : (x == ("__debug__" : Str)) = false := by decide) (he : starEach (e :: es) X.env = (false, eval e X.env) :: starEach es X.env := by rfl) (hpl : (backTo pos (starEach es X.env)).any (·.1) = false := by rfl) :
    PE X (.Call (.Name x p) (e :: es) [] pos) (tE ⟨X.K, cl⟩ E (mFun n g dd ga)) := pe_imp (pe_call F hr hg hm hk hb hd hx ha hdb he hpl) (fun_reads (E' := E) hc)
theorem sn_call0 (F : FnOk X.prog X.w X.K X.mg X.base CX k f fd ps (spOf ⟨X.K, cl⟩ n g)) (hr : Room k X.A) (hg : Gl X x) (hm : X.mg x = some (.ref f)) (hk : PySem.W.keepIn X.K (.ref f) = true) (hb : Binds X.K fd ps ds) (hd : Vals dvs ds) (hc : Closed dd dvs) (hx : Passes CX X E)
    (hdb : (x == ("__debug__" : Str)) = false := by decide) : PE X (.Call (.Name x p) [] [] pos) (tE ⟨X.K, cl⟩ E (mFun n g dd aNil)) := pe_imp (pe_call0 F hr hg hm hk hb hd hx hdb) fun σ H Q h => by
  obtain ⟨W, env, M, s, p⟩ := h
  have p' : PR ⟨X.K, cl⟩ W H (PV ⟨X.K, cl⟩ Q) E (if ([] ++ dd).length = n then g ([] ++ dd) M else .no) := p
  split at p'
  · rename_i hl
    exact ⟨W, M, [] ++ dd, s.mem, hc _ _ _, hl, p'⟩
  · exact p'.elim
/-- keywords only behind the positional ones: the model's order is given by π (indices into the written ones and the defaults) -/
def mFunK (n : Nat) (g : FD) (gd : List D → List D → List D) (fa fk : FA) : FE := fun env M => (fa env M).bind fun ds m => (fk env m).bind fun zs m2 => if (gd ds zs).length = n then g (gd ds zs) m2 else .no
end
/-! ### a def's body and its model -/
def envStart (N : Nat) (ds : List D) : Env := ds.map some ++ List.replicate (N - ds.length) none
/-- rb, a body's run, does what rg tells -/
def Ref (M : Mem) (rg : R D) (rb : R Flow) : Prop := ∀ (G : Gx) (W : Wd) (H : Hp) (Q : VK) (E : XK), MemOk G W H M → PR G W H (PV G Q) E rg → PR G W H (PFl G { nx := fun _ H' => Q .non H', rt := Q }) E rb
theorem Ref.no {M : Mem} {rb : R Flow} : Ref M .no rb := fun _ _ _ _ _ _ h => h.elim
theorem Ref.ret {M m : Mem} {d : D} : Ref M (.ok d m) (.ok (.rt d) m) := fun _ _ _ _ _ _ h => h
theorem Ref.nx {M m : Mem} {env : Env} : Ref M (.ok .non m) (.ok (.nx env) m) := fun _ _ _ _ _ _ h => fun W' H' f m' σ' _ => h W' H' f m' .non rfl
theorem Ref.ex {M m : Mem} {c : Nat} {fs : List (Str × D)} : Ref M (.ex c fs m) (.ex c fs m) := fun _ _ _ _ _ _ h => h
theorem Ref.of {M : Mem} {rg : R D} {rb rb' : R Flow} (e : rb = rb') (h : Ref M rg rb') : Ref M rg rb := by rw [e]; exact h
theorem envStart_ok {N : List Str} {ds : List D} {vs : List V} (r : RpL G W H ds vs) : EnvOk G W H (envStart N.length ds) (L2.start N vs) := by
  unfold envStart L2.start
  rw [r.len]
  refine ⟨by simp [r.len], fun i d e => ?_⟩
  by_cases hi : i < ds.length
  · rw [List.getElem?_append_left (by simpa using hi), List.getElem?_map] at e
    cases q : ds[i]? with
    | none => rw [q] at e; cases e
    | some d' =>
      rw [q] at e; cases e
      obtain ⟨u, h1, h2⟩ := r.get q
      refine ⟨u, ?_, h2⟩
      rw [List.getElem?_append_left (by simp [r.len]; exact hi), List.getElem?_map, h1]
      rfl
  · rw [List.getElem?_append_right (by simp; omega), List.getElem?_replicate] at e
    split at e <;> cases e
/-- a def's model: its body's run -/
def runB (B : FS) (N : Nat) : FD := fun ds M => match B (envStart N ds) M with
  | .ok (.rt d) m => .ok d m
  | .ok (.nx _) m => .ok .non m
  | .ok _ _ => .no
  | .ex c fs m => .ex c fs m
  | .no => .no
theorem ref_run (B : FS) (N : Nat) (ds : List D) (M : Mem) : Ref M (runB B N ds M) (B (envStart N ds) M) := by
  unfold runB
  split
  · rename_i e; exact Ref.of e Ref.ret
  · rename_i e; exact Ref.of e Ref.nx
  · exact Ref.no
  · rename_i e; exact Ref.of e Ref.ex
  · exact Ref.no
/-! ### what a call leaves behind is forgotten -/
mutual
def bdD (n : Nat) : D → Bool
  | .ref i => decide (i < n)
  | .tup l => bdL n l
  | .lst l => bdL n l
  | .fz l => bdL n l
  | _ => true
def bdL (n : Nat) : List D → Bool
  | [] => true
  | d :: r => bdD n d && bdL n r
end
def bdC (n : Nat) : Cell → Bool
  | .lst l => bdL n l
  | .dk _ kvs => bdL n (kvs.map (·.2))
  | .dt _ kvs => bdL n (kvs.map (·.2))
  | .ins _ fs => bdL n (fs.map (·.2))
mutual
def frzD (m : Mem) (n : Nat) : D → D
  | .ref i => if i < n then .ref i else match m[i]? with
    | some (.lst l) => .lst l
    | _ => .ref i
  | .tup l => .tup (frzL m n l)
  | .lst l => .lst (frzL m n l)
  | .fz l => .fz (frzL m n l)
  | d => d
def frzL (m : Mem) (n : Nat) : List D → List D
  | [] => []
  | d :: r => frzD m n d :: frzL m n r
end
/-- may the memory be cut to its first cells -/
def cutOk (M m : Mem) (d : D) : Prop := M.length ≤ m.length ∧ bdD M.length d = true ∧ ∀ (j : Nat) (c : Cell), j < M.length → m[j]? = some c → M[j]? = some c ∨ bdC M.length c = true
open Classical in
noncomputable def gcR (M : Mem) (r : R D) : R D := match r with
  | .ok d m => if cutOk M m (frzD m M.length d) then .ok (frzD m M.length d) (m.take M.length) else .ok d m
  | r => r
noncomputable def gcB (B : FS) (N : Nat) : FD := fun ds M => gcR M (runB B N ds M)
mutual
theorem Rp.bd {n : Nat} (hn : n = W.as.length) : ∀ (d : D) (u : V), Rp G W H d u → bdD n d = true
  | .non, u, h => rfl
  | .bl b, u, h => rfl
  | .int i, u, h => rfl
  | .str x, u, h => rfl
  | .tup l, u, h => by obtain ⟨a, us, e, s, r⟩ := h; exact RpL.bd hn l us r
  | .lst l, u, h => by obtain ⟨a, us, e, s, r⟩ := h; exact RpL.bd hn l us r
  | .fz l, u, h => by obtain ⟨a, us, e, s, r⟩ := h; exact RpL.bd hn l us r
  | .ref i, u, h => by
    obtain ⟨a, e, r⟩ := h
    simp only [bdD, decide_eq_true_eq, hn]
    exact (List.getElem?_eq_some_iff.mp e).1
theorem RpL.bd {n : Nat} (hn : n = W.as.length) : ∀ (l : List D) (us : List V), RpL G W H l us → bdL n l = true
  | [], us, h => rfl
  | d :: r, us, h => by
    obtain ⟨u, us', e, h1, h2⟩ := h
    simp only [bdL, Rp.bd hn d u h1, RpL.bd hn r us' h2, Bool.and_self]
end
/-- the world cut to its first cells -/
def cutW (W : Wd) (n : Nat) : Wd := ⟨W.as.take n, W.hd⟩
theorem mem_take {α : Type} {l : List α} {n : Nat} {a : α} (h : a ∈ l.take n) : a ∈ l := List.mem_of_mem_take h
mutual
theorem Rp.trim {n : Nat} (hn : n ≤ W.as.length) : ∀ (d : D) (u : V), bdD n d = true → Rp G W H d u → Rp G (cutW W n) H d u
  | .non, u, b, h => h
  | .bl _, u, b, h => h
  | .int i, u, b, h => h
  | .str x, u, b, h => h
  | .tup l, u, b, h => by obtain ⟨a, us, e, s, r⟩ := h; exact ⟨a, us, e, s, RpL.trim hn l us b r⟩
  | .lst l, u, b, h => by obtain ⟨a, us, e, s, r⟩ := h; exact ⟨a, us, e, ⟨s.1, fun z => s.2.1 (mem_take z), s.2.2⟩, RpL.trim hn l us b r⟩
  | .fz l, u, b, h => by obtain ⟨a, us, e, s, r⟩ := h; exact ⟨a, us, e, s, RpL.trim hn l us b r⟩
  | .ref i, u, b, h => by
    obtain ⟨a, e, r⟩ := h
    refine ⟨a, ?_, r⟩
    simp only [bdD, decide_eq_true_eq] at b
    show (W.as.take n)[i]? = some a
    rw [List.getElem?_take, if_pos b]
    exact e
theorem RpL.trim {n : Nat} (hn : n ≤ W.as.length) : ∀ (l : List D) (us : List V), bdL n l = true → RpL G W H l us → RpL G (cutW W n) H l us
  | [], us, b, h => h
  | d :: r, us, b, h => by
    obtain ⟨u, us', e, h1, h2⟩ := h
    simp only [bdL, Bool.and_eq_true] at b
    exact ⟨u, us', e, Rp.trim hn d u b.1 h1, RpL.trim hn r us' b.2 h2⟩
end
mutual
theorem Rp.frz {m : Mem} {n : Nat} (k : MemOk G W H m) (hn : n ≤ W.as.length) : ∀ (d : D) (u : V), bdD n (frzD m n d) = true → Rp G W H d u → Rp G (cutW W n) H (frzD m n d) u
  | .non, u, b, h => h
  | .bl _, u, b, h => h
  | .int i, u, b, h => h
  | .str x, u, b, h => h
  | .tup l, u, b, h => by obtain ⟨a, us, e, s, r⟩ := h; exact ⟨a, us, e, s.imp id fun z => ⟨by rw [z.1]; rfl, z.2⟩, RpL.frz k hn l us b r⟩
  | .lst l, u, b, h => by obtain ⟨a, us, e, s, r⟩ := h; exact ⟨a, us, e, ⟨s.1, fun z => s.2.1 (mem_take z), s.2.2⟩, RpL.frz k hn l us b r⟩
  | .fz l, u, b, h => by obtain ⟨a, us, e, s, r⟩ := h; exact ⟨a, us, e, s, RpL.frz k hn l us b r⟩
  | .ref i, u, b, h => by
    simp only [frzD] at b ⊢
    split at b
    · rename_i hi
      rw [if_pos hi]
      exact Rp.trim hn (.ref i) u (by simp only [bdD, decide_eq_true_eq]; exact hi) h
    · rename_i hi
      rw [if_neg hi]
      split at b
      · rename_i l hc
        obtain ⟨a, e, rfl⟩ := h
        obtain ⟨us, h1, h2⟩ := k.cell i _ a hc e
        refine ⟨a, us, rfl, ⟨h1, fun z => ?_, k.apart a (List.mem_of_getElem? e)⟩, RpL.trim hn l us b h2⟩
        obtain ⟨j, hj⟩ := List.getElem?_of_mem z
        have hj' : (W.as.take n)[j]? = some a := hj
        rw [List.getElem?_take] at hj'
        split at hj'
        · rename_i hjn
          have := (List.getElem?_inj (List.getElem?_eq_some_iff.mp hj').1 k.nd).mp (hj'.trans e.symm)
          omega
        · cases hj'
      · simp only [bdD, decide_eq_true_eq] at b
        exact absurd b hi
theorem RpL.frz {m : Mem} {n : Nat} (k : MemOk G W H m) (hn : n ≤ W.as.length) : ∀ (l : List D) (us : List V), bdL n (frzL m n l) = true → RpL G W H l us → RpL G (cutW W n) H (frzL m n l) us
  | [], us, b, h => h
  | d :: r, us, b, h => by
    obtain ⟨u, us', e, h1, h2⟩ := h
    simp only [frzL, bdL, Bool.and_eq_true] at b
    exact ⟨u, us', e, Rp.frz k hn d u b.1 h1, RpL.frz k hn r us' b.2 h2⟩
end
theorem rpk_vals {κ κ' : Type} {f : κ → κ'} : ∀ {l : List (κ × D)} {vs : List (κ' × V)}, RpK G W H f l vs → RpL G W H (l.map (·.2)) (vs.map (·.2))
  | _, _, .nil => (rfl : ([] : List V) = [])
  | _, _, .cons h t => ⟨_, _, rfl, h.2, rpk_vals t⟩
theorem CellOk.bd {n : Nat} (hn : n = W.as.length) {a : Addr} {c : Cell} (h : CellOk G W H a c) : bdC n c = true := by
  cases c with
  | lst l => obtain ⟨us, _, r⟩ := h; exact RpL.bd hn l us r
  | dk lk kvs => obtain ⟨us, _, r⟩ := h; exact RpL.bd hn _ _ (rpk_vals r)
  | dt lk kvs => obtain ⟨us, _, r⟩ := h; exact RpL.bd hn _ _ (rpk_vals r)
  | ins c0 fs => obtain ⟨dx, us, _, r⟩ := h; exact RpL.bd hn _ _ (rpk_vals r)
theorem rpk_cut {n : Nat} (hn : n ≤ W.as.length) {κ κ' : Type} {f : κ → κ'} : ∀ {l : List (κ × D)} {vs : List (κ' × V)}, bdL n (l.map (·.2)) = true → RpK G W H f l vs → RpK G (cutW W n) H f l vs
  | _, _, _, .nil => .nil
  | _, _, b, .cons h t => by
    simp only [List.map_cons, bdL, Bool.and_eq_true] at b
    exact .cons ⟨h.1, Rp.trim hn _ _ b.1 h.2⟩ (rpk_cut hn b.2 t)
theorem CellOk.trim {n : Nat} (hn : n ≤ W.as.length) {a : Addr} {c : Cell} (b : bdC n c = true) (h : CellOk G W H a c) : CellOk G (cutW W n) H a c := by
  cases c with
  | lst l => obtain ⟨us, q, r⟩ := h; exact ⟨us, q, RpL.trim hn l us b r⟩
  | dk lk kvs => obtain ⟨us, q, r⟩ := h; exact ⟨us, q, rpk_cut hn b r⟩
  | dt lk kvs => obtain ⟨us, q, r⟩ := h; exact ⟨us, q, rpk_cut hn b r⟩
  | ins c0 fs => obtain ⟨dx, us, q, r⟩ := h; exact ⟨dx, us, q, rpk_cut hn b r⟩
theorem MemOk.bd (k : MemOk G W H M) {j : Nat} {c : Cell} (h : M[j]? = some c) : bdC M.length c = true := by
  have hl : j < W.as.length := by rw [k.len]; exact (List.getElem?_eq_some_iff.mp h).1
  exact (k.cell j c _ h (List.getElem?_eq_getElem hl)).bd k.len.symm
theorem MemOk.trim {m : Mem} (k0 : MemOk G W H M) {W' : Wd} {H' : Hp} (k : MemOk G W' H' m) (hl : M.length ≤ m.length) (hb : ∀ (j : Nat) (c : Cell), j < M.length → m[j]? = some c → M[j]? = some c ∨ bdC M.length c = true) : MemOk G (cutW W' M.length) H' (m.take M.length) where
  len := by
    show (W'.as.take M.length).length = _
    rw [List.length_take, List.length_take, k.len]
  nd := k.nd.sublist (List.take_sublist ..)
  cell := fun i c a e1 e2 => by
    have e2' : (W'.as.take M.length)[i]? = some a := e2
    rw [List.getElem?_take] at e1 e2'
    split at e1
    · rename_i hi
      rw [if_pos hi] at e2'
      have hn : M.length ≤ W'.as.length := by rw [k.len]; exact hl
      refine (k.cell i c a e1 e2').trim hn ?_
      rcases hb i c hi e1 with z | z
      · exact k0.bd z
      · exact z
    · cases e1
  apart := fun a ha => k.apart a (mem_take ha)
  hid := k.hid
theorem Fut.trim {W' : Wd} {H' : Hp} (k0 : MemOk G W H M) (f : Fut W H W' H') : Fut W H (cutW W' M.length) H' := by
  refine ⟨⟨[], ?_, by simp⟩, f.hd, f.keep, f.lk⟩
  obtain ⟨nw, e, _⟩ := f.ext
  show W'.as.take M.length = _
  rw [e, ← k0.len, List.append_nil, List.take_left']
  rfl
theorem ref_gc (B : FS) (N : Nat) (ds : List D) (M : Mem) : Ref M (gcB B N ds M) (B (envStart N ds) M) := by
  intro G W H Q E m p
  refine ref_run B N ds M G W H Q E m ?_
  unfold gcB at p
  cases hr : runB B N ds M with
  | ex c fs m' => rw [hr] at p; exact p
  | no => rw [hr] at p; exact p
  | ok d m' =>
    rw [hr] at p
    simp only [gcR] at p
    split at p
    · rename_i hc
      refine fun W' H' f k u ru => p (cutW W' M.length) H' (Fut.trim m f) (MemOk.trim m k hc.1 hc.2.2) u ?_
      exact Rp.frz k (by rw [k.len]; exact hc.1) d u hc.2.1 ru
    · exact p
/-- the usual ends: cells ahead as they were, or one written -/
theorem cut_id {M junk : Mem} {d : D} (hd : bdD M.length d = true) : cutOk M (M ++ junk) d := ⟨by simp, hd, fun j c hj e => .inl (by rw [List.getElem?_append_left hj] at e; exact e)⟩
theorem cut_set {M junk : Mem} {d : D} {i : Nat} {c : Cell} (hd : bdD M.length d = true) (hc : bdC M.length c = true) : cutOk M (M.set i c ++ junk) d := ⟨by simp, hd, fun j c' hj e => by
  rw [List.getElem?_append_left (by simpa using hj)] at e
  by_cases hij : i = j
  · subst hij
    rw [List.getElem?_set_self hj] at e
    cases e
    exact .inr hc
  · rw [List.getElem?_set_ne hij] at e
    exact .inl e⟩
section
variable {P : Program} {w : World} {K : PySem.W.Frag} {mg : Str → Option Value} {base : Heap}
/-- THE RULE: a def's body by its model, the model by what is said of it -/
theorem fn_def {x qual : Str} {st : Stmt} {f : Addr} {fd : FuncData} {N ps : List Str} {k : Nat} {g : FD} {B : FS} {cl : Nat → Addr} (F : Fun K x qual st f fd) (S : FnScope N ps (defScope st))
    (hbody : ∀ (cdv : Value) (A : Around) (outer : List PySem.Env) (s : Shared) (H : Hp) (E : XK), Room k (A.deeper (envOfC qual (defScope st) s.heap.objs.size f cdv)) →
      PSs (cxOf CX0 P w K mg base N qual (defScope st) f cdv A outer s H E).nox (defBody st) (tS ⟨K, cl⟩ E B))
    (href : ∀ ds M, ds.length = ps.length → Ref M (g ds M) (B (envStart N.length ds) M)) : FnOk P w K mg base CX0 (k + 1) f fd ps (spOf ⟨K, cl⟩ ps.length g) := by
  refine F.ok S (fun vs H Q E ⟨W, M, ds, m, r, hl, _⟩ => by rw [r.len, hl]) fun cdv A outer s H vs Q E hr ⟨W, M, ds, m, r, hl, p⟩ => ?_
  exact ⟨_, hbody cdv A outer s H E hr, W, envStart N.length ds, M, ⟨m, envStart_ok r⟩, href ds M hl _ W H Q E m p⟩
end
end
end Fn

set_option Elab.async false
set_option linter.all false
set_option maxRecDepth 100000
set_option maxHeartbeats 1000000
/-! FnAll: the rules in the form that gen.py prints; keywords; sorted; the end. -/
namespace Fn
open PySem PySem.Spec PyProof.Rows L2
section
variable {X : Cx} {G : Gx} {cl : Nat → Addr} {E : XK} {W : Wd} {H : Hp} {M : Mem} {a b c : Expr} {fa fb fc : FE} {pos : Pos}
theorem huE {k : Nat} {A : Around} (hr : Room k A) : A.units + 64 < cLine := hr.units
theorem hu1E {k : Nat} {A : Around} (hr : Room k A) : A.units + 65 < cLine := by have := hr.un; omega
theorem sn_strL {x : Str} {l : List Nat} {j : Nat} (h : s2l x = l) : PE X (.Constant (.str x) j pos) (tE G E (mC (.str l))) := by subst h; exact sn_str
theorem sn_glob {x : Str} {v : V} {u : Value} {d : D} (hg : Gl X x) (hm : X.mg x = some u) (r : RelV v u) (hc : ∀ W H, Rp G W H d v) (hd : (x == ("__debug__" : Str)) = false := by decide) : PE X (.Name x pos) (tE G E (mC d)) :=
  pe_imp (pe_glob hg hm r hd) fun σ H Q ⟨W, env, M, s, p⟩ => p W H Fut.rfl' s.mem _ (hc W H)
section
variable {id T : String} {r : List V → Hp → VK → Prop} {o : List D → Mem → R D} {x : Str} {p : Pos} {e : Expr} {es : List Expr} {g : FA}
theorem sn_callB (hc : CallR X (.builtin id) r) (hs : Fn1 ⟨X.K, cl⟩ E r o) (hg : Gl X x) (hm : X.mg x = none) (hv : bootBuiltins x = some (.builtin id)) (ha : PA X (e :: es) (tA ⟨X.K, cl⟩ E g)) (hn : x ≠ "__name__" := by decide) (hdb : (x == ("__debug__" : Str)) = false := by decide)
    (he : starEach (e :: es) X.env = (false, eval e X.env) :: starEach es X.env := by rfl) (hpl : (backTo pos (starEach es X.env)).any (·.1) = false := by rfl) : PE X (.Call (.Name x p) (e :: es) [] pos) (tE ⟨X.K, cl⟩ E (mCall o g)) :=
  pe_imp (pe_callB hc hg hm hv ha hn hdb he hpl) (tE_call hs)
theorem sn_callTy (hc : CallR X (.type T) r) (hs : Fn1 ⟨X.K, cl⟩ E r o) (hg : Gl X x) (hm : X.mg x = none) (hv : bootBuiltins x = some (.type T)) (ha : PA X (e :: es) (tA ⟨X.K, cl⟩ E g)) (hn : x ≠ "__name__" := by decide) (hdb : (x == ("__debug__" : Str)) = false := by decide)
    (he : starEach (e :: es) X.env = (false, eval e X.env) :: starEach es X.env := by rfl) (hpl : (backTo pos (starEach es X.env)).any (·.1) = false := by rfl) : PE X (.Call (.Name x p) (e :: es) [] pos) (tE ⟨X.K, cl⟩ E (mCall o g)) :=
  pe_imp (pe_callTy hc hg hm hv ha hn hdb he hpl) (tE_call hs)
end
section
variable {id T : String} {r : V → List V → Hp → VK → Prop} {o : D → List D → Mem → R D} {name : Str} {apos cpos : Pos} {rc e : Expr} {es : List Expr} {f : FE} {g : FA}
theorem sn_meth (pa : PlainAttrs T) (slot : Slot T name id) (hty : typeOf (.builtin id) = pure (.type "method_descriptor")) (hm : MtR X id r) (hs : Mt1 ⟨X.K, cl⟩ E r o) (ho : PE X rc (tE ⟨X.K, cl⟩ E f)) (ha : PA X (e :: es) (tA ⟨X.K, cl⟩ E g))
    (hbase : attributeBase rc name X.env (eval rc X.env) = eval rc X.env := by rfl)
    (hfew : ((backTo cpos (starEach (e :: es) X.env)).all (fun x => !x.1) && (backToKw cpos (keywordEach [] X.env)).all (fun x => x.1.isSome)
      && decide ((e :: es).length + ([] : List Keyword).length + (if ([] : List Keyword).isEmpty then 0 else 1) < 30)) = true := by rfl)
    (hline : (apos.endLine == cpos.line) = true := by rfl) (hs1 : starEach (e :: es) X.env = (false, eval e X.env) :: starEach es X.env := by rfl) (hplain : (backTo cpos (starEach es X.env)).any (·.1) = false := by rfl) :
    PE X (.Call (.Attribute rc name apos) (e :: es) [] cpos) (tE ⟨X.K, cl⟩ E (mMeth T o f g)) := pe_imp (pe_bm pa slot hty hm ho ha hbase hfew hline hs1 hplain) (tE_meth hs)
theorem sn_meth0 (pa : PlainAttrs T) (slot : Slot T name id) (hty : typeOf (.builtin id) = pure (.type "method_descriptor")) (hm : MtR X id r) (hs : Mt1 ⟨X.K, cl⟩ E r o) (ho : PE X rc (tE ⟨X.K, cl⟩ E f))
    (hbase : attributeBase rc name X.env (eval rc X.env) = eval rc X.env := by rfl) (hline : (apos.endLine == cpos.line) = true := by rfl) :
    PE X (.Call (.Attribute rc name apos) [] [] cpos) (tE ⟨X.K, cl⟩ E (mMeth T o f aNil)) := pe_imp (pe_bm0 pa slot hty hm ho hbase hline) (tE_meth0 hs)
end
/-! ### comparisons as tests -/
theorem test_of {f : FE} {t : TE} (h : ∀ σ H Q, tE G E f σ H Q → t σ H Q) (σ : L2.St) (H : Hp) (Q : Bool → Hp → Prop) (q : tT G E (bOf f) σ H Q) : tTest t σ H Q := by
  obtain ⟨W, env, M, s, p⟩ := q
  refine h σ H _ (tE.bind s p fun d m W1 H1 u f1 s1 r1 p1 => ?_)
  cases d with
  | bl k => exact ⟨k, r1, p1.here s1.mem⟩
  | _ => exact p1.elim
theorem st_cmp {op : CmpOp} {r : R2} {o : D → D → Mem → R D} (ho : OpR X (compareOp op) r) (hs : Op2 G E r o) (hm : behindInMarks op b = false) (ha : PE X a (tE G E fa)) (hb : PE X b (tE G E fb)) : PT X (.Compare a [op] [b] pos) (tT G E (bOf (mOp o fa fb))) :=
  pt_imp (pt_cmpR ho ha hb hm) (test_of (tE_op hs))
theorem isN_reads {neg : Bool} (σ : L2.St) (H : Hp) (Q : VK) (h : tE G E (mUn (oIsN neg) fa) σ H Q) : tOp (fun x y H Q => y = .non ∧ Q (.bl (if neg = true then !decide (x = .non) else decide (x = .non))) H) (tE G E fa) (tC .non) σ H Q := by
  obtain ⟨W, env, M, s, p⟩ := h
  refine tE.bind s p fun d m W1 H1 u f1 s1 r1 p1 => ?_
  refine ⟨rfl, ?_⟩
  cases d with
  | non => cases r1; cases neg <;> exact p1.here s1.mem _ rfl
  | bl b => cases r1; cases neg <;> exact p1.here s1.mem _ rfl
  | int b => cases r1; cases neg <;> exact p1.here s1.mem _ rfl
  | str b => cases r1; cases neg <;> exact p1.here s1.mem _ rfl
  | tup l => obtain ⟨a, us, e1, _⟩ := r1; subst e1; cases neg <;> exact p1.here s1.mem _ rfl
  | lst l => obtain ⟨a, us, e1, _⟩ := r1; subst e1; cases neg <;> exact p1.here s1.mem _ rfl
  | fz l => obtain ⟨a, us, e1, _⟩ := r1; subst e1; cases neg <;> exact p1.here s1.mem _ rfl
  | ref l => obtain ⟨a, us, e1⟩ := r1; subst e1; cases neg <;> exact p1.here s1.mem _ rfl
theorem st_isN {i pos2} (ha : PE X a (tE G E fa)) : PT X (.Compare a [.Is] [.Constant .none i pos2] pos) (tT G E (bOf (mUn (oIsN false) fa))) := pt_imp (pt_cmpR op_isN ha pe_non (nomark _)) (test_of fun σ H Q h => isN_reads (neg := false) σ H Q h)
theorem st_notN {i pos2} (ha : PE X a (tE G E fa)) : PT X (.Compare a [.IsNot] [.Constant .none i pos2] pos) (tT G E (bOf (mUn (oIsN true) fa))) := pt_imp (pt_cmpR op_notN ha pe_non (nomark _)) (test_of fun σ H Q h => isN_reads (neg := true) σ H Q h)
/-! ### keywords -/
theorem pk_imp {kws : List Keyword} {t t' : TA} (h : PK X kws t) (i : ∀ σ H Q, t' σ H Q → t σ H Q) : PK X kws t' := ⟨fun pos pins s σ H Q I q => h.run pos pins s σ H Q I (i σ H Q q)⟩
theorem sk_nil : PK X [] (tA G E aNil) := pk_imp pk_nil fun σ H Q ⟨W, env, M, s, p⟩ => p.here s.mem _ rfl
theorem sk_cons {kws : List Keyword} {g : FA} {nm : Option Str} {kpos : Pos} (ha : PE X a (tE G E fa)) (hr : PK X kws (tA G E g)) : PK X (⟨nm, a, kpos⟩ :: kws) (tA G E (aCons fa g)) := pk_imp (pk_cons ha hr) fun σ H Q ⟨W, env, M, s, p⟩ => by
  refine tE.bind s p fun d m W1 H1 u f1 s1 r1 p1 => ?_
  refine tA.bind s1 p1 fun ds m2 W2 H2 us f2 s2 r2 p2 => ?_
  exact p2.here s2.mem _ ⟨u, us, rfl, s1.mem.rp f2 r1, r2⟩
/-- the parameters from the positional ones and the keywords' values: pi over any values -/
structure Perm2 where
  on : {α : Type} → List α → List α → List α
def piApp : Perm2 := ⟨fun ds zs => ds ++ zs⟩
structure KwB (K : PySem.W.Frag) (fd : FuncData) (ps : List Str) (n : Nat) (ks : List Str) (π : Perm2) (dd : List D) (dvs : List V) : Prop where
  kb : ∃ (g : List Value → List Value → List Value) (gV : List V → List V → List V), KBn K fd ps n ks g gV ∧ ∀ (G : Gx) (W : Wd) (H : Hp) (ds zs : List D) (vs ws : List V), RpL G W H ds vs → RpL G W H zs ws → RpL G W H (π.on ds (zs ++ dd)) (gV vs ws)
def mFunKw (n m np : Nat) (π : Perm2) (dd : List D) (g : FD) (fa fk : FA) : FE := fun env M => (fa env M).bind fun ds m1 => (fk env m1).bind fun zs m2 => if ds.length = n ∧ zs.length = m ∧ (π.on ds (zs ++ dd)).length = np then g (π.on ds (zs ++ dd)) m2 else .no
section
variable {CX : CXT} {k n np nk : Nat} {f : Addr} {fd : FuncData} {ps ks : List Str} {g : FD} {dvs : List V} {dd : List D} {π : Perm2} {x : Str} {p : Pos} {e : Expr} {es : List Expr} {kws : List Keyword} {ga gk : FA}
theorem pe_callN0 {sp : Sp} {tk : TA} {gg : List Value → List Value → List Value} {gV : List V → List V → List V} (F : FnOk X.prog X.w X.K X.mg X.base CX k f fd ps sp) (hr : Room k X.A) (hg : Gl X x) (hm : X.mg x = some (.ref f)) (hk : PySem.W.keepIn X.K (.ref f) = true) (hb : KBn X.K fd ps 0 ks gg gV) (hx : Passes CX X E)
    (hkw : PK X kws tk) (hall : (backToKw pos (keywordEach kws X.env)).all (·.1.isSome) = true := by rfl) (hks : (backToKw pos (keywordEach kws X.env)).filterMap (·.1) = ks := by rfl)
    (hdb : (x == ("__debug__" : Str)) = false := by decide)
    (hpl : ((backTo pos (starEach [] X.env)).any (·.1) || (backToKw pos (keywordEach kws X.env)).any (·.1.isNone)) = false := by rfl) :
    PE X (.Call (.Name x p) [] kws pos) (tCallN 0 ks.length sp gV E tNil tk) := by
  refine ⟨fun pins s σ H Q I h => ?_⟩
  refine wpAny_Call_Name_kw (ld_glob I hg hm ?_ hdb)
  refine PySem.W.callWith_KW0 (h₀ := X.base) I.ok.mod.kin hk hall ?_ hpl
  refine thn (hkw.run pos pins s σ H _ I h) fun ws s2 ⟨zs, H2, I2, rz, l1, l2, q2⟩ => ⟨I2.kIn, ?_⟩
  rw [hks]
  exact run_fnN (us := []) (vs := []) F hr hb hx I2 .nil rz rfl l2 q2
theorem sn_callKw0 (F : FnOk X.prog X.w X.K X.mg X.base CX k f fd ps (spOf ⟨X.K, cl⟩ np g)) (hr : Room k X.A) (hg : Gl X x) (hm : X.mg x = some (.ref f)) (hk : PySem.W.keepIn X.K (.ref f) = true) (hb : KwB X.K fd ps 0 ks π dd dvs) (hx : Passes CX X E)
    (hkw : PK X kws (tA ⟨X.K, cl⟩ E gk)) (hall : (backToKw pos (keywordEach kws X.env)).all (·.1.isSome) = true := by rfl) (hks : (backToKw pos (keywordEach kws X.env)).filterMap (·.1) = ks := by rfl)
    (hdb : (x == ("__debug__" : Str)) = false := by decide)
    (hpl : ((backTo pos (starEach [] X.env)).any (·.1) || (backToKw pos (keywordEach kws X.env)).any (·.1.isNone)) = false := by rfl) (hkn : ks.length = nk := by rfl) :
    PE X (.Call (.Name x p) [] kws pos) (tE ⟨X.K, cl⟩ E (mFunKw 0 nk np π dd g aNil gk)) := by
  subst hkn
  obtain ⟨gg, gV, hb1, hb2⟩ := hb.kb
  refine pe_imp (pe_callN0 F hr hg hm hk hb1 hx hkw hall hks hdb hpl) fun σ H Q ⟨W, env, M, s, p⟩ => ?_
  have p' : PR ⟨X.K, cl⟩ W H (PV ⟨X.K, cl⟩ Q) E ((gk env M).bind fun zs m2 => if 0 = 0 ∧ zs.length = ks.length ∧ (π.on [] (zs ++ dd)).length = np then g (π.on [] (zs ++ dd)) m2 else .no) := p
  show tA ⟨X.K, cl⟩ E gk σ H _
  refine tA.bind s p' fun zs m2 W2 H2 us f2 s2 r2 p2 => ?_
  split at p2
  · rename_i hl
    exact ⟨rfl, by rw [r2.len, hl.2.1], W2, m2, _, s2.mem, hb2 ⟨X.K, cl⟩ W2 H2 [] zs [] us (rfl : ([] : List V) = []) r2, hl.2.2, p2⟩
  · exact p2.elim
theorem sn_callKw (F : FnOk X.prog X.w X.K X.mg X.base CX k f fd ps (spOf ⟨X.K, cl⟩ np g)) (hr : Room k X.A) (hg : Gl X x) (hm : X.mg x = some (.ref f)) (hk : PySem.W.keepIn X.K (.ref f) = true) (hb : KwB X.K fd ps n ks π dd dvs) (hx : Passes CX X E)
    (ha : PA X (e :: es) (tA ⟨X.K, cl⟩ E ga)) (hkw : PK X kws (tA ⟨X.K, cl⟩ E gk)) (hall : (backToKw pos (keywordEach kws X.env)).all (·.1.isSome) = true := by rfl) (hks : (backToKw pos (keywordEach kws X.env)).filterMap (·.1) = ks := by rfl)
    (hdb : (x == ("__debug__" : Str)) = false := by decide) (he : starEach (e :: es) X.env = (false, eval e X.env) :: starEach es X.env := by rfl)
    (hpl : ((backTo pos (starEach (e :: es) X.env)).any (·.1) || (backToKw pos (keywordEach kws X.env)).any (·.1.isNone)) = false := by rfl) (hkn : ks.length = nk := by rfl) :
    PE X (.Call (.Name x p) (e :: es) kws pos) (tE ⟨X.K, cl⟩ E (mFunKw n nk np π dd g ga gk)) := by
  subst hkn
  obtain ⟨gg, gV, hb1, hb2⟩ := hb.kb
  refine pe_imp (pe_callN F hr hg hm hk hb1 hx ha hkw hall hks hdb he hpl) fun σ H Q ⟨W, env, M, s, p⟩ => ?_
  refine tA.bind s p fun ds m1 W1 H1 vs f1 s1 r1 p1 => ?_
  refine tA.bind s1 p1 fun zs m2 W2 H2 us f2 s2 r2 p2 => ?_
  split at p2
  · rename_i hl
    exact ⟨by rw [r1.len, hl.1], by rw [r2.len, hl.2.1], W2, m2, _, s2.mem, hb2 _ _ _ _ _ _ _ (s1.mem.rpL f2 r1) r2, hl.2.2, p2⟩
  · exact p2.elim
end
/-! ### the end -/
theorem law_end {K : PySem.W.Frag} {cl : Nat → Addr} {g : FD} (h : ∀ ns : List Int, ns.length ≤ 63 → ∃ m, g [.fz (ns.map .int)] [] = .ok (.bl true) m) {H : Hp} {a : Addr} {ns : List Int} (hl : ns.length ≤ 63) (ho : Only H) (hS : SqL K H a (ns.map V.int)) :
    spOf ⟨K, cl⟩ 1 g [.ref a] H (fun v _ => v = .bl true) fun _ _ _ => False := by
  obtain ⟨m, e⟩ := h ns hl
  have hints : ∀ ns : List Int, RpL ⟨K, cl⟩ ⟨[], []⟩ H (ns.map .int) (ns.map V.int) := fun ns => by
    induction ns with
    | nil => exact (rfl : ([] : List V) = [])
    | cons n r ih => exact ⟨_, _, rfl, rfl, ih⟩
  refine ⟨⟨[], []⟩, [], [.fz (ns.map .int)], ⟨rfl, List.nodup_nil, fun i c a e => by simp at e, by simp, by simp⟩, ⟨_, [], rfl, ⟨a, _, rfl, ?_, hints ns⟩, rfl⟩, rfl, ?_⟩
  · rcases hS with (h1 | ⟨o, h1⟩) | h1
    · rcases ho a with z | ⟨o, xs, z⟩
      · rw [h1] at z; cases z
      · rw [h1] at z; cases z
    · exact .inl ⟨o, h1⟩
    · exact .inr h1
  · rw [e]
    exact fun W' H' f m' u hu => hu
end
end Fn

set_option Elab.async false
set_option linter.all false
set_option maxRecDepth 100000
set_option maxHeartbeats 1000000
/-! FnData: sorted, count over data; three names stored at once. -/
namespace Fn
open PySem PySem.Spec PyProof.Rows L2
section
variable {X : Cx} {G : Gx} {cl : Nat → Addr} {E : XK} {W : Wd} {H : Hp} {M : Mem} {a b c : Expr} {fa fb fc : FE} {pos : Pos}
/-! ### sorted -/
def encD (d : D) : PyData := (pyD d).getD .none
def leD (a b : D) : Bool := PySem.W.dataLe false encD a b
def sortD (l : List D) : List D := l.mergeSort leD
def isTupD : D → Bool
  | .tup (_ :: _) => true
  | _ => false
def isOneD : D → Bool
  | .non => false
  | .tup _ => false
  | .ref _ => false
  | _ => true
/-- may these be sorted: all alike data, tuples with an item or no tuples -/
def sortOk (l : List D) : Prop := (∀ d ∈ l, (pyD d).isSome = true ∧ (encD d).depth ≤ 60) ∧ (∀ d ∈ l, ∀ d' ∈ l, PySem.W.alike (encD d) (encD d') = true) ∧ ((∀ d ∈ l, isTupD d = true) ∨ ∀ d ∈ l, isOneD d = true)
open Classical in
noncomputable def oSorted (c : Bool) : List D → Mem → R D
  | [d], M => match lstOf M d with
    | some l => if sortOk l then mkL c (sortD l) M else .no
    | none => .no
  | _, _ => .no
theorem eachIs_rp {h : Heap} : ∀ {ds : List D} {us : List V} {vs : List Value}, RpL G W H ds us → Vals us vs → PySem.W.EachIs (fun v d => ∃ u, Rp G W H d u ∧ RelV u v) vs ds
  | [], us, vs, r, k => by
    have : us = [] := r
    subst this
    cases k
    exact .nil
  | d :: r, us, vs, h1, k => by
    obtain ⟨u, us', e, h2, h3⟩ := h1
    subst e
    cases k with
    | cons k1 k2 => exact .cons ⟨u, h2, k1⟩ (eachIs_rp (h := h) h3 k2)
theorem eachIs_back : ∀ {ds : List D} {vs : List Value}, PySem.W.EachIs (fun v d => ∃ u, Rp G W H d u ∧ RelV u v) vs ds → ∃ us, RpL G W H ds us ∧ Vals us vs
  | _, _, .nil => ⟨[], (rfl : ([] : List V) = []), .nil⟩
  | _, _, .cons h t => by
    obtain ⟨u, h1, h2⟩ := h
    obtain ⟨us, h3, h4⟩ := eachIs_back t
    exact ⟨u :: us, ⟨u, us, rfl, h1, h3⟩, .cons h2 h4⟩
theorem eachIs_mono {α β : Type} {R R' : α → β → Prop} : ∀ {as : List α} {bs : List β}, PySem.W.EachIs R as bs → (∀ a b, b ∈ bs → R a b → R' a b) → PySem.W.EachIs R' as bs
  | _, _, .nil, _ => .nil
  | _, _, .cons h t, k => .cons (k _ _ (List.mem_cons_self ..) h) (eachIs_mono t fun a b hb => k a b (List.mem_cons_of_mem _ hb))
/-- sorted(xs) -/
def rSortD (G : Gx) : List V → Hp → VK → Prop := fun vs H Q => ∃ (W : Wd) (a : Addr) (us : List V) (ds : List D), vs = [V.ref a] ∧ SqL G.K H a us ∧ RpL G W H ds us ∧ sortOk ds ∧ ∀ us' p, RpL G W H (sortD ds) us' → H p = none → Q (.ref p) (upd H p (.lst us'))
theorem cr_sortedD (hu : X.A.units + 64 < cLine) : CallR X (.builtin "sorted") (rSortD ⟨X.K, cl⟩) := by
  intro pins s σ H vs us Q I r h
  obtain ⟨W, a, vs', ds, rfl, hs, hr, hk, q⟩ := h
  obtain ⟨its, rv, hl, hz⟩ := I.list hs
  rw [Vals.ref1 r]
  have e := eachIs_rp (h := s.heap) hr rv
  have er : PySem.W.EachIs (fun v d => ∃ as, Reads s.heap v (encD d) as) its ds := eachIs_mono e fun v d hd ⟨u, h1, h2⟩ => by
    obtain ⟨hp, _⟩ := hk.1 d hd
    cases hpd : pyD d with
    | none => rw [hpd] at hp; cases hp
    | some p =>
      have : encD d = p := by unfold encD; rw [hpd]; rfl
      rw [this]
      exact Dp.reads I p u v (pyD_ok h1 hpd) h2
  have hlen : its.length = ds.length := by rw [← rv.length, hr.len]
  have hL : ds.length ≤ sizeLine := by rw [← hr.len]; exact hz
  refine PySem.W.sorted_data hl.isList e er (fun p hp p' hp' => ?_) ?_ hL (fun d hd => ?_) fun out ho eo => ?_
  · obtain ⟨d, hd, rfl⟩ := List.mem_map.mp hp
    obtain ⟨d', hd', rfl⟩ := List.mem_map.mp hp'
    exact hk.2.1 d hd d' hd'
  · rcases hk.2.2 with z | z
    · refine .inl fun p hp => ?_
      obtain ⟨d, hd, rfl⟩ := List.mem_map.mp hp
      have h1 := z d hd
      have h2 := (hk.1 d hd).1
      cases d with
      | tup l =>
        cases l with
        | nil => cases h1
        | cons x r =>
          unfold encD
          cases hq : pyD (.tup (x :: r)) with
          | none => rw [hq] at h2; cases h2
          | some p =>
            simp only [pyD] at hq
            cases hq2 : pyL (x :: r) with
            | none => rw [hq2] at hq; cases hq
            | some ps =>
              rw [hq2] at hq; cases hq
              simp only [pyL] at hq2
              split at hq2
              · cases hq2; exact ⟨_, _, rfl⟩
              · cases hq2
      | _ => cases h1
    · refine .inr fun p hp => ?_
      obtain ⟨d, hd, rfl⟩ := List.mem_map.mp hp
      have h1 := z d hd
      have h2 := (hk.1 d hd).1
      cases d with
      | non => cases h1
      | tup l => cases h1
      | ref l => cases h1
      | bl b => exact ⟨(by intro z; cases z), (by intro xs z; cases z)⟩
      | int b => exact ⟨(by intro z; cases z), (by intro xs z; cases z)⟩
      | str b => exact ⟨(by intro z; cases z), (by intro xs z; cases z)⟩
      | lst l =>
        unfold encD
        simp only [pyD] at h2 ⊢
        cases hq2 : pyL l with
        | none => rw [hq2] at h2; cases h2
        | some ps => exact ⟨(by intro z; cases z), (by intro xs z; cases z)⟩
      | fz l =>
        unfold encD
        simp only [pyD] at h2 ⊢
        cases hq2 : pyL l with
        | none => rw [hq2] at h2; cases h2
        | some ps => exact ⟨(by intro z; cases z), (by intro xs z; cases z)⟩
  · have := (hk.1 d hd).2
    omega
  · obtain ⟨us', h1, h2⟩ := eachIs_back eo
    obtain ⟨ep, he'⟩ := PyProof.Rows.sortedAll_at s.heap its out.toArray
    have hlen' : us'.length ≤ sizeLine := by rw [h2.length, ho]; exact hL
    exact ⟨.ref _, upd H (s.heap.objs.size + 1) (.lst us'), I.laid (t' := s.toks) (fun _ _ => PyProof.Rows.sortedAll_old) (Nat.le_succ _) ⟨hlen', out, ep, h2, he'⟩, rfl, q us' _ h1 (I.hok.fresh (Nat.le_succ _))⟩
theorem fn_sorted {c : Bool} : Fn1 G E (rSortD G) (oSorted c) := fun W H M ds us Q m r p => by
  unfold oSorted at p
  split at p
  · obtain ⟨u, e1, r1⟩ := rp_one r
    subst e1
    split at p
    · rename_i l e1
      split at p
      · rename_i hk
        obtain ⟨a1, us, h1, h2, h3⟩ := lstOf_ok m r1 e1
        subst h1
        exact ⟨W, a1, us, l, rfl, h2, h3, hk, fun us' p' hr hp => mkL_new m p hr p' hp⟩
      · exact p.elim
    · exact p.elim
  · exact p.elim
theorem sortD_perm (l : List D) : (sortD l).Perm l := List.mergeSort_perm l leD
/-! ### three names at once -/
def mPar3 (i j l : Nat) (g : FA) : FS := fun env M => (g env M).bind fun ds m => match ds with
  | [d, d', d''] => .ok (.nx (((env.set i (some d)).set j (some d')).set l (some d''))) m
  | _ => .no
theorem ss_par3 {i j l : Nat} {x y z : Str} {g : FA} {px py pz pt : Pos} {kt k2 pt2} (hc : X.calm = true) (hN : X.N.Nodup) (hi : X.N[i]? = some x) (hj : X.N[j]? = some y) (hl : X.N[l]? = some z) (hij : i ≠ j) (hil : i ≠ l) (hjl : j ≠ l)
    (hx : X.env.scope.names.lookup x = some .local) (hy : X.env.scope.names.lookup y = some .local) (hz : X.env.scope.names.lookup z = some .local) (ha : PA X [a, b, c] (tA G E g))
    (hw : swappedStores [.Tuple [.Name x px, .Name y py, .Name z pz] kt pt] (.Tuple [a, b, c] k2 pt2) X.env = pure (some [x, y, z]))
    (hs : swapsWithSole [.Tuple [.Name x px, .Name y py, .Name z pz] kt pt] (.Tuple [a, b, c] k2 pt2) pos.line X.env = pure false := by rfl) :
    PS X (.Assign [.Tuple [.Name x px, .Name y py, .Name z pz] kt pt] (.Tuple [a, b, c] k2 pt2) pos) (tS G E (mPar3 i j l g)) := ps_imp (ps_par3 hc hN hi hj hl hij hil hjl hx hy hz ha hw hs) fun D σ H ⟨W, env, M, s, p⟩ => by
  refine tA.bind s p fun ds m W1 H1 us f1 s1 r1 p1 => ?_
  split at p1
  · obtain ⟨u, us', e1, r2, u', us2, e2, r3, u'', us3, e3, r4, r5⟩ := r1
    have : us3 = [] := r5
    subst this e3 e2 e1
    exact ⟨u, u', u'', rfl, p1.here s1.mem _ (((s1.env.set i r2).set j r3).set l r4)⟩
  · exact p1.elim
/-! ### x.count(e) of a tuple -/
def oCountT : D → D → Mem → R D
  | .tup l, d, M => match pyL l, pyD d with
    | some ps, some p => if min (PyData.depthAll ps) p.depth ≤ 60 then .ok (.int ((ps.countP fun y => PyData.eqv y p : Nat) : Int)) M else .no
    | _, _ => .no
  | _, _, _ => .no
end
end Fn

set_option Elab.async false
set_option linter.all false
set_option maxRecDepth 100000
set_option maxHeartbeats 4000000
/-! FnLaw: the helpers that the laws share: cells, flows, draws. -/
namespace Fn
open PySem PySem.Spec PyProof.Rows L2
/-! ### evaluation lemmas -/
section
variable {env : Env} {M : Mem}
theorem mVar_eq (i : Nat) : mVar i env M = match env[i]? with | some (some d) => .ok d M | _ => .no := rfl
theorem mC_eq (d : D) : mC d env M = .ok d M := rfl
theorem mOp_eq (o : D → D → Mem → R D) (fa fb : FE) : mOp o fa fb env M = (fa env M).bind fun a m => (fb env m).bind fun b m' => o a b m' := rfl
theorem mUn_eq (o : D → Mem → R D) (fa : FE) : mUn o fa env M = (fa env M).bind fun a m => o a m := rfl
theorem mSeq_eq (f g : FS) : mSeq f g env M = (f env M).bind fun fl m => match fl with | .nx env' => g env' m | fl => .ok fl m := rfl
theorem mSet_eq (i : Nat) (f : FE) : mSet i f env M = (f env M).bind fun d m => .ok (.nx (env.set i (some d))) m := rfl
theorem mRet_eq (f : FE) : mRet f env M = (f env M).bind fun d m => .ok (.rt d) m := rfl
theorem mExpr_eq (f : FE) : mExpr f env M = (f env M).bind fun _ m => .ok (.nx env) m := rfl
theorem mIfS_eq (c : FT) (f g : FS) : mIfS c f g env M = (c env M).bind fun b m => if b = true then f env m else g env m := rfl
theorem mPass_eq : mPass env M = .ok (.nx env) M := rfl
theorem mAsg_eq (f : FE) (g : FG) : mAsg f g env M = (f env M).bind fun d m => (g d env m).bind fun env' m' => .ok (.nx env') m' := rfl
theorem mCall_eq (o : List D → Mem → R D) (g : FA) : mCall o g env M = (g env M).bind o := rfl
theorem mFun_eq (n : Nat) (g : FD) (dd : List D) (fa : FA) : mFun n g dd fa env M = (fa env M).bind fun ds m => if (ds ++ dd).length = n then g (ds ++ dd) m else .no := rfl
theorem aNil_eq : aNil env M = .ok [] M := rfl
theorem aCons_eq (f : FE) (g : FA) : aCons f g env M = (f env M).bind fun d m => (g env m).bind fun ds m' => .ok (d :: ds) m' := rfl
theorem mTup_eq (g : FA) : mTup g env M = (g env M).bind fun ds m => if ds.length ≤ 16777216 then .ok (.tup ds) m else .no := rfl
theorem mLst_eq (c : Bool) (g : FA) : mLst c g env M = (g env M).bind fun ds m => if ds.length ≤ 16777216 then mkL c ds m else .no := rfl
theorem bOf_eq (f : FE) : bOf f env M = (f env M).bind fun d m => match d with | .bl b => .ok b m | _ => .no := rfl
theorem mkL_t (ds : List D) : mkL true ds M = .ok (.ref M.length) (M ++ [.lst ds]) := rfl
theorem mkL_f (ds : List D) : mkL false ds M = .ok (.lst ds) M := rfl
theorem mMeth_eq (T : String) (o : D → List D → Mem → R D) (f : FE) (g : FA) : mMeth T o f g env M = (f env M).bind fun a m => if tyOk T m a = true then (g env m).bind fun ds m' => o a ds m' else .no := rfl
theorem oIx_fz (l : List D) (i : Int) : oIx (.fz l) (.int i) M = match atI l i with | some d => .ok d M | none => .no := rfl
theorem oIx_lst (l : List D) (i : Int) : oIx (.lst l) (.int i) M = match atI l i with | some d => .ok d M | none => .no := rfl
theorem oIx_tup (l : List D) (i : Int) : oIx (.tup l) (.int i) M = match atI l i with | some d => .ok d M | none => .no := rfl
theorem oAdd_int (c : Bool) (i j : Int) : oAdd c (.int i) (.int j) M = .ok (.int (i + j)) M := rfl
theorem oSub_int (i j : Int) : oSub (.int i) (.int j) M = .ok (.int (i - j)) M := rfl
theorem oMul_int (c : Bool) (i j : Int) (h : mulOk i j = true) : oMul c (.int i) (.int j) M = .ok (.int (i * j)) M := by
  show (if mulOk i j = true then _ else _) = _
  rw [if_pos h]
theorem oMod_int (i j : Int) (h : 0 < j) : oMod (.int i) (.int j) M = .ok (.int (i % j)) M := by
  show (if decide (0 < j) = true then _ else _) = _
  rw [if_pos (decide_eq_true h)]
theorem oDiv_int (i j : Int) (h : divOk i j = true) : oDiv (.int i) (.int j) M = .ok (.int (i / j)) M := by
  show (if divOk i j = true then _ else _) = _
  rw [if_pos h]
theorem oLt_int (i j : Int) : oLt (.int i) (.int j) M = .ok (.bl (decide (i < j))) M := rfl
theorem oLe_int (i j : Int) : oLe (.int i) (.int j) M = .ok (.bl (decide (i ≤ j))) M := rfl
theorem oGt_int (i j : Int) : oGt (.int i) (.int j) M = .ok (.bl (decide (j < i))) M := rfl
theorem oGe_int (i j : Int) : oGe (.int i) (.int j) M = .ok (.bl (decide (j ≤ i))) M := rfl
theorem oLen_fz (l : List D) : oLen [.fz l] M = .ok (.int l.length) M := rfl
theorem oLen_lst (l : List D) : oLen [.lst l] M = .ok (.int l.length) M := rfl
theorem oLen_tup (l : List D) : oLen [.tup l] M = .ok (.int l.length) M := rfl
theorem oLen_str (l : List Nat) (h : l.length ≤ 16777216) : oLen [.str l] M = .ok (.int l.length) M := by
  show (if l.length ≤ 16777216 then _ else _) = _
  rw [if_pos h]
theorem mRetN_eq : mRetN env M = .ok (.rt .non) M := rfl
theorem mPar_eq (i j : Nat) (g : FA) : mPar i j g env M = (g env M).bind fun ds m => match ds with | [d, d'] => .ok (.nx ((env.set i (some d)).set j (some d'))) m | _ => .no := rfl
theorem mAug_eq (i : Nat) (o : D → D → Mem → R D) (f : FE) : mAug i o f env M = match env[i]? with | some (some x) => (f env M).bind fun d m => (o x d m).bind fun z m' => .ok (.nx (env.set i (some z))) m' | _ => .no := rfl
theorem tOf_eq (f : FE) : tOf f env M = (f env M).bind fun d m => match truD m d with | some b => .ok b m | none => .no := rfl
theorem tAndM_eq (f g : FT) : tAndM f g env M = (f env M).bind fun b m => if b = true then g env m else .ok false m := rfl
theorem tOrM_eq (f g : FT) : tOrM f g env M = (f env M).bind fun b m => if b = true then .ok true m else g env m := rfl
theorem tNotM_eq (f : FT) : tNotM f env M = (f env M).bind fun b m => .ok (!b) m := rfl
theorem tsYes_eq : tsYes env M = .ok true M := rfl
theorem mFunKw_eq (n m np : Nat) (π : Perm2) (dd : List D) (g : FD) (fa fk : FA) : mFunKw n m np π dd g fa fk env M = (fa env M).bind fun ds m1 => (fk env m1).bind fun zs m2 => if ds.length = n ∧ zs.length = m ∧ (π.on ds (zs ++ dd)).length = np then g (π.on ds (zs ++ dd)) m2 else .no := rfl
theorem piApp_on {α : Type} (a b : List α) : piApp.on a b = a ++ b := rfl
theorem mAnd_eq (f g : FE) : mAnd f g env M = (f env M).bind fun d m => match d with | .bl true => g env m | .bl false => .ok (.bl false) m | _ => .no := rfl
theorem mOr_eq (f g : FE) : mOr f g env M = (f env M).bind fun d m => match d with | .bl true => .ok (.bl true) m | .bl false => g env m | _ => .no := rfl
theorem mNot_eq (f : FE) : mNot f env M = (f env M).bind fun d m => match d with | .bl b => .ok (.bl (!b)) m | _ => .no := rfl
theorem mIf_eq (t : FT) (f g : FE) : mIf t f g env M = (t env M).bind fun b m => if b = true then f env m else g env m := rfl
theorem mChain_eq (o o' : D → D → Mem → R D) (fa fb fc : FE) : mChain o o' fa fb fc env M = (fa env M).bind fun x m => (fb env m).bind fun y m => (o x y m).bind fun z m => match z with | .bl true => (fc env m).bind fun w m => o' y w m | .bl false => .ok (.bl false) m | _ => .no := rfl
theorem mSl_eq (c : Bool) (f : FE) (lo hi : FO) : mSl c f lo hi env M = (f env M).bind fun d m => (lo env m).bind fun l m1 => (hi env m1).bind fun h m2 => oSl c d l h m2 := rfl
theorem pNone_eq : pNone env M = .ok none M := rfl
theorem pSome_eq (f : FE) : pSome f env M = (f env M).bind fun d m => match d with | .int i => .ok (some i) m | _ => .no := rfl
theorem gN_eq (i : Nat) (d : D) : gN i d env M = .ok (env.set i (some d)) M := rfl
theorem gT_eq (n : Nat) (g : FGs) (d : D) : gT n g d env M = match d with | .tup l => if l.length = n then g l env M else .no | _ => .no := rfl
theorem gsNil_eq (ds : List D) : gsNil ds env M = match ds with | [] => .ok env M | _ => .no := rfl
theorem gsCons_eq (f : FG) (g : FGs) (ds : List D) : gsCons f g ds env M = match ds with | d :: r => (f d env M).bind fun env' m => g r env' m | [] => .no := rfl
theorem oMax_int (i j : Int) : oMax [.int i, .int j] M = .ok (.int (if j > i then j else i)) M := rfl
theorem oMin_int (i j : Int) : oMin [.int i, .int j] M = .ok (.int (if j < i then j else i)) M := rfl
theorem oInt_bl (b : Bool) : oInt [.bl b] M = .ok (.int (if b = true then 1 else 0)) M := rfl
theorem oInt_int (b : Int) : oInt [.int b] M = .ok (.int b) M := rfl
theorem oIsi_bl (b : Bool) (T : String) : oIsi T (.bl b) M = .ok (.bl (isTy "bool" T)) M := rfl
theorem oNeg_int (i : Int) : oNeg (.int i) M = .ok (.int (-i)) M := rfl
theorem oTuple_lst (l : List D) : oTuple [.lst l] M = .ok (.tup l) M := rfl
theorem oTuple_tup (l : List D) : oTuple [.tup l] M = .ok (.tup l) M := rfl
theorem iR1_eq (g : FA) : iR1 g env M = (g env M).bind fun ds m => match ds with | [.int j] => if rngOk j = true then .ok ⟨rngItems 0 j.toNat, fun _ => True⟩ m else .no | _ => .no := rfl
theorem iR2_eq (g : FA) : iR2 g env M = (g env M).bind fun ds m => match ds with | [.int i, .int j] => if rngOk i = true ∧ rngOk j = true then .ok ⟨rngItems i (j - i).toNat, fun _ => True⟩ m else .no | _ => .no := rfl
theorem iSq_eq (f : FE) : iSq f env M = (f env M).bind fun d m => match srcOf m d with | some s => .ok s m | none => .no := rfl
theorem iStrM_eq (f : FE) : iStrM f env M = (f env M).bind fun d m => match d with | .str x => .ok ⟨x.map fun c => .str [c], fun _ => True⟩ m | _ => .no := rfl
theorem srcOf_tup (l : List D) : srcOf M (.tup l) = some ⟨l, fun _ => True⟩ := rfl
theorem srcOf_lst (l : List D) : srcOf M (.lst l) = some ⟨l, fun _ => True⟩ := rfl
theorem srcOf_fz (l : List D) : srcOf M (.fz l) = some ⟨l, fun _ => True⟩ := rfl
end
theorem p64 : (2 : Int) ^ 64 = 18446744073709551616 := by decide +kernel
theorem mul_small {i j : Int} (h1 : -18446744073709551616 < j) (h2 : j < 18446744073709551616) : mulOk i j = true := by
  unfold mulOk
  rw [p64]
  simp only [Bool.or_eq_true, decide_eq_true_eq]
  exact Or.inl (Or.inr ⟨h1, h2⟩)
theorem mul_smallL {i j : Int} (h1 : -18446744073709551616 < i) (h2 : i < 18446744073709551616) : mulOk i j = true := by
  unfold mulOk
  rw [p64]
  simp only [Bool.or_eq_true, decide_eq_true_eq]
  exact Or.inl (Or.inl ⟨h1, h2⟩)
theorem oMul_r (c : Bool) (i j : Int) {M : Mem} (h1 : -18446744073709551616 < j) (h2 : j < 18446744073709551616) : oMul c (.int i) (.int j) M = .ok (.int (i * j)) M := oMul_int c i j (mul_small h1 h2)
theorem oMul_l (c : Bool) (i j : Int) {M : Mem} (h1 : -18446744073709551616 < i) (h2 : i < 18446744073709551616) : oMul c (.int i) (.int j) M = .ok (.int (i * j)) M := oMul_int c i j (mul_smallL h1 h2)
theorem i1 : -18446744073709551616 < (7919 : Int) := by omega
theorem i2 : (7919 : Int) < 18446744073709551616 := by omega
theorem i3 : -18446744073709551616 < (7 : Int) := by omega
theorem i4 : (7 : Int) < 18446744073709551616 := by omega
theorem i5 : (0 : Int) < 2147483629 := by omega
theorem i6 : -18446744073709551616 < (48271 : Int) := by omega
theorem i7 : (48271 : Int) < 18446744073709551616 := by omega
theorem i8 : (0 : Int) < 2147483647 := by omega
theorem i9 : -18446744073709551616 < (31 : Int) := by omega
theorem i10 : (31 : Int) < 18446744073709551616 := by omega
theorem i11 : -18446744073709551616 < (40692 : Int) := by omega
theorem i12 : (40692 : Int) < 18446744073709551616 := by omega
theorem i13 : -18446744073709551616 < (2 : Int) := by omega
theorem i14 : (2 : Int) < 18446744073709551616 := by omega
theorem i15 : (0 : Int) < 2147483587 := by omega
theorem i16 : (0 : Int) < 2147483579 := by omega
theorem i17 : (0 : Int) < 31 := by omega
theorem i18 : (31 : Int) < 1000000000000000000000000 := by omega
/-! ### cells -/
def intsD (ns : List Int) : List D := ns.map .int
def cellV (ns : List Int) (k : Nat) : Int :=
  if h : k < ns.length then ns[k] else
  if 0 < ns.length then (ns.getD (k * 7 % ns.length) 0 % 2147483629 * 48271 + k * 7919) % 2147483647 * 31 else ((k : Int) * 7919 + 5) % 2147483647 * 31
/-- the body of _law_cell -/
def cellB : FS := (mSeq (mIfS (bOf (mOp oLt (mVar 1) (mCall oLen (aCons (mVar 0) aNil)))) (mRet (mOp oIx (mVar 0) (mVar 1))) mPass) (mSeq (mSet 2 (mOp (oAdd false) (mOp (oMul false) (mVar 1) (mC (.int 7919))) (mC (.int 5)))) (mSeq (mIfS (bOf (mOp oGt (mCall oLen (aCons (mVar 0) aNil)) (mC (.int 0)))) (mSet 2 (mOp (oAdd false) (mOp (oMul false) (mOp oMod (mOp oIx (mVar 0) (mOp oMod (mOp (oMul false) (mVar 1) (mC (.int 7))) (mCall oLen (aCons (mVar 0) aNil)))) (mC (.int 2147483629))) (mC (.int 48271))) (mOp (oMul false) (mVar 1) (mC (.int 7919))))) mPass) (mRet (mOp (oMul false) (mOp oMod (mVar 2) (mC (.int 2147483647))) (mC (.int 31)))))))
theorem cell_run (ns : List Int) (k : Nat) (M : Mem) : cellB [some (.fz (intsD ns)), some (.int k), none] M = .ok (.rt (.int (cellV ns k))) M := by
  by_cases h : k < ns.length
  · have h' : decide ((k : Int) < (ns.length : Int)) = true := decide_eq_true (by omega)
    have hat : atI (ns.map D.int) (k : Int) = some (.int ns[k]) := atI_nat (by simp [h])
    simp -implicitDefEqProofs only [mSeq_eq, mIfS_eq, mSet_eq, mRet_eq, mRetN_eq, mExpr_eq, mPass_eq, mAsg_eq, mPar_eq, mAug_eq, bOf_eq, tOf_eq, tAndM_eq, tOrM_eq, tNotM_eq, tsYes_eq, mOp_eq, mUn_eq, mVar_eq, mC_eq, mCall_eq, mFun_eq, mFunKw_eq, mMeth_eq, mAnd_eq, mOr_eq, mNot_eq, mIf_eq, mChain_eq, mSl_eq, pNone_eq, pSome_eq, aCons_eq, aNil_eq, mTup_eq, mLst_eq, gN_eq, gT_eq, gsNil_eq, gsCons_eq, mkL_t, mkL_f, R.bind_ok, R.bind_no, R.nox_ok, List.getElem?_cons_zero, List.getElem?_cons_succ, List.set_cons_zero, List.set_cons_succ, List.length_cons, List.length_nil, List.append_nil, List.nil_append, List.cons_append, piApp_on, oLen_fz, oLen_lst, oLen_tup, oLt_int, oLe_int, oGt_int, oGe_int, oAdd_int, oSub_int, oIx_fz, oIx_lst, oIx_tup, oMax_int, oMin_int, oInt_bl, oInt_int, oIsi_bl, oNeg_int, oTuple_lst, oTuple_tup, iR1_eq, iR2_eq, iSq_eq, iStrM_eq, srcOf_tup, srcOf_lst, srcOf_fz, if_true, if_false, Bool.false_eq_true, Bool.true_eq_false, reduceIte, Nat.reduceAdd, Nat.reduceLeDiff, Nat.reduceEqDiff, decide_true, decide_false, and_self, and_true, true_and, cellB, intsD, List.length_map, h', hat]
    simp [cellV, h]
  · have h' : decide ((k : Int) < (ns.length : Int)) = false := decide_eq_false (by omega)
    by_cases h0 : 0 < ns.length
    · have h0' : decide ((0 : Int) < (ns.length : Int)) = true := decide_eq_true (by omega)
      have hk : ((k : Int) * 7) % (ns.length : Int) = ((k * 7 % ns.length : Nat) : Int) := by simp
      have hl : k * 7 % ns.length < ns.length := Nat.mod_lt _ h0
      have hat : atI (ns.map D.int) ((k * 7 % ns.length : Nat) : Int) = some (.int (ns.getD (k * 7 % ns.length) 0)) := atI_nat (by
        rw [List.getElem?_map, List.getElem?_eq_getElem hl]
        simp [List.getD, List.getElem?_eq_getElem hl])
      simp -implicitDefEqProofs only [mSeq_eq, mIfS_eq, mSet_eq, mRet_eq, mRetN_eq, mExpr_eq, mPass_eq, mAsg_eq, mPar_eq, mAug_eq, bOf_eq, tOf_eq, tAndM_eq, tOrM_eq, tNotM_eq, tsYes_eq, mOp_eq, mUn_eq, mVar_eq, mC_eq, mCall_eq, mFun_eq, mFunKw_eq, mMeth_eq, mAnd_eq, mOr_eq, mNot_eq, mIf_eq, mChain_eq, mSl_eq, pNone_eq, pSome_eq, aCons_eq, aNil_eq, mTup_eq, mLst_eq, gN_eq, gT_eq, gsNil_eq, gsCons_eq, mkL_t, mkL_f, R.bind_ok, R.bind_no, R.nox_ok, List.getElem?_cons_zero, List.getElem?_cons_succ, List.set_cons_zero, List.set_cons_succ, List.length_cons, List.length_nil, List.append_nil, List.nil_append, List.cons_append, piApp_on, oLen_fz, oLen_lst, oLen_tup, oLt_int, oLe_int, oGt_int, oGe_int, oAdd_int, oSub_int, oIx_fz, oIx_lst, oIx_tup, oMax_int, oMin_int, oInt_bl, oInt_int, oIsi_bl, oNeg_int, oTuple_lst, oTuple_tup, iR1_eq, iR2_eq, iSq_eq, iStrM_eq, srcOf_tup, srcOf_lst, srcOf_fz, if_true, if_false, Bool.false_eq_true, Bool.true_eq_false, reduceIte, Nat.reduceAdd, Nat.reduceLeDiff, Nat.reduceEqDiff, decide_true, decide_false, and_self, and_true, true_and, cellB, intsD, List.length_map, h', h0', oMul_r _ _ 7919 i1 i2, oMul_r _ _ 7 i3 i4, oMod_int _ (ns.length : Int) (by omega), hk, hat, oMod_int _ 2147483629 i5, oMul_r _ _ 48271 i6 i7, oMod_int _ 2147483647 i8, oMul_r _ _ 31 i9 i10]
      simp only [cellV, dif_neg h, if_pos h0]
    · have h0' : decide ((0 : Int) < (ns.length : Int)) = false := decide_eq_false (by omega)
      simp -implicitDefEqProofs only [mSeq_eq, mIfS_eq, mSet_eq, mRet_eq, mRetN_eq, mExpr_eq, mPass_eq, mAsg_eq, mPar_eq, mAug_eq, bOf_eq, tOf_eq, tAndM_eq, tOrM_eq, tNotM_eq, tsYes_eq, mOp_eq, mUn_eq, mVar_eq, mC_eq, mCall_eq, mFun_eq, mFunKw_eq, mMeth_eq, mAnd_eq, mOr_eq, mNot_eq, mIf_eq, mChain_eq, mSl_eq, pNone_eq, pSome_eq, aCons_eq, aNil_eq, mTup_eq, mLst_eq, gN_eq, gT_eq, gsNil_eq, gsCons_eq, mkL_t, mkL_f, R.bind_ok, R.bind_no, R.nox_ok, List.getElem?_cons_zero, List.getElem?_cons_succ, List.set_cons_zero, List.set_cons_succ, List.length_cons, List.length_nil, List.append_nil, List.nil_append, List.cons_append, piApp_on, oLen_fz, oLen_lst, oLen_tup, oLt_int, oLe_int, oGt_int, oGe_int, oAdd_int, oSub_int, oIx_fz, oIx_lst, oIx_tup, oMax_int, oMin_int, oInt_bl, oInt_int, oIsi_bl, oNeg_int, oTuple_lst, oTuple_tup, iR1_eq, iR2_eq, iSq_eq, iStrM_eq, srcOf_tup, srcOf_lst, srcOf_fz, if_true, if_false, Bool.false_eq_true, Bool.true_eq_false, reduceIte, Nat.reduceAdd, Nat.reduceLeDiff, Nat.reduceEqDiff, decide_true, decide_false, and_self, and_true, true_and, cellB, intsD, List.length_map, h', h0', oMul_r _ _ 7919 i1 i2, oMod_int _ 2147483647 i8, oMul_r _ _ 31 i9 i10]
      simp only [cellV, dif_neg h, if_neg h0]
/-! ### flows -/
structure Fl where
  own : Int
  cnt : Int
  seed : Int
def Fl.c (s : Fl) : Cell := .lst [.int s.own, .int s.cnt, .int s.seed]
/-- a flow that may be drawn of -/
def Fl.ok (s : Fl) : Prop := -9223372036854775808 < s.seed ∧ s.seed < 9223372036854775808
/-- the body of _law_flow, by the model of _law_cell -/
def flowB (g : FD) : FS := (mSeq (mSet 2 (mFun 2 g [] (aCons (mVar 0) (aCons (mVar 1) aNil)))) (mSeq (mSet 3 (mC (.int 0))) (mSeq (mIfS (bOf (mOp oGe (mVar 2) (mOp oPow (mC (.int 10)) (mC (.int 18))))) (mSet 3 (mVar 2)) mPass) (mRet (mLst true (aCons (mVar 3) (aCons (mC (.int 0)) (aCons (mOp (oAdd false) (mOp oMod (mVar 2) (mC (.int 2147483629))) (mOp (oMul false) (mC (.int 40692)) (mVar 1))) aNil))))))))
theorem pow_10_18 {M : Mem} : oPow (.int 10) (.int 18) M = .ok (.int 1000000000000000000) M := by
  have h : powOk 10 18 = true := by decide +kernel
  have e : (10 : Int) ^ (18 : Int).toNat = 1000000000000000000 := by decide +kernel
  simp only [oPow, oIC, h, if_true, e]
theorem flow_run (g : FD) (ns : List Int) (k : Nat) (M : Mem) (hk : k < 1000) (hg : g [.fz (intsD ns), .int k] M = .ok (.int (cellV ns k)) M) :
    ∃ s : Fl, s.ok ∧ flowB g [some (.fz (intsD ns)), some (.int k), none, none] M = .ok (.rt (.ref M.length)) (M ++ [s.c]) := by
  have h1 : 0 ≤ cellV ns k % 2147483629 := Int.emod_nonneg _ (by omega)
  have h2 : cellV ns k % 2147483629 < 2147483629 := Int.emod_lt_of_pos _ (by omega)
  by_cases h : 1000000000000000000 ≤ cellV ns k
  · refine ⟨⟨cellV ns k, 0, cellV ns k % 2147483629 + 40692 * k⟩, ⟨by show _ < _ + _; omega, by show _ + _ < _; omega⟩, ?_⟩
    simp -implicitDefEqProofs only [mSeq_eq, mIfS_eq, mSet_eq, mRet_eq, mRetN_eq, mExpr_eq, mPass_eq, mAsg_eq, mPar_eq, mAug_eq, bOf_eq, tOf_eq, tAndM_eq, tOrM_eq, tNotM_eq, tsYes_eq, mOp_eq, mUn_eq, mVar_eq, mC_eq, mCall_eq, mFun_eq, mFunKw_eq, mMeth_eq, mAnd_eq, mOr_eq, mNot_eq, mIf_eq, mChain_eq, mSl_eq, pNone_eq, pSome_eq, aCons_eq, aNil_eq, mTup_eq, mLst_eq, gN_eq, gT_eq, gsNil_eq, gsCons_eq, mkL_t, mkL_f, R.bind_ok, R.bind_no, R.nox_ok, List.getElem?_cons_zero, List.getElem?_cons_succ, List.set_cons_zero, List.set_cons_succ, List.length_cons, List.length_nil, List.append_nil, List.nil_append, List.cons_append, piApp_on, oLen_fz, oLen_lst, oLen_tup, oLt_int, oLe_int, oGt_int, oGe_int, oAdd_int, oSub_int, oIx_fz, oIx_lst, oIx_tup, oMax_int, oMin_int, oInt_bl, oInt_int, oIsi_bl, oNeg_int, oTuple_lst, oTuple_tup, iR1_eq, iR2_eq, iSq_eq, iStrM_eq, srcOf_tup, srcOf_lst, srcOf_fz, if_true, if_false, Bool.false_eq_true, Bool.true_eq_false, reduceIte, Nat.reduceAdd, Nat.reduceLeDiff, Nat.reduceEqDiff, decide_true, decide_false, and_self, and_true, true_and, flowB, hg, pow_10_18, decide_eq_true h, oMod_int _ 2147483629 i5, oMul_l _ 40692 _ i11 i12]
    rfl
  · refine ⟨⟨0, 0, cellV ns k % 2147483629 + 40692 * k⟩, ⟨by show _ < _ + _; omega, by show _ + _ < _; omega⟩, ?_⟩
    simp -implicitDefEqProofs only [mSeq_eq, mIfS_eq, mSet_eq, mRet_eq, mRetN_eq, mExpr_eq, mPass_eq, mAsg_eq, mPar_eq, mAug_eq, bOf_eq, tOf_eq, tAndM_eq, tOrM_eq, tNotM_eq, tsYes_eq, mOp_eq, mUn_eq, mVar_eq, mC_eq, mCall_eq, mFun_eq, mFunKw_eq, mMeth_eq, mAnd_eq, mOr_eq, mNot_eq, mIf_eq, mChain_eq, mSl_eq, pNone_eq, pSome_eq, aCons_eq, aNil_eq, mTup_eq, mLst_eq, gN_eq, gT_eq, gsNil_eq, gsCons_eq, mkL_t, mkL_f, R.bind_ok, R.bind_no, R.nox_ok, List.getElem?_cons_zero, List.getElem?_cons_succ, List.set_cons_zero, List.set_cons_succ, List.length_cons, List.length_nil, List.append_nil, List.nil_append, List.cons_append, piApp_on, oLen_fz, oLen_lst, oLen_tup, oLt_int, oLe_int, oGt_int, oGe_int, oAdd_int, oSub_int, oIx_fz, oIx_lst, oIx_tup, oMax_int, oMin_int, oInt_bl, oInt_int, oIsi_bl, oNeg_int, oTuple_lst, oTuple_tup, iR1_eq, iR2_eq, iSq_eq, iStrM_eq, srcOf_tup, srcOf_lst, srcOf_fz, if_true, if_false, Bool.false_eq_true, Bool.true_eq_false, reduceIte, Nat.reduceAdd, Nat.reduceLeDiff, Nat.reduceEqDiff, decide_true, decide_false, and_self, and_true, true_and, flowB, hg, pow_10_18, decide_eq_false h, oMod_int _ 2147483629 i5, oMul_l _ 40692 _ i11 i12]
    rfl
/-- the body of _law_draw -/
def drawB : FS := (mSeq (mIfS (bOf (mOp oGt (mOp oIx (mVar 0) (mC (.int 0))) (mC (.int 0)))) (mSeq (mSet 2 (mOp oMod (mOp oIx (mVar 0) (mC (.int 0))) (mVar 1))) (mSeq (mAsg (mOp oDiv (mOp oIx (mVar 0) (mC (.int 0))) (mVar 1)) (gIx (mVar 0) (mC (.int 0)))) (mRet (mVar 2)))) mPass) (mSeq (mAsg (mOp (oAdd false) (mOp oIx (mVar 0) (mC (.int 1))) (mC (.int 1))) (gIx (mVar 0) (mC (.int 1)))) (mSeq (mSet 3 (mOp oMod (mOp (oAdd false) (mOp (oAdd false) (mOp (oMul false) (mOp oIx (mVar 0) (mC (.int 2))) (mOp (oAdd false) (mC (.int 48271)) (mOp (oMul false) (mC (.int 2)) (mOp oIx (mVar 0) (mC (.int 1)))))) (mOp (oMul false) (mC (.int 7919)) (mOp oIx (mVar 0) (mC (.int 1))))) (mC (.int 1))) (mC (.int 2147483629)))) (mSeq (mSet 3 (mOp oMod (mOp (oMul false) (mVar 3) (mVar 3)) (mC (.int 2147483587)))) (mRet (mOp oMod (mOp oDiv (mOp oMod (mOp (oMul false) (mOp (oAdd false) (mVar 3) (mC (.int 5))) (mOp (oAdd false) (mVar 3) (mC (.int 40692)))) (mC (.int 2147483579))) (mC (.int 31))) (mVar 1)))))))
theorem oIx_ref {M : Mem} {i : Nat} {l : List D} (h : M[i]? = some (.lst l)) (k : Int) : oIx (.ref i) (.int k) M = match atI l k with | some d => .ok d M | none => .no := by
  simp only [oIx, seqOf, lstOf, h]
  all_goals rfl
theorem at0 {α : Type} (a b c : α) : atI [a, b, c] 0 = some a := rfl
theorem at1 {α : Type} (a b c : α) : atI [a, b, c] 1 = some b := rfl
theorem at2 {α : Type} (a b c : α) : atI [a, b, c] 2 = some c := rfl
theorem gIx_eq (fo fi : FE) (d : D) {env : Env} {M : Mem} : gIx fo fi d env M = (fo env M).bind fun o m => (fi env m).bind fun i m' => match o, i with
  | .ref j, .int k => match m'[j]? with
    | some (.lst l) => match ixN l.length k with
      | some n => .ok env (m'.set j (.lst (l.set n d)))
      | none => .no
    | _ => .no
  | _, _ => .no := rfl
theorem ix30 : ixN 3 0 = some 0 := rfl
theorem ix31 : ixN 3 1 = some 1 := rfl
theorem div_ok {many : Int} (h : 0 < many) (h2 : many < 1000000000000000000000000) (i : Int) : divOk i many = true := by
  unfold divOk
  simp only [Bool.and_eq_true, decide_eq_true_eq]
  refine ⟨h, ?_⟩
  have : many.natAbs < 2 ^ 80 := by
    have : (2 : Nat) ^ 80 = 1208925819614629174706176 := by decide +kernel
    omega
  exact Nat.lt_of_lt_of_le (PySem.Flt.log2_lt_of (by decide) this) (by decide)
theorem draw_run (s : Fl) (hs : s.ok) (i : Nat) (M : Mem) (many : Int) (h0 : 0 < many) (h1 : many < 1000000000000000000000000) (hM : M[i]? = some s.c) :
    ∃ (v : Int) (s' : Fl), 0 ≤ v ∧ v < many ∧ s'.ok ∧ drawB [some (.ref i), some (.int many), none, none] M = .ok (.rt (.int v)) (M.set i s'.c) := by
  have hi : i < M.length := (List.getElem?_eq_some_iff.mp hM).1
  have hM' : M[i]? = some (.lst [.int s.own, .int s.cnt, .int s.seed]) := hM
  by_cases h : 0 < s.own
  · refine ⟨s.own % many, ⟨s.own / many, s.cnt, s.seed⟩, Int.emod_nonneg _ (by omega), Int.emod_lt_of_pos _ h0, hs, ?_⟩
    simp -implicitDefEqProofs only [mSeq_eq, mIfS_eq, mSet_eq, mRet_eq, mRetN_eq, mExpr_eq, mPass_eq, mAsg_eq, mPar_eq, mAug_eq, bOf_eq, tOf_eq, tAndM_eq, tOrM_eq, tNotM_eq, tsYes_eq, mOp_eq, mUn_eq, mVar_eq, mC_eq, mCall_eq, mFun_eq, mFunKw_eq, mMeth_eq, mAnd_eq, mOr_eq, mNot_eq, mIf_eq, mChain_eq, mSl_eq, pNone_eq, pSome_eq, aCons_eq, aNil_eq, mTup_eq, mLst_eq, gN_eq, gT_eq, gsNil_eq, gsCons_eq, mkL_t, mkL_f, R.bind_ok, R.bind_no, R.nox_ok, List.getElem?_cons_zero, List.getElem?_cons_succ, List.set_cons_zero, List.set_cons_succ, List.length_cons, List.length_nil, List.append_nil, List.nil_append, List.cons_append, piApp_on, oLen_fz, oLen_lst, oLen_tup, oLt_int, oLe_int, oGt_int, oGe_int, oAdd_int, oSub_int, oIx_fz, oIx_lst, oIx_tup, oMax_int, oMin_int, oInt_bl, oInt_int, oIsi_bl, oNeg_int, oTuple_lst, oTuple_tup, iR1_eq, iR2_eq, iSq_eq, iStrM_eq, srcOf_tup, srcOf_lst, srcOf_fz, if_true, if_false, Bool.false_eq_true, Bool.true_eq_false, reduceIte, Nat.reduceAdd, Nat.reduceLeDiff, Nat.reduceEqDiff, decide_true, decide_false, and_self, and_true, true_and, drawB, oIx_ref hM', at0, decide_eq_true h, oMod_int _ many h0, oDiv_int _ many (div_ok h0 h1 _), gIx_eq, hM', ix30]
    rfl
  · have hset : (M.set i (.lst [.int s.own, .int (s.cnt + 1), .int s.seed]))[i]? = some (.lst [.int s.own, .int (s.cnt + 1), .int s.seed]) := List.getElem?_set_self hi
    let n1 : Int := (s.seed * (48271 + 2 * (s.cnt + 1)) + 7919 * (s.cnt + 1) + 1) % 2147483629
    let n2 : Int := n1 * n1 % 2147483587
    have b1 : 0 ≤ n1 := Int.emod_nonneg _ (by omega)
    have b2 : n1 < 2147483629 := Int.emod_lt_of_pos _ (by omega)
    have b3 : 0 ≤ n2 := Int.emod_nonneg _ (by omega)
    have b4 : n2 < 2147483587 := Int.emod_lt_of_pos _ (by omega)
    refine ⟨(n2 + 5) * (n2 + 40692) % 2147483579 / 31 % many, ⟨s.own, s.cnt + 1, s.seed⟩, Int.emod_nonneg _ (by omega), Int.emod_lt_of_pos _ h0, hs, ?_⟩
    simp -implicitDefEqProofs only [mSeq_eq, mIfS_eq, mSet_eq, mRet_eq, mRetN_eq, mExpr_eq, mPass_eq, mAsg_eq, mPar_eq, mAug_eq, bOf_eq, tOf_eq, tAndM_eq, tOrM_eq, tNotM_eq, tsYes_eq, mOp_eq, mUn_eq, mVar_eq, mC_eq, mCall_eq, mFun_eq, mFunKw_eq, mMeth_eq, mAnd_eq, mOr_eq, mNot_eq, mIf_eq, mChain_eq, mSl_eq, pNone_eq, pSome_eq, aCons_eq, aNil_eq, mTup_eq, mLst_eq, gN_eq, gT_eq, gsNil_eq, gsCons_eq, mkL_t, mkL_f, R.bind_ok, R.bind_no, R.nox_ok, List.getElem?_cons_zero, List.getElem?_cons_succ, List.set_cons_zero, List.set_cons_succ, List.length_cons, List.length_nil, List.append_nil, List.nil_append, List.cons_append, piApp_on, oLen_fz, oLen_lst, oLen_tup, oLt_int, oLe_int, oGt_int, oGe_int, oAdd_int, oSub_int, oIx_fz, oIx_lst, oIx_tup, oMax_int, oMin_int, oInt_bl, oInt_int, oIsi_bl, oNeg_int, oTuple_lst, oTuple_tup, iR1_eq, iR2_eq, iSq_eq, iStrM_eq, srcOf_tup, srcOf_lst, srcOf_fz, if_true, if_false, Bool.false_eq_true, Bool.true_eq_false, reduceIte, Nat.reduceAdd, Nat.reduceLeDiff, Nat.reduceEqDiff, decide_true, decide_false, and_self, and_true, true_and, drawB, oIx_ref hM', at0, at1, decide_eq_false h, gIx_eq, hM', ix31, oIx_ref hset, at2, oMul_l _ 2 _ i13 i14, oMul_l _ 7919 _ i1 i2, oMul_l _ s.seed _ (by have := hs.1; omega) (by have := hs.2; omega), oMod_int _ 2147483629 i5]
    have e1 : (s.seed * (48271 + 2 * (s.cnt + 1)) + 7919 * (s.cnt + 1) + 1) % 2147483629 = n1 := rfl
    simp -implicitDefEqProofs only [mSeq_eq, mIfS_eq, mSet_eq, mRet_eq, mRetN_eq, mExpr_eq, mPass_eq, mAsg_eq, mPar_eq, mAug_eq, bOf_eq, tOf_eq, tAndM_eq, tOrM_eq, tNotM_eq, tsYes_eq, mOp_eq, mUn_eq, mVar_eq, mC_eq, mCall_eq, mFun_eq, mFunKw_eq, mMeth_eq, mAnd_eq, mOr_eq, mNot_eq, mIf_eq, mChain_eq, mSl_eq, pNone_eq, pSome_eq, aCons_eq, aNil_eq, mTup_eq, mLst_eq, gN_eq, gT_eq, gsNil_eq, gsCons_eq, mkL_t, mkL_f, R.bind_ok, R.bind_no, R.nox_ok, List.getElem?_cons_zero, List.getElem?_cons_succ, List.set_cons_zero, List.set_cons_succ, List.length_cons, List.length_nil, List.append_nil, List.nil_append, List.cons_append, piApp_on, oLen_fz, oLen_lst, oLen_tup, oLt_int, oLe_int, oGt_int, oGe_int, oAdd_int, oSub_int, oIx_fz, oIx_lst, oIx_tup, oMax_int, oMin_int, oInt_bl, oInt_int, oIsi_bl, oNeg_int, oTuple_lst, oTuple_tup, iR1_eq, iR2_eq, iSq_eq, iStrM_eq, srcOf_tup, srcOf_lst, srcOf_fz, if_true, if_false, Bool.false_eq_true, Bool.true_eq_false, reduceIte, Nat.reduceAdd, Nat.reduceLeDiff, Nat.reduceEqDiff, decide_true, decide_false, and_self, and_true, true_and, e1, oMul_l _ n1 _ (by omega) (by omega), oMod_int _ 2147483587 i15]
    have e2 : n1 * n1 % 2147483587 = n2 := rfl
    simp -implicitDefEqProofs only [mSeq_eq, mIfS_eq, mSet_eq, mRet_eq, mRetN_eq, mExpr_eq, mPass_eq, mAsg_eq, mPar_eq, mAug_eq, bOf_eq, tOf_eq, tAndM_eq, tOrM_eq, tNotM_eq, tsYes_eq, mOp_eq, mUn_eq, mVar_eq, mC_eq, mCall_eq, mFun_eq, mFunKw_eq, mMeth_eq, mAnd_eq, mOr_eq, mNot_eq, mIf_eq, mChain_eq, mSl_eq, pNone_eq, pSome_eq, aCons_eq, aNil_eq, mTup_eq, mLst_eq, gN_eq, gT_eq, gsNil_eq, gsCons_eq, mkL_t, mkL_f, R.bind_ok, R.bind_no, R.nox_ok, List.getElem?_cons_zero, List.getElem?_cons_succ, List.set_cons_zero, List.set_cons_succ, List.length_cons, List.length_nil, List.append_nil, List.nil_append, List.cons_append, piApp_on, oLen_fz, oLen_lst, oLen_tup, oLt_int, oLe_int, oGt_int, oGe_int, oAdd_int, oSub_int, oIx_fz, oIx_lst, oIx_tup, oMax_int, oMin_int, oInt_bl, oInt_int, oIsi_bl, oNeg_int, oTuple_lst, oTuple_tup, iR1_eq, iR2_eq, iSq_eq, iStrM_eq, srcOf_tup, srcOf_lst, srcOf_fz, if_true, if_false, Bool.false_eq_true, Bool.true_eq_false, reduceIte, Nat.reduceAdd, Nat.reduceLeDiff, Nat.reduceEqDiff, decide_true, decide_false, and_self, and_true, true_and, e2, oMul_l _ (n2 + 5) _ (by omega) (by omega), oMod_int _ 2147483579 i16, oDiv_int _ 31 (div_ok i17 i18 _), oMod_int _ many h0]
    rfl
/-! ### loops by an invariant -/
theorem forL_nil {g : FG} {body : FS} {env : Env} {M : Mem} : forL (fun _ => True) g body [] env M = .ok (.nx env) M := by
  unfold forL; rw [if_pos trivial]
theorem forL_cons {g : FG} {body : FS} {d : D} {r : List D} {env : Env} {M : Mem} : forL (fun _ => True) g body (d :: r) env M = (g d env M).bind fun env1 m1 => (body env1 m1).bind fun fl m => match fl with
      | .nx env' => forL (fun _ => True) g body r env' m
      | .ct env' => forL (fun _ => True) g body r env' m
      | .bk env' => .ok (.nx env') m
      | .rt d => .ok (.rt d) m := by
  conv => lhs; unfold forL
  rw [if_pos trivial]
  all_goals rfl
theorem forL_inv {g : FG} {body : FS} (P : Nat → Env → Mem → Prop) : ∀ (items : List D) (k0 : Nat) (env : Env) (M : Mem), P k0 env M →
    (∀ (k : Nat) d env M, items[k]? = some d → P (k0 + k) env M → ∃ env' m', ((g d env M).bind fun e1 m1 => body e1 m1) = .ok (.nx env') m' ∧ P (k0 + k + 1) env' m') →
    ∃ env' m', forL (fun _ => True) g body items env M = .ok (.nx env') m' ∧ P (k0 + items.length) env' m'
  | [], k0, env, M, h0, _ => ⟨env, M, forL_nil, h0⟩
  | d :: r, k0, env, M, h0, hs => by
    obtain ⟨env1, m1, e1, h1⟩ := hs 0 d env M rfl h0
    obtain ⟨env2, m2, e2, h2⟩ := forL_inv P r (k0 + 1) env1 m1 h1 fun k d' env' M' hk hp => by
      have := hs (k + 1) d' env' M' (by simpa using hk) (by rw [show k0 + (k + 1) = k0 + 1 + k by omega]; exact hp)
      rw [show k0 + (k + 1) + 1 = k0 + 1 + k + 1 by omega] at this
      exact this
    refine ⟨env2, m2, ?_, by rw [show k0 + (d :: r).length = k0 + 1 + r.length by simp; omega]; exact h2⟩
    rw [forL_cons]
    obtain ⟨ea, ma, ea1, ea2⟩ := R.bind_eq e1
    rw [ea1, R.bind_ok, ea2, R.bind_ok]
    exact e2
theorem compL_nil {g : FG} {t : FT} {f : FE} {env : Env} {M : Mem} : compL (fun _ => True) g t f env [] M = .ok [] M := by
  unfold compL; rw [if_pos trivial]
theorem compL_cons {g : FG} {t : FT} {f : FE} {env : Env} {d : D} {r : List D} {M : Mem} : compL (fun _ => True) g t f env (d :: r) M = (g d env M).bind fun env1 m1 => (t env1 m1).bind fun b m2 => if b = true then (f env1 m2).bind fun y m3 => (compL (fun _ => True) g t f env r m3).bind fun ys m4 => .ok (y :: ys) m4 else compL (fun _ => True) g t f env r m2 := by
  conv => lhs; unfold compL
  rw [if_pos trivial]
/-- a comprehension without tests, its elements each by the memory as it is -/
theorem compL_inv {g : FG} {f : FE} {env : Env} (P : Nat → Mem → Prop) (Y : Nat → D → D → Prop) : ∀ (items : List D) (k0 : Nat) (M : Mem), P k0 M →
    (∀ (k : Nat) d M, items[k]? = some d → P (k0 + k) M → ∃ y m', ((g d env M).bind fun e1 m1 => f e1 m1) = .ok y m' ∧ Y (k0 + k) d y ∧ P (k0 + k + 1) m') →
    ∃ ys m', compL (fun _ => True) g tsYes f env items M = .ok ys m' ∧ ys.length = items.length ∧ (∀ (k : Nat) d y, items[k]? = some d → ys[k]? = some y → Y (k0 + k) d y) ∧ P (k0 + items.length) m'
  | [], k0, M, h0, _ => ⟨[], M, compL_nil, rfl, fun k d y e => by simp at e, h0⟩
  | d :: r, k0, M, h0, hs => by
    obtain ⟨y, m1, e1, y1, h1⟩ := hs 0 d M rfl h0
    obtain ⟨ys, m2, e2, l2, y2, h2⟩ := compL_inv P Y r (k0 + 1) m1 h1 fun k d' M' hk hp => by
      have := hs (k + 1) d' M' (by simpa using hk) (by rw [show k0 + (k + 1) = k0 + 1 + k by omega]; exact hp)
      rw [show k0 + (k + 1) + 1 = k0 + 1 + k + 1 by omega, show k0 + (k + 1) = k0 + 1 + k by omega] at this
      exact this
    refine ⟨y :: ys, m2, ?_, by simp [l2], fun k d' y' hk hy => ?_, by rw [show k0 + (d :: r).length = k0 + 1 + r.length by simp; omega]; exact h2⟩
    · rw [compL_cons]
      obtain ⟨ea, ma, ea1, ea2⟩ := R.bind_eq e1
      rw [ea1, R.bind_ok, tsYes_eq, R.bind_ok, if_pos rfl, ea2, R.bind_ok, e2, R.bind_ok]
    · cases k with
      | zero => simp at hk hy; subst hk hy; exact y1
      | succ k => rw [show k0 + (k + 1) = k0 + 1 + k by omega]; exact y2 k d' y' (by simpa using hk) (by simpa using hy)
/-- a comprehension of values: no memory, any test -/
theorem compL_pure {g : FG} {t : FT} {f : FE} {env : Env} {M : Mem} (T : D → Bool) (F : D → D) : ∀ (items : List D), (∀ d ∈ items, ∃ env1, g d env M = .ok env1 M ∧ t env1 M = .ok (T d) M ∧ (T d = true → f env1 M = .ok (F d) M)) →
    compL (fun _ => True) g t f env items M = .ok ((items.filter T).map F) M
  | [], _ => compL_nil
  | d :: r, h => by
    obtain ⟨env1, h1, h2, h3⟩ := h d (List.mem_cons_self ..)
    have ih := compL_pure T F r fun d' hd => h d' (List.mem_cons_of_mem _ hd)
    rw [compL_cons, h1, R.bind_ok, h2, R.bind_ok]
    cases ht : T d with
    | true => rw [if_pos rfl, h3 ht, R.bind_ok, ih, R.bind_ok, List.filter_cons_of_pos ht, List.map_cons]
    | false => rw [if_neg Bool.false_ne_true, ih, List.filter_cons_of_neg (by simp [ht])]
theorem mLc_eq (c : Bool) (vs : List Nat) (fi : FI) (g : FG) (t : FT) (f : FE) {env : Env} {M : Mem} : mLc c vs fi g t f env M = (fi env M).bind fun src m => if src.items.length < 16777216 then (compL src.still g t f (wipeE env vs) src.items m).nox.bind fun ys m' => mkL c ys m' else .no := rfl
theorem mFor_eq (f : FI) (g : FG) (body : FS) {env : Env} {M : Mem} : mFor f g body env M = (f env M).bind fun src m => forL src.still g body src.items env m := rfl
theorem runB_rt {B : FS} {N : Nat} {ds : List D} {M m : Mem} {d : D} (h : B (envStart N ds) M = .ok (.rt d) m) : runB B N ds M = .ok d m := by
  unfold runB; rw [h]
theorem runB_nx {B : FS} {N : Nat} {ds : List D} {M m : Mem} {env : Env} (h : B (envStart N ds) M = .ok (.nx env) m) : runB B N ds M = .ok .non m := by
  unfold runB; rw [h]
theorem set_twice {M : Mem} {i : Nat} {a b : Cell} : (M.set i a).set i b = M.set i b := List.set_set ..
/-- the memory bears a flow at i, else as M0 -/
structure FlAt (M0 : Mem) (i : Nat) (M : Mem) : Prop where
  at_ : ∃ s : Fl, s.ok ∧ M = M0.set i s.c
  lt : i < M0.length
theorem FlAt.get {M0 M : Mem} {i : Nat} (h : FlAt M0 i M) : ∃ s : Fl, s.ok ∧ M[i]? = some s.c ∧ ∀ s' : Fl, s'.ok → FlAt M0 i (M.set i s'.c) := by
  obtain ⟨s, h1, h2⟩ := h.at_
  refine ⟨s, h1, by rw [h2]; exact List.getElem?_set_self h.lt, fun s' hs => ⟨⟨s', hs, by rw [h2, set_twice]⟩, h.lt⟩⟩
theorem FlAt.start {M : Mem} {i : Nat} {s : Fl} (hs : s.ok) (h : M[i]? = some s.c) : FlAt M i M := by
  obtain ⟨h1, h2⟩ := List.getElem?_eq_some_iff.mp h
  exact ⟨⟨s, hs, by rw [← h2, List.set_getElem_self]⟩, h1⟩
theorem FlAt.len {M0 M : Mem} {i : Nat} (h : FlAt M0 i M) : M.length = M0.length := by
  obtain ⟨s, _, h2⟩ := h.at_
  rw [h2, List.length_set]
theorem FlAt.other {M0 M : Mem} {i j : Nat} (h : FlAt M0 i M) (hj : i ≠ j) : M[j]? = M0[j]? := by
  obtain ⟨s, _, e⟩ := h.at_
  rw [e, List.getElem?_set_ne hj]
theorem rngItems_get {lo : Int} {n k : Nat} {d : D} (h : (rngItems lo n)[k]? = some d) : d = .int (lo + (k : Int)) ∧ k < n := by
  unfold rngItems at h
  rw [List.getElem?_map] at h
  cases q : (List.range n)[k]? with
  | none => rw [q] at h; cases h
  | some j =>
    rw [q] at h; cases h
    obtain ⟨h1, h2⟩ := List.getElem?_eq_some_iff.mp q
    simp at h1 h2
    subst h2
    exact ⟨rfl, h1⟩
theorem rngItems_len {lo : Int} {n : Nat} : (rngItems lo n).length = n := by simp [rngItems]
theorem rngOk_of {i : Int} (h1 : 0 ≤ i) (h2 : i < 4611686018427387904) : rngOk i = true := by
  unfold rngOk
  have e : (2 : Int) ^ 62 = 4611686018427387904 := by decide +kernel
  rw [e]
  simp only [Bool.and_eq_true, decide_eq_true_eq]
  omega
theorem oSl_str {c : Bool} {x : List Nat} {lo hi : Option Int} {M : Mem} (h : x.length ≤ 16777216) : oSl c (.str x) lo hi M = .ok (.str (cutD x lo hi)) M := by
  simp only [oSl, h, if_true]
theorem oSl_tup {c : Bool} {x : List D} {lo hi : Option Int} {M : Mem} : oSl c (.tup x) lo hi M = .ok (.tup (cutD x lo hi)) M := rfl
theorem oSl_lst {x : List D} {lo hi : Option Int} {M : Mem} : oSl false (.lst x) lo hi M = .ok (.lst (cutD x lo hi)) M := rfl
theorem oSl_fz {x : List D} {lo hi : Option Int} {M : Mem} : oSl false (.fz x) lo hi M = .ok (.lst (cutD x lo hi)) M := rfl
theorem cutD_len {α : Type} (xs : List α) (lo hi : Option Int) : (cutD xs lo hi).length ≤ xs.length := by
  unfold cutD
  rw [List.length_take, List.length_drop]
  omega
theorem cutD_take {α : Type} (xs : List α) (k : Nat) : cutD xs none (some (k : Int)) = xs.take k := by
  unfold cutD
  rw [HT.sIx_none, HT.sIx_nat, List.drop_zero, Nat.sub_zero]
  by_cases h : k ≤ xs.length
  · rw [Nat.min_eq_left h]
  · rw [Nat.min_eq_right (by omega), List.take_of_length_le (Nat.le_refl _), List.take_of_length_le (by omega)]
theorem cutD_drop {α : Type} (xs : List α) (k : Nat) : cutD xs (some (k : Int)) none = xs.drop k := by
  unfold cutD
  rw [HT.sIx_none, HT.sIx_nat]
  by_cases h : k ≤ xs.length
  · rw [Nat.min_eq_left h, List.take_of_length_le]
    rw [List.length_drop]
    omega
  · rw [Nat.min_eq_right (by omega), List.drop_eq_nil_of_le (Nat.le_refl _), List.drop_eq_nil_of_le (by omega)]
    simp
theorem oIx_str {x : List Nat} {i : Int} {c : Nat} {M : Mem} (h : x.length ≤ 16777216) (e : atI x i = some c) : oIx (.str x) (.int i) M = .ok (.str [c]) M := by
  simp only [oIx, h, if_true, e]
theorem atI_some {α : Type} {xs : List α} {i : Int} (h0 : 0 ≤ i) (h1 : i < xs.length) : ∃ v, atI xs i = some v ∧ v ∈ xs := by
  obtain ⟨j, rfl⟩ : ∃ j : Nat, i = (j : Int) := ⟨i.toNat, by omega⟩
  have hj : j < xs.length := by omega
  exact ⟨xs[j], atI_nat (List.getElem?_eq_getElem hj), List.getElem_mem hj⟩
theorem oAdd_str {c : Bool} {a b : List Nat} {M : Mem} (h : a.length + b.length ≤ 16777216) : oAdd c (.str a) (.str b) M = .ok (.str (a ++ b)) M := by
  show oAddS (.str a) (.str b) M = _
  simp only [oAddS, h, if_true]
theorem oEq_bl (ne a b : Bool) {M : Mem} : oEq ne (.bl a) (.bl b) M = .ok (.bl (if ne = true then !(a == b) else (a == b))) M := by
  cases ne <;> rfl
theorem oEq_int (ne : Bool) (a b : Int) {M : Mem} : oEq ne (.int a) (.int b) M = .ok (.bl (if ne = true then !(a == b) else (a == b))) M := by
  cases ne <;> rfl
end Fn

set_option Elab.async false
set_option linter.all false
set_option maxRecDepth 100000
set_option maxHeartbeats 1000000
/-! FnCls: instances of own classes: attributes, methods, new ones. -/
namespace Fn
open PySem PySem.Spec PyProof.Rows L2
section
variable {X : Cx} {G : Gx} {cl : Nat → Addr} {E : XK} {W : Wd} {H : Hp} {M : Mem} {a b c : Expr} {fa fb fc : FE} {pos : Pos}
def putD (f : Str) (v : D) : List (Str × D) → List (Str × D)
  | [] => [(f, v)]
  | (g, x) :: r => if g = f then (g, v) :: r else (g, x) :: putD f v r
theorem rpk_nil {fs : List (Str × V)} (h : RpK G W H id ([] : List (Str × D)) fs) : fs = [] := by cases h; rfl
theorem rpk_put {f : Str} {d : D} {u : V} (r : Rp G W H d u) : ∀ {fs : List (Str × D)} {vs : List (Str × V)}, RpK G W H id fs vs → RpK G W H id (putD f d fs) (putF f u vs)
  | _, _, .nil => .cons ⟨rfl, r⟩ .nil
  | (g, x) :: fs, (g', x') :: vs, .cons h t => by
    have e : g = g' := h.1
    subst e
    show RpK G W H id (if g = f then _ else _) (if g = f then _ else _)
    by_cases q : g = f
    · rw [if_pos q, if_pos q]
      exact .cons ⟨rfl, r⟩ t
    · rw [if_neg q, if_neg q]
      exact .cons h (rpk_put r t)
theorem rpk_get {f : Str} {d : D} : ∀ {fs : List (Str × D)} {vs : List (Str × V)}, RpK G W H id fs vs → fs.lookup f = some d → ∃ u, vs.lookup f = some u ∧ Rp G W H d u
  | _, _, .nil, e => by cases e
  | (g, x) :: fs, (g', x') :: vs, .cons h t, e => by
    have q : g = g' := h.1
    subst q
    simp only [List.lookup] at e ⊢
    cases k : f == g with
    | true => rw [k] at e; cases e; exact ⟨x', rfl, h.2⟩
    | false => rw [k] at e; exact rpk_get t e
theorem rpk_none {f : Str} : ∀ {fs : List (Str × D)} {vs : List (Str × V)}, RpK G W H id fs vs → fs.lookup f = none → vs.lookup f = none
  | _, _, .nil, e => rfl
  | (g, x) :: fs, (g', x') :: vs, .cons h t, e => by
    have q : g = g' := h.1
    subst q
    simp only [List.lookup] at e ⊢
    cases k : f == g with
    | true => rw [k] at e; cases e
    | false => rw [k] at e; exact rpk_none t e
theorem rpk_len {fs : List (Str × D)} {vs : List (Str × V)} (h : RpK G W H id fs vs) : vs.length = fs.length := by
  induction h with
  | nil => rfl
  | cons _ _ ih => simp [ih]
/-- the attributes of an instance of the class c0 -/
def insOf (c0 : Nat) (M : Mem) : D → Option (Nat × List (Str × D))
  | .ref i => match M[i]? with
    | some (.ins c fs) => if c = c0 then some (i, fs) else none
    | _ => none
  | _ => none
theorem insOf_ok {c0 : Nat} (m : MemOk G W H M) {d : D} {u : V} {i : Nat} {fs : List (Str × D)} (r : Rp G W H d u) (e : insOf c0 M d = some (i, fs)) : d = .ref i ∧ ∃ a dx vs, u = .ref a ∧ W.as[i]? = some a ∧ H a = some (.ins (G.cl c0) dx vs) ∧ RpK G W H id fs vs := by
  unfold insOf at e
  split at e
  · rename_i j
    split at e
    · rename_i c fs' hc
      split at e
      · rename_i hcc
        subst hcc
        cases e
        obtain ⟨a, e1, e2⟩ := r
        obtain ⟨dx, vs, h1, h2⟩ := m.cell _ _ a hc e1
        exact ⟨rfl, a, dx, vs, e2, e1, h1, h2⟩
      · cases e
    · cases e
  · cases e
/-- e.f -/
def mFld (c0 : Nat) (f : Str) (fa : FE) : FE := fun env M => (fa env M).bind fun d m => match insOf c0 m d with
  | some (_, fs) => match fs.lookup f with
    | some v => .ok v m
    | none => .no
  | none => .no
theorem sn_fld {f : Str} {c0 : Nat} (hc : Cls X.K (cl c0)) (hn : NoAttr X.K (cl c0) f) (ha : PE X a (tE ⟨X.K, cl⟩ E fa)) (hb : attributeBase a f X.env (eval a X.env) = eval a X.env := by rfl) : PE X (.Attribute a f pos) (tE ⟨X.K, cl⟩ E (mFld c0 f fa)) := pe_imp (pe_fld ha hb) fun σ H Q ⟨W, env, M, s, p⟩ => by
  refine tE.bind s p fun d m W1 H1 u f1 s1 r1 p1 => ?_
  split at p1
  · rename_i i fs e
    split at p1
    · rename_i v hv
      obtain ⟨_, a1, dx, vs, e2, e3, h1, h2⟩ := insOf_ok s1.mem r1 e
      obtain ⟨w, h3, h4⟩ := rpk_get h2 hv
      exact ⟨a1, _, dx, vs, w, e2, h1, hc, hn, h3, p1.here s1.mem _ h4⟩
    · exact p1.elim
  · exact p1.elim
/-- e.f = v -/
def mFldSet (c0 : Nat) (f : Str) (fa fv : FE) : FS := fun env M => (fv env M).bind fun v m => (fa env m).bind fun d m2 => match insOf c0 m2 d with
  | some (i, fs) => if fs.length < 1000 then .ok (.nx env) (m2.set i (.ins c0 (putD f v fs))) else .no
  | none => .no
theorem ss_fld {f : Str} {c0 : Nat} {pos' : Pos} (hc : Cls X.K (cl c0)) (hn : NoAttr X.K (cl c0) f) (ha : PE X a (tE ⟨X.K, cl⟩ E fa)) (hb : PE X b (tE ⟨X.K, cl⟩ E fb)) (hs : swapsWith b (some (.Attribute a f pos')) pos.line X.env = pure false := by rfl) : PS X (.Assign [.Attribute a f pos'] b pos) (tS ⟨X.K, cl⟩ E (mFldSet c0 f fa fb)) := ps_imp (ps_fld ha hb hs) fun D σ H ⟨W, env, M, s, p⟩ => by
  refine tE.bind s p fun v m W1 H1 u f1 s1 r1 p1 => ?_
  refine tE.bind s1 p1 fun d m2 W2 H2 u2 f2 s2 r2 p2 => ?_
  split at p2
  · rename_i i fs e
    split at p2
    · rename_i hl
      obtain ⟨_, a1, dx, vs, e2, e3, h1, h2⟩ := insOf_ok s2.mem r2 e
      refine ⟨a1, _, dx, vs, e2, h1, hc, hn, by rw [rpk_len h2]; exact hl, ?_⟩
      have f3 := Fut.wrote (W := W2) (H := H2) (o := .ins (cl c0) dx (putF f u vs)) e3 h1 trivial
      exact p2 W2 _ f3 (s2.mem.wrote e3 ⟨dx, _, upd_same, rpk_put (s2.mem.rp f3 (s1.mem.rp f2 r1)) (h2.fut s2.mem f3)⟩) _ (s2.env.fut s2.mem f3)
    · exact p2.elim
  · exact p2.elim
/-- e.f += v, ints -/
def mFldAug (c0 : Nat) (f : Str) (g : Int → Int → Int) (fa fv : FE) : FS := fun env M => (fa env M).bind fun d m => match insOf c0 m d with
  | some (i, fs) => match fs.lookup f with
    | some (.int x) => (fv env m).bind fun v m2 => match v, insOf c0 m2 d with
      | .int y, some (_, fs') => if fs'.length < 1000 then .ok (.nx env) (m2.set i (.ins c0 (putD f (.int (g x y)) fs'))) else .no
      | _, _ => .no
    | _ => .no
  | none => .no
theorem ss_fldAug {f : Str} {c0 : Nat} {pos' : Pos} {op : Operator} {g : Int → Int → Int} (ho : InOp X op fun x y H Q => ∃ i j, x = .int i ∧ y = .int j ∧ Q (.int (g i j)) H) (hc : Cls X.K (cl c0)) (hn : NoAttr X.K (cl c0) f) (ha : PE X a (tE ⟨X.K, cl⟩ E fa)) (hb : PE X b (tE ⟨X.K, cl⟩ E fb)) :
    PS X (.AugAssign (.Attribute a f pos') op b pos) (tS ⟨X.K, cl⟩ E (mFldAug c0 f g fa fb)) := ps_imp (ps_fldaug ha hb ho) fun D σ H ⟨W, env, M, s, p⟩ => by
  refine tE.bind s p fun d m W1 H1 u f1 s1 r1 p1 => ?_
  split at p1
  · rename_i i fs e
    split at p1
    · rename_i x hv
      obtain ⟨hd, a1, dx, vs, e2, e3, h1, h2⟩ := insOf_ok s1.mem r1 e
      obtain ⟨w, h3, h4⟩ := rpk_get h2 hv
      refine ⟨a1, _, dx, vs, w, e2, h1, hc, hn, h3, ?_⟩
      refine tE.bind s1 p1 fun v m2 W2 H2 u2 f2 s2 r2 p2 => ?_
      split at p2
      · rename_i v' q1 y i' fs' e4
        split at p2
        · rename_i hl
          obtain ⟨hd', a2, dx', vs', e5, e6, h5, h6⟩ := insOf_ok s2.mem (s1.mem.rp f2 r1) e4
          rw [hd] at hd'
          cases hd'
          have ea : a1 = a2 := V.ref.inj (e2.symm.trans e5)
          subst ea
          have h4' : w = .int x := h4
          have r2' : u2 = .int y := r2
          refine ⟨x, y, h4', r2', dx', vs', h5, by rw [rpk_len h6]; exact hl, ?_⟩
          have f3 := Fut.wrote (W := W2) (H := H2) (o := .ins (cl c0) dx' (putF f (.int (g x y)) vs')) e6 h5 trivial
          exact p2 W2 _ f3 (s2.mem.wrote e6 ⟨dx', _, upd_same, rpk_put (d := .int (g x y)) (u := .int (g x y)) (by exact rfl) (h6.fut s2.mem f3)⟩) _ (s2.env.fut s2.mem f3)
        · exact p2.elim
      · exact p2.elim
    · exact p1.elim
  · exact p1.elim
/-! ### methods, new instances -/
def ClosedK (K : PySem.W.Frag) (cl : Nat → Addr) (dd : List D) (dvs : List V) : Prop := ∀ (W : Wd) (H : Hp), RpL ⟨K, cl⟩ W H dd dvs
theorem closedK_nil {K : PySem.W.Frag} : ClosedK K cl [] [] := fun _ _ => rfl
/-- o.x(..) -/
def mMth (c0 : Nat) (x : Str) (n : Nat) (g : FD) (dd : List D) (fo : FE) (ga : FA) : FE := fun env M => (fo env M).bind fun d m => match insOf c0 m d with
  | some (_, fs) => match fs.lookup x with
    | none => (ga env m).bind fun ds m2 => if (d :: (ds ++ dd)).length = n then g (d :: (ds ++ dd)) m2 else .no
    | some _ => .no
  | none => .no
/-- C(..) -/
def mMake (c0 : Nat) (n : Nat) (g : FD) (dd : List D) (ga : FA) : FE := fun env M => (ga env M).bind fun ds m => if (D.ref m.length :: (ds ++ dd)).length = n then (g (D.ref m.length :: (ds ++ dd)) (m ++ [.ins c0 []])).bind fun r m2 => match r with
    | .non => .ok (.ref m.length) m2
    | _ => .no
  else .no
def mMakeKw (c0 : Nat) (nk n : Nat) (π : Perm2) (dd : List D) (g : FD) (gk : FA) : FE := fun env M => (gk env M).bind fun zs m => if zs.length = nk ∧ (π.on [D.ref m.length] (zs ++ dd)).length = n then (g (π.on [D.ref m.length] (zs ++ dd)) (m ++ [.ins c0 []])).bind fun r m2 => match r with
    | .non => .ok (.ref m.length) m2
    | _ => .no
  else .no
section
variable {CX : CXT} {k n c0 : Nat} {f C : Addr} {fd : FuncData} {ps ks : List Str} {g : FD} {dvs : List V} {dd : List D} {ds : List Value} {x m : Str} {p apos : Pos} {e o : Expr} {es : List Expr} {ga : FA} {kws : List Keyword} {π : Perm2} {nk : Nat} {gk : FA}
theorem mth_reads {K : PySem.W.Frag} (hc : ClosedK K cl dd dvs) (σ : L2.St) (H : Hp) (Q : VK) (h : tE ⟨K, cl⟩ E (mMth c0 x n g dd fa ga) σ H Q) : tMeth (cl c0) x (spOf ⟨K, cl⟩ n g) dvs E (tE ⟨K, cl⟩ E fa) (tA ⟨K, cl⟩ E ga) σ H Q := by
  obtain ⟨W, env, M, s, p⟩ := h
  refine tE.bind s p fun d m W1 H1 u f1 s1 r1 p1 => ?_
  split at p1
  · rename_i i fs e
    split at p1
    · rename_i hv
      obtain ⟨hd, a1, dx, vs, e2, e3, h1, h2⟩ := insOf_ok s1.mem r1 e
      refine ⟨a1, dx, vs, e2, h1, rpk_none h2 hv, ?_⟩
      refine tA.bind s1 p1 fun ds m2 W2 H2 us f2 s2 r2 p2 => ?_
      split at p2
      · rename_i hl
        exact ⟨W2, m2, d :: (ds ++ dd), s2.mem, ⟨u, _, rfl, s1.mem.rp f2 r1, r2.append (hc W2 H2)⟩, hl, p2⟩
      · exact p2.elim
    · exact p1.elim
  · exact p1.elim
theorem sn_mth {pl : Sem Bool} (ho : PE X o (tE ⟨X.K, cl⟩ E fa)) (c : Cls X.K (cl c0)) (hm : Meth X.K (cl c0) m f) (F : FnOk X.prog X.w X.K X.mg X.base CX k f fd ps (spOf ⟨X.K, cl⟩ n g)) (hr : Room k X.A) (hb : Binds X.K fd ps ds) (hd : Vals dvs ds) (hcl : ClosedK X.K cl dd dvs) (hx : Passes CX X E) (ha : PA X (e :: es) (tA ⟨X.K, cl⟩ E ga))
    (hst : starEach (e :: es) X.env = (false, eval e X.env) :: starEach es X.env := by rfl) (hpl : (backTo pos (starEach es X.env)).any (·.1) = false := by rfl)
    (ht : eval (.Call (.Attribute o m apos) (e :: es) [] pos) X.env = (do
      let ov ← eval o X.env
      standAt apos.atName
      let (f, first) ← holding [ov] (getMethod ov m pl)
      callWith pos f first (backTo pos (starEach (e :: es) X.env)) (backToKw pos (keywordEach [] X.env))) := by rfl) :
    PE X (.Call (.Attribute o m apos) (e :: es) [] pos) (tE ⟨X.K, cl⟩ E (mMth c0 m n g dd fa ga)) := pe_imp (pe_meth ho c hm F hr hb hd hx ha hst hpl ht) (mth_reads hcl)
theorem sn_mth0 {pl : Sem Bool} (ho : PE X o (tE ⟨X.K, cl⟩ E fa)) (c : Cls X.K (cl c0)) (hm : Meth X.K (cl c0) m f) (F : FnOk X.prog X.w X.K X.mg X.base CX k f fd ps (spOf ⟨X.K, cl⟩ n g)) (hr : Room k X.A) (hb : Binds X.K fd ps ds) (hd : Vals dvs ds) (hcl : ClosedK X.K cl dd dvs) (hx : Passes CX X E)
    (ht : eval (.Call (.Attribute o m apos) [] [] pos) X.env = (do
      let ov ← eval o X.env
      standAt apos.atName
      let (f, first) ← holding [ov] (getMethod ov m pl)
      callWith pos f first (backTo pos (starEach [] X.env)) (backToKw pos (keywordEach [] X.env))) := by rfl) :
    PE X (.Call (.Attribute o m apos) [] [] pos) (tE ⟨X.K, cl⟩ E (mMth c0 m n g dd fa aNil)) := pe_imp (pe_meth0 ho c hm F hr hb hd hx ht) fun σ H Q h => by
  obtain ⟨W, env, M, s, p⟩ := h
  refine tE.bind s p fun d m W1 H1 u f1 s1 r1 p1 => ?_
  split at p1
  · rename_i i fs e
    split at p1
    · rename_i hv
      obtain ⟨hd, a1, dx, vs, e2, e3, h1, h2⟩ := insOf_ok s1.mem r1 e
      refine ⟨a1, dx, vs, e2, h1, rpk_none h2 hv, ?_⟩
      have p2 : PR ⟨X.K, cl⟩ W1 H1 (PV ⟨X.K, cl⟩ Q) E (if (d :: ([] ++ dd)).length = n then g (d :: ([] ++ dd)) m else .no) := p1
      split at p2
      · rename_i hl
        exact ⟨W1, m, d :: ([] ++ dd), s1.mem, ⟨u, _, rfl, r1, hcl W1 H1⟩, hl, p2⟩
      · exact p2.elim
    · exact p1.elim
  · exact p1.elim
/-- a new instance stands -/
theorem made_ok (m : MemOk G W H M) {x dx : Addr} (hx : H x = none) (hdx : H dx = none) (hne : dx ≠ x) : Fut W H ⟨W.as ++ [x], W.hd⟩ (upd (upd H dx (.own x)) x (.ins (G.cl c0) dx [])) ∧ MemOk G ⟨W.as ++ [x], W.hd⟩ (upd (upd H dx (.own x)) x (.ins (G.cl c0) dx [])) (M ++ [.ins c0 []]) ∧ Rp G ⟨W.as ++ [x], W.hd⟩ (upd (upd H dx (.own x)) x (.ins (G.cl c0) dx [])) (.ref M.length) (.ref x) := by
  have m1 : MemOk G W (upd H dx (.own x)) M := m.laid hdx
  have hx1 : upd H dx (.own x) x = none := by rw [upd_ne (Ne.symm hne)]; exact hx
  refine ⟨(Fut.laid hdx).trans (Fut.added m1 hx1), m1.added hx1 ⟨dx, [], upd_same, .nil⟩, x, ?_, rfl⟩
  rw [← m.len]
  simp
theorem make_post {K : PySem.W.Frag} {W1 : Wd} {H1 : Hp} {m1 : Mem} {Q : VK} {x dx : Addr} {as : List D} (mo : MemOk ⟨K, cl⟩ W1 H1 m1) (hx : H1 x = none) (hdx : H1 dx = none) (hne : dx ≠ x)
    (p : PR ⟨K, cl⟩ W1 H1 (PV ⟨K, cl⟩ Q) E ((g as (m1 ++ [.ins c0 []])).bind fun r m2 => match r with | .non => .ok (.ref m1.length) m2 | _ => .no)) :
    PR ⟨K, cl⟩ ⟨W1.as ++ [x], W1.hd⟩ (upd (upd H1 dx (.own x)) x (.ins (cl c0) dx [])) (PV ⟨K, cl⟩ fun v H2 => v = .non ∧ Q (.ref x) H2) E (g as (m1 ++ [.ins c0 []])) := by
  obtain ⟨f, m', r⟩ := made_ok (c0 := c0) mo hx hdx hne
  obtain ⟨b, hb, hb2⟩ := r
  cases hb2
  refine PR.bind (PR.fut f p) fun z m2 W2 H2 f2 k2 p2 => fun u hu => ?_
  cases z with
  | non =>
    cases hu
    exact ⟨rfl, p2.here k2 _ ⟨x, f2.get hb, rfl⟩⟩
  | _ => exact p2.elim
theorem make_reads {K : PySem.W.Frag} (hc : ClosedK K cl dd dvs) (σ : L2.St) (H : Hp) (Q : VK) (h : tE ⟨K, cl⟩ E (mMake c0 n g dd ga) σ H Q) : tMake (cl c0) (spOf ⟨K, cl⟩ n g) dvs E (tA ⟨K, cl⟩ E ga) σ H Q := by
  obtain ⟨W, env, M, s, p⟩ := h
  refine tA.bind s p fun ds m1 W1 H1 vs f1 s1 r1 p1 => ?_
  split at p1
  · rename_i hl
    intro x dx hx hdx hne
    obtain ⟨f, m', r⟩ := made_ok (c0 := c0) s1.mem hx hdx hne
    exact ⟨_, _, D.ref m1.length :: (ds ++ dd), m', ⟨_, _, rfl, r, (s1.mem.rpL f r1).append (hc _ _)⟩, hl, make_post s1.mem hx hdx hne p1⟩
  · exact p1.elim
theorem sn_make (Mk0 : Mk X.K (cl c0) f) (F : FnOk X.prog X.w X.K X.mg X.base CX k f fd ps (spOf ⟨X.K, cl⟩ n g)) (hr : Room (k + 1) X.A) (hg : Gl X x) (hm : X.mg x = some (.ref (cl c0))) (hb : Binds X.K fd ps ds) (hd : Vals dvs ds) (hc : ClosedK X.K cl dd dvs) (hx : Passes CX X E)
    (ha : PA X (e :: es) (tA ⟨X.K, cl⟩ E ga)) (hdb : (x == ("__debug__" : Str)) = false := by decide) (he : starEach (e :: es) X.env = (false, eval e X.env) :: starEach es X.env := by rfl) (hpl : (backTo pos (starEach es X.env)).any (·.1) = false := by rfl) :
    PE X (.Call (.Name x p) (e :: es) [] pos) (tE ⟨X.K, cl⟩ E (mMake c0 n g dd ga)) := pe_imp (pe_make Mk0 F hr hg hm hb hd hx ha hdb he hpl) (make_reads hc)
theorem sn_make0 (Mk0 : Mk X.K (cl c0) f) (F : FnOk X.prog X.w X.K X.mg X.base CX k f fd ps (spOf ⟨X.K, cl⟩ n g)) (hr : Room (k + 1) X.A) (hg : Gl X x) (hm : X.mg x = some (.ref (cl c0))) (hb : Binds X.K fd ps ds) (hd : Vals dvs ds) (hc : ClosedK X.K cl dd dvs) (hx : Passes CX X E)
    (hdb : (x == ("__debug__" : Str)) = false := by decide) : PE X (.Call (.Name x p) [] [] pos) (tE ⟨X.K, cl⟩ E (mMake c0 n g dd aNil)) := pe_imp (pe_make0 Mk0 F hr hg hm hb hd hx hdb) fun σ H Q ⟨W, env, M, s, p⟩ => by
  have p1 : PR ⟨X.K, cl⟩ W H (PV ⟨X.K, cl⟩ Q) E (if (D.ref M.length :: ([] ++ dd)).length = n then (g (D.ref M.length :: ([] ++ dd)) (M ++ [.ins c0 []])).bind fun r m2 => match r with | .non => .ok (.ref M.length) m2 | _ => .no else .no) := p
  split at p1
  · rename_i hl
    intro x dx hx hdx hne
    obtain ⟨f, m', r⟩ := made_ok (c0 := c0) s.mem hx hdx hne
    exact ⟨_, _, D.ref M.length :: ([] ++ dd), m', ⟨_, _, rfl, r, hc _ _⟩, hl, make_post s.mem hx hdx hne p1⟩
  · exact p1.elim
/-- binding with keywords: the defaults by K alone -/
structure KwBK (K : PySem.W.Frag) (cl : Nat → Addr) (fd : FuncData) (ps : List Str) (n : Nat) (ks : List Str) (π : Perm2) (dd : List D) : Prop where
  kb : ∃ (g : List Value → List Value → List Value) (gV : List V → List V → List V), KBn K fd ps n ks g gV ∧ ∀ (W : Wd) (H : Hp) (ds zs : List D) (vs ws : List V), RpL ⟨K, cl⟩ W H ds vs → RpL ⟨K, cl⟩ W H zs ws → RpL ⟨K, cl⟩ W H (π.on ds (zs ++ dd)) (gV vs ws)
theorem sn_makeKw (Mk0 : Mk X.K (cl c0) f) (F : FnOk X.prog X.w X.K X.mg X.base CX k f fd ps (spOf ⟨X.K, cl⟩ n g)) (hr : Room (k + 1) X.A) (hg : Gl X x) (hm : X.mg x = some (.ref (cl c0))) (hb : KwBK X.K cl fd ps 1 ks π dd) (hx : Passes CX X E)
    (hkw : PK X kws (tA ⟨X.K, cl⟩ E gk)) (hall : (backToKw pos (keywordEach kws X.env)).all (·.1.isSome) = true := by rfl) (hks : (backToKw pos (keywordEach kws X.env)).filterMap (·.1) = ks := by rfl) (hdb : (x == ("__debug__" : Str)) = false := by decide)
    (hpl : ((backTo pos (starEach [] X.env)).any (·.1) || (backToKw pos (keywordEach kws X.env)).any (·.1.isNone)) = false := by rfl) (hkn : ks.length = nk := by rfl) :
    PE X (.Call (.Name x p) [] kws pos) (tE ⟨X.K, cl⟩ E (mMakeKw c0 nk n π dd g gk)) := by
  subst hkn
  obtain ⟨gg, gV, hb1, hb2⟩ := hb.kb
  refine pe_imp (pe_makeK0 Mk0 F hr hg hm hb1 hx hkw hall hks hdb hpl) fun σ H Q ⟨W, env, M, s, p⟩ => ?_
  show tA ⟨X.K, cl⟩ E gk σ H _
  refine tA.bind s p fun zs m1 W1 H1 us f1 s1 r1 p1 => ?_
  split at p1
  · rename_i hl
    refine ⟨rfl, by rw [r1.len, hl.1], fun x dx hx hdx hne => ?_⟩
    obtain ⟨f, m', r⟩ := made_ok (c0 := c0) s1.mem hx hdx hne
    exact ⟨_, _, _, m', hb2 _ _ [D.ref m1.length] zs [V.ref x] us ⟨_, _, rfl, r, rfl⟩ (s1.mem.rpL f r1), hl.2, make_post s1.mem hx hdx hne p1⟩
  · exact p1.elim
end
end
end Fn

set_option Elab.async false
set_option linter.all false
set_option maxRecDepth 100000
set_option maxHeartbeats 1000000
/-! FnMore: enumerate, zip; keywords in any order; methods by keywords; clear; least and greatest of a list. -/
namespace Fn
open PySem PySem.Spec PyProof.Rows L2
section
variable {X : Cx} {G : Gx} {cl : Nat → Addr} {E : XK} {W : Wd} {H : Hp} {M : Mem} {a b c : Expr} {fa fb fc : FE} {pos : Pos}
/-! ### enumerate(list) -/
def numb (l : List D) : List D := (List.range l.length).zipWith (fun i d => .tup [.int (i : Nat), d]) l
theorem numb_get {l : List D} {i : Nat} {d : D} (h : (numb l)[i]? = some d) : ∃ x, l[i]? = some x ∧ d = .tup [.int (i : Nat), x] := by
  unfold numb at h
  rw [List.getElem?_zipWith] at h
  cases q : l[i]? with
  | none => rw [q] at h; cases q2 : (List.range l.length)[i]? <;> rw [q2] at h <;> cases h
  | some x =>
    have hi : i < l.length := (List.getElem?_eq_some_iff.mp q).1
    rw [q, List.getElem?_range hi] at h
    cases h
    exact ⟨x, rfl, rfl⟩
theorem numb_len (l : List D) : (numb l).length = l.length := by simp [numb]
def iEnumM (f : FE) : FI := fun env M => (f env M).bind fun d m => match lstOf m d, srcOf m d with
  | some l, some s => .ok ⟨numb l, s.still⟩ m
  | _, _ => .no
theorem src_enum {W0 : Wd} {H0 : Hp} {l : List D} {P : Mem → Prop} {a : Addr} (h : ∀ W H M, Kp W0 H0 W H → MemOk G W H M → P M → ∃ us, SqL G.K H a us ∧ RpL G W H l us) : SrcOk G W0 H0 ⟨numb l, P⟩ (Ite G.K a) where
  item := fun W H M f _ m st i d e => by
    obtain ⟨us, h1, h2⟩ := h W H M f m st
    obtain ⟨y, e1, rfl⟩ := numb_get e
    obtain ⟨u, e2, r2⟩ := h2.get e1
    refine ⟨⟨us, u, h1, e2⟩, fun x H' z => ?_⟩
    obtain ⟨T, x', rfl, hT, rfl, hx⟩ := z
    have := hx us h1
    rw [e2] at this; cases this
    exact ⟨Fut.laid hT, m.laid hT, T, _, rfl, .inl upd_same, _, _, rfl, rfl, _, _, rfl, m.rp (Fut.laid hT) r2, rfl⟩
  stop := fun W H M f _ m st => by
    obtain ⟨us, h1, h2⟩ := h W H M f m st
    exact ⟨us, h1, by rw [numb_len, h2.len]; exact Nat.le_refl _⟩
theorem aCons_bind {α : Type} {f : FE} {env : Fn.Env} {M : Mem} {k : List D → Mem → R α} : ((aCons f aNil) env M).bind k = (f env M).bind fun d m => k [d] m := by
  show ((f env M).bind fun d m => R.ok [d] m).bind k = _
  cases f env M <;> rfl
theorem si_enum {p tpos : Pos} {elts : List Expr} {kk : Nat} (hg : Gl X "enumerate") (hm : X.mg "enumerate" = none) (ha : PE X a (tE ⟨X.K, cl⟩ E fa)) (hs : starEach [a] X.env = (false, eval a X.env) :: starEach [] X.env := by rfl) (hs1 : starEach [a] X.env = [(false, eval a X.env)] := by rfl) :
    PI X (.Tuple elts kk tpos) (.Call (.Name "enumerate" p) [a] [] pos) (tI ⟨X.K, cl⟩ E (iEnumM fa)) := pi_imp (pi_enum hg hm (sa_cons ha sa_nil hs) hs1) fun σ H Rr ⟨W, env, M, s, p⟩ => by
  refine tA.bind (K := PI' ⟨X.K, cl⟩ Rr) (f := aCons fa aNil) (k := fun ds m => match ds with | [d] => (match lstOf m d, srcOf m d with | some l, some s => R.ok (⟨numb l, s.still⟩ : Src) m | _, _ => .no) | _ => .no) s ?_ fun ds m W1 H1 us f1 s1 r1 p1 => ?_
  · rw [aCons_bind]
    exact p
  · split at p1
    · rename_i d
      split at p1
      · rename_i l src e1 e2
        obtain ⟨u, rfl, r2⟩ := rp_one r1
        have k := p1.here s1.mem
        obtain ⟨a1, us, rfl, h2, h3⟩ := lstOf_ok s1.mem r2 e1
        obtain ⟨st, _⟩ := srcOf_ok s1.mem r2 e2
        refine ⟨a1, us, rfl, h2, k _ (src_enum fun W2 H2 M2 f2 m2 st2 => ?_) st⟩
        have r3 := Rp.kp f2 _ _ r2
        cases d with
        | ref i =>
          simp only [srcOf] at e2
          split at e2
          · rename_i l' hc
            cases e2
            have : lstOf M2 (.ref i) = some l := by
              simp only [lstOf, hc] at e1
              cases e1
              have st2' : M2[i]? = some (.lst l) := st2
              simp only [lstOf, st2']
            obtain ⟨a', us', e', h', r'⟩ := lstOf_ok m2 r3 this
            cases e'
            exact ⟨us', h', r'⟩
          · cases e2
        | lst l' =>
          cases e1
          obtain ⟨a', us', e', h', r'⟩ := lstOf_ok m2 r3 (d := .lst l) rfl
          cases e'
          exact ⟨us', h', r'⟩
        | fz l' =>
          cases e1
          obtain ⟨a', us', e', h', r'⟩ := lstOf_ok m2 r3 (d := .fz l) rfl
          cases e'
          exact ⟨us', h', r'⟩
        | _ => cases e1
      · exact p1.elim
    · exact p1.elim
/-! ### keywords in any order -/
def piIx (is : List Nat) : Perm2 := ⟨fun ds zs => is.filterMap fun i => (ds ++ zs)[i]?⟩
theorem rpl_pick {ds : List D} {vs : List V} (h : RpL G W H ds vs) : ∀ is : List Nat, RpL G W H (is.filterMap fun i => ds[i]?) (is.filterMap fun i => vs[i]?)
  | [] => (rfl : ([] : List V) = [])
  | i :: is => by
    rw [List.filterMap_cons, List.filterMap_cons]
    cases e : ds[i]? with
    | none =>
      have : vs[i]? = none := by
        rw [List.getElem?_eq_none_iff] at e ⊢
        rw [h.len]; exact e
      rw [this]
      exact rpl_pick h is
    | some d =>
      obtain ⟨u, e2, r⟩ := h.get e
      rw [e2]
      exact ⟨u, _, rfl, r, rpl_pick h is⟩
theorem vals_pick {vs : List V} {us : List Value} (h : Vals vs us) : ∀ is : List Nat, Vals (is.filterMap fun i => vs[i]?) (is.filterMap fun i => us[i]?)
  | [] => .nil
  | i :: is => by
    rw [List.filterMap_cons, List.filterMap_cons]
    cases e : vs[i]? with
    | none =>
      have : us[i]? = none := by
        rw [List.getElem?_eq_none_iff] at e ⊢
        rw [← h.length]; exact e
      rw [this]
      exact vals_pick h is
    | some d =>
      obtain ⟨u, e2, r⟩ := h.get e
      rw [e2]
      exact .cons r (vals_pick h is)
/-! ### o.m(.., k = v) -/
def tMethN (C : Addr) (m : Str) (n nk : Nat) (sp : Sp) (gV : List V → List V → List V) (E : XK) (ta : TE) (t tk : TA) : TE := fun σ H Q => ta σ H fun x H1 => ∃ a dx fs, x = .ref a ∧ H1 a = some (.ins C dx fs) ∧ fs.lookup m = none ∧
  t σ H1 fun vs H2 => tk σ H2 fun zs H3 => vs.length = n ∧ zs.length = nk ∧ sp (gV (.ref a :: vs) zs) H3 Q E
section
variable {CX : CXT} {k n np nk c0 : Nat} {f C : Addr} {fd : FuncData} {ps ks : List Str} {g : FD} {dd : List D} {sp : Sp} {gg : List Value → List Value → List Value} {gV : List V → List V → List V} {π : Perm2} {x m : Str} {p apos : Pos} {e o : Expr} {es : List Expr} {kws : List Keyword} {ga gk : FA} {ta : TE} {t tk : TA}
theorem pe_methN0 {pl : Sem Bool} (he : PE X o ta) (c : Cls X.K C) (hm : Meth X.K C m f) (F : FnOk X.prog X.w X.K X.mg X.base CX k f fd ps sp) (hr : Room k X.A) (hb : KBn X.K fd ps 1 ks gg gV) (hx : Passes CX X E) (hkw : PK X kws tk)
    (hall : (backToKw pos (keywordEach kws X.env)).all (·.1.isSome) = true := by rfl) (hks : (backToKw pos (keywordEach kws X.env)).filterMap (·.1) = ks := by rfl)
    (hpl : ((backTo pos (starEach [] X.env)).any (·.1) || (backToKw pos (keywordEach kws X.env)).any (·.1.isNone)) = false := by rfl)
    (ht : eval (.Call (.Attribute o m apos) [] kws pos) X.env = (do
      let ov ← eval o X.env
      standAt apos.atName
      let (f, first) ← holding [ov] (getMethod ov m pl)
      callWith pos f first (backTo pos (starEach [] X.env)) (backToKw pos (keywordEach kws X.env))) := by rfl) :
    PE X (.Call (.Attribute o m apos) [] kws pos) (tMethN C m 0 ks.length sp gV E ta tNil tk) := by
  refine ⟨fun pins s σ H Q I h => ?_⟩
  refine PySem.W.methodCall_KW (pl := pl) (thn (he.run pins s σ H _ I h) fun u s1 ⟨x, H1, I1, rx, a, dx, fs, ex, ea, l, q⟩ => ?_) ht
  subst ex
  obtain rfl : u = Value.ref a := rx
  refine getmeth_ok I1 ea c hm l ?_
  refine PySem.W.callWith_KW0 (first := [.ref a]) (h₀ := X.base) I.ok.mod.kin hm.kp hall ?_ hpl
  refine thn (hkw.run pos pins s1 σ H1 _ I1 q) fun ws s2 ⟨zs, H2, I2, rz, l1, l2, q2⟩ => ⟨I2.kIn, ?_⟩
  rw [hks]
  exact run_fnN (us := [.ref a]) (vs := [.ref a]) F hr hb hx I2 (.cons rfl .nil) rz rfl l2 q2
theorem pe_methN {pl : Sem Bool} (he : PE X o ta) (c : Cls X.K C) (hm : Meth X.K C m f) (F : FnOk X.prog X.w X.K X.mg X.base CX k f fd ps sp) (hr : Room k X.A) (hb : KBn X.K fd ps (n + 1) ks gg gV) (hx : Passes CX X E) (ha : PA X (e :: es) t) (hkw : PK X kws tk)
    (hall : (backToKw pos (keywordEach kws X.env)).all (·.1.isSome) = true := by rfl) (hks : (backToKw pos (keywordEach kws X.env)).filterMap (·.1) = ks := by rfl)
    (hst : starEach (e :: es) X.env = (false, eval e X.env) :: starEach es X.env := by rfl)
    (hpl : ((backTo pos (starEach (e :: es) X.env)).any (·.1) || (backToKw pos (keywordEach kws X.env)).any (·.1.isNone)) = false := by rfl)
    (ht : eval (.Call (.Attribute o m apos) (e :: es) kws pos) X.env = (do
      let ov ← eval o X.env
      standAt apos.atName
      let (f, first) ← holding [ov] (getMethod ov m pl)
      callWith pos f first (backTo pos (starEach (e :: es) X.env)) (backToKw pos (keywordEach kws X.env))) := by rfl) :
    PE X (.Call (.Attribute o m apos) (e :: es) kws pos) (tMethN C m n ks.length sp gV E ta t tk) := by
  refine ⟨fun pins s σ H Q I h => ?_⟩
  refine PySem.W.methodCall_KW (pl := pl) (thn (he.run pins s σ H _ I h) fun u s1 ⟨x, H1, I1, rx, a, dx, fs, ex, ea, l, q⟩ => ?_) ht
  subst ex
  obtain rfl : u = Value.ref a := rx
  refine getmeth_ok I1 ea c hm l ?_
  refine PySem.W.callWith_KW (first := [.ref a]) (h₀ := X.base) I.ok.mod.kin hm.kp hall (thn (ha.run pos pins s1 σ H1 _ I1 q) fun us s2 ⟨vs, H2, I2, r, q2⟩ => ?_) hpl hst
  refine thn (hkw.run pos pins s2 σ H2 _ I2 q2) fun ws s3 ⟨zs, H3, I3, rz, l1, l2, q3⟩ => ⟨I3.kIn, ?_⟩
  rw [hks]
  exact run_fnN (us := .ref a :: us) (vs := .ref a :: vs) F hr hb hx I3 (.cons rfl r) rz (congrArg Nat.succ l1) l2 q3
def mMthKw (c0 : Nat) (x : Str) (n nk np : Nat) (π : Perm2) (dd : List D) (g : FD) (fo : FE) (ga gk : FA) : FE := fun env M => (fo env M).bind fun d m => match insOf c0 m d with
  | some (_, fs) => match fs.lookup x with
    | none => (ga env m).bind fun ds m1 => (gk env m1).bind fun zs m2 => if ds.length = n ∧ zs.length = nk ∧ (π.on (d :: ds) (zs ++ dd)).length = np then g (π.on (d :: ds) (zs ++ dd)) m2 else .no
    | some _ => .no
  | none => .no
theorem sn_mthKw0 {pl : Sem Bool} (ho : PE X o (tE ⟨X.K, cl⟩ E fa)) (c : Cls X.K (cl c0)) (hm : Meth X.K (cl c0) m f) (F : FnOk X.prog X.w X.K X.mg X.base CX k f fd ps (spOf ⟨X.K, cl⟩ np g)) (hr : Room k X.A) (hb : KwBK X.K cl fd ps 1 ks π dd) (hx : Passes CX X E) (hkw : PK X kws (tA ⟨X.K, cl⟩ E gk))
    (hall : (backToKw pos (keywordEach kws X.env)).all (·.1.isSome) = true := by rfl) (hks : (backToKw pos (keywordEach kws X.env)).filterMap (·.1) = ks := by rfl)
    (hpl : ((backTo pos (starEach [] X.env)).any (·.1) || (backToKw pos (keywordEach kws X.env)).any (·.1.isNone)) = false := by rfl) (hkn : ks.length = nk := by rfl)
    (ht : eval (.Call (.Attribute o m apos) [] kws pos) X.env = (do
      let ov ← eval o X.env
      standAt apos.atName
      let (f, first) ← holding [ov] (getMethod ov m pl)
      callWith pos f first (backTo pos (starEach [] X.env)) (backToKw pos (keywordEach kws X.env))) := by rfl) :
    PE X (.Call (.Attribute o m apos) [] kws pos) (tE ⟨X.K, cl⟩ E (mMthKw c0 m 0 nk np π dd g fa aNil gk)) := by
  subst hkn
  obtain ⟨gg, gV, hb1, hb2⟩ := hb.kb
  refine pe_imp (pe_methN0 ho c hm F hr hb1 hx hkw hall hks hpl ht) fun σ H Q ⟨W, env, M, s, p⟩ => ?_
  refine tE.bind s p fun d m1 W1 H1 u f1 s1 r1 p1 => ?_
  split at p1
  · rename_i i fs e1
    split at p1
    · rename_i hv
      obtain ⟨hd, a1, dx, vs, e2, e3, h1, h2⟩ := insOf_ok s1.mem r1 e1
      refine ⟨a1, dx, vs, e2, h1, rpk_none h2 hv, ?_⟩
      have p1' : PR ⟨X.K, cl⟩ W1 H1 (PV ⟨X.K, cl⟩ Q) E ((gk env m1).bind fun zs m2 => if ([] : List D).length = 0 ∧ zs.length = ks.length ∧ (π.on [d] (zs ++ dd)).length = np then g (π.on [d] (zs ++ dd)) m2 else .no) := p1
      show tA ⟨X.K, cl⟩ E gk σ H1 _
      refine tA.bind s1 p1' fun zs m2 W2 H2 us f2 s2 r2 p2 => ?_
      split at p2
      · rename_i hl
        exact ⟨rfl, by rw [r2.len, hl.2.1], W2, m2, _, s2.mem, hb2 _ _ [d] zs [V.ref a1] us ⟨_, _, rfl, by rw [← e2]; exact s1.mem.rp f2 r1, rfl⟩ r2, hl.2.2, p2⟩
      · exact p2.elim
    · exact p1.elim
  · exact p1.elim
theorem sn_mthKw {pl : Sem Bool} (ho : PE X o (tE ⟨X.K, cl⟩ E fa)) (c : Cls X.K (cl c0)) (hm : Meth X.K (cl c0) m f) (F : FnOk X.prog X.w X.K X.mg X.base CX k f fd ps (spOf ⟨X.K, cl⟩ np g)) (hr : Room k X.A) (hb : KwBK X.K cl fd ps (n + 1) ks π dd) (hx : Passes CX X E) (ha : PA X (e :: es) (tA ⟨X.K, cl⟩ E ga)) (hkw : PK X kws (tA ⟨X.K, cl⟩ E gk))
    (hall : (backToKw pos (keywordEach kws X.env)).all (·.1.isSome) = true := by rfl) (hks : (backToKw pos (keywordEach kws X.env)).filterMap (·.1) = ks := by rfl)
    (hst : starEach (e :: es) X.env = (false, eval e X.env) :: starEach es X.env := by rfl)
    (hpl : ((backTo pos (starEach (e :: es) X.env)).any (·.1) || (backToKw pos (keywordEach kws X.env)).any (·.1.isNone)) = false := by rfl) (hkn : ks.length = nk := by rfl)
    (ht : eval (.Call (.Attribute o m apos) (e :: es) kws pos) X.env = (do
      let ov ← eval o X.env
      standAt apos.atName
      let (f, first) ← holding [ov] (getMethod ov m pl)
      callWith pos f first (backTo pos (starEach (e :: es) X.env)) (backToKw pos (keywordEach kws X.env))) := by rfl) :
    PE X (.Call (.Attribute o m apos) (e :: es) kws pos) (tE ⟨X.K, cl⟩ E (mMthKw c0 m n nk np π dd g fa ga gk)) := by
  subst hkn
  obtain ⟨gg, gV, hb1, hb2⟩ := hb.kb
  refine pe_imp (pe_methN ho c hm F hr hb1 hx ha hkw hall hks hst hpl ht) fun σ H Q ⟨W, env, M, s, p⟩ => ?_
  refine tE.bind s p fun d m1 W1 H1 u f1 s1 r1 p1 => ?_
  split at p1
  · rename_i i fs e1
    split at p1
    · rename_i hv
      obtain ⟨hd, a1, dx, vs, e2, e3, h1, h2⟩ := insOf_ok s1.mem r1 e1
      refine ⟨a1, dx, vs, e2, h1, rpk_none h2 hv, ?_⟩
      refine tA.bind s1 p1 fun ds m2 W2 H2 us f2 s2 r2 p2 => ?_
      refine tA.bind s2 p2 fun zs m3 W3 H3 ws f3 s3 r3 p3 => ?_
      split at p3
      · rename_i hl
        exact ⟨by rw [r2.len, hl.1], by rw [r3.len, hl.2.1], W3, m3, _, s3.mem, hb2 _ _ (d :: ds) zs (V.ref a1 :: us) ws ⟨_, _, rfl, by rw [← e2]; exact s2.mem.rp f3 (s1.mem.rp f2 r1), s2.mem.rpL f3 r2⟩ r3, hl.2.2, p3⟩
      · exact p3.elim
    · exact p1.elim
  · exact p1.elim
end
/-! ### clear; least, greatest of a list of whole numbers -/
def oClear : D → List D → Mem → R D
  | .ref i, [], M => match M[i]? with
    | some (.lst _) => .ok .non (M.set i (.lst []))
    | _ => .no
  | _, _, _ => .no
theorem mt1_clear : Mt1 G E rClear oClear := fun W H M a u ds us Q m ra r p => by
  unfold oClear at p
  split at p
  · have : us = [] := r
    subst this
    split at p
    · rename_i l hc
      obtain ⟨a1, e1, rfl⟩ := ra
      obtain ⟨vs, h1, h2⟩ := m.cell _ _ a1 hc e1
      refine ⟨a1, vs, rfl, rfl, h1, ?_⟩
      have f := Fut.wrote (W := W) (H := H) (o := .lst []) e1 h1 trivial
      exact p W _ f (m.wrote e1 ⟨[], upd_same, rfl⟩) _ rfl
    · exact p.elim
  · exact p.elim
def intOf : D → Option Int
  | .int i => some i
  | _ => none
theorem intOf_eq {d : D} {i : Int} (h : intOf d = some i) : d = .int i := by
  cases d <;> first
    | (cases h; rfl)
    | cases h
def intsOf : List D → Option (List Int)
  | [] => some []
  | d :: r => match intOf d, intsOf r with
    | some i, some l => some (i :: l)
    | _, _ => none
theorem intsOf_map (ns : List Int) : intsOf (ns.map .int) = some ns := by
  induction ns with
  | nil => rfl
  | cons n r ih => rw [List.map_cons, intsOf, ih]; rfl
theorem intsOf_ok : ∀ {l : List D} {us : List V} {ns : List Int}, RpL G W H l us → intsOf l = some ns → us = ns.map V.int
  | [], us, ns, r, e => by have : us = [] := r; subst this; cases e; rfl
  | d :: l, us, ns, r, e => by
    obtain ⟨u, us', rfl, r1, r2⟩ := r
    simp only [intsOf] at e
    split at e
    · rename_i i ms h1 h2
      cases e
      rw [intOf_eq h1] at r1
      have : u = .int i := r1
      rw [this, intsOf_ok r2 h2]
      rfl
    · cases e
def least (a : Int) : List Int → Int
  | [] => a
  | b :: r => least (if b < a then b else a) r
theorem least_mem : ∀ (l : List Int) (a : Int), least a l ∈ a :: l
  | [], a => by simp [least]
  | b :: r, a => by
    have := least_mem r (if b < a then b else a)
    unfold least
    rcases List.mem_cons.mp this with h | h
    · by_cases hb : b < a
      · rw [if_pos hb] at h ⊢; rw [h]; simp
      · rw [if_neg hb] at h ⊢; rw [h]; simp
    · exact List.mem_cons_of_mem _ (List.mem_cons_of_mem _ h)
theorem least_le : ∀ (l : List Int) (a : Int), ∀ y ∈ a :: l, least a l ≤ y
  | [], a, y, h => by simp at h; subst h; exact Int.le_refl _
  | b :: r, a, y, h => by
    unfold least
    have ih := least_le r (if b < a then b else a)
    have h0 := ih (if b < a then b else a) (List.mem_cons_self ..)
    rcases List.mem_cons.mp h with h | h
    · subst h
      refine Int.le_trans h0 ?_
      split <;> omega
    · rcases List.mem_cons.mp h with h | h
      · subst h
        refine Int.le_trans h0 ?_
        split <;> omega
      · exact ih y (List.mem_cons_of_mem _ h)
def oMinL : List D → Mem → R D
  | [d], M => match (lstOf M d).bind intsOf with
    | some (x :: r) => .ok (.int (least x r)) M
    | _ => .no
  | _, _ => .no
theorem fn_minL : Fn1 G E (rMin G.K) oMinL := fun W H M ds us Q m r p => by
  unfold oMinL at p
  split at p
  · rename_i d
    obtain ⟨u, rfl, r1⟩ := rp_one r
    split at p
    · rename_i x rs e
      cases q : lstOf M d with
      | none => rw [q] at e; cases e
      | some l =>
        rw [q] at e
        have e' : intsOf l = some (x :: rs) := e
        obtain ⟨a1, vs, rfl, h2, h3⟩ := lstOf_ok m r1 q
        refine ⟨a1, x :: rs, rfl, by rw [← intsOf_ok h3 e']; exact h2, by simp, fun mm hm hall => ?_⟩
        have : mm = least x rs := Int.le_antisymm (hall _ (least_mem rs x)) (least_le rs x mm hm)
        subst this
        exact p.here m _ rfl
    · exact p.elim
  · exact p.elim
end
end Fn

set_option Elab.async false
set_option linter.all false
set_option maxRecDepth 100000
set_option maxHeartbeats 4000000
/-! FnLaw2: evaluation lemmas for instances; plain things; feeds, draws, mixed. -/
namespace Fn
open PySem PySem.Spec PyProof.Rows L2
section
variable {env : Env} {M : Mem}
theorem mFld_eq (c0 : Nat) (f : Str) (fa : FE) : mFld c0 f fa env M = (fa env M).bind fun d m => match insOf c0 m d with | some (_, fs) => (match fs.lookup f with | some v => .ok v m | none => .no) | none => .no := rfl
theorem mFldSet_eq (c0 : Nat) (f : Str) (fa fv : FE) : mFldSet c0 f fa fv env M = (fv env M).bind fun v m => (fa env m).bind fun d m2 => match insOf c0 m2 d with | some (i, fs) => if fs.length < 1000 then .ok (.nx env) (m2.set i (.ins c0 (putD f v fs))) else .no | none => .no := rfl
theorem mFldAug_eq (c0 : Nat) (f : Str) (g : Int → Int → Int) (fa fv : FE) : mFldAug c0 f g fa fv env M = (fa env M).bind fun d m => match insOf c0 m d with | some (i, fs) => (match fs.lookup f with | some (.int x) => (fv env m).bind fun v m2 => (match v, insOf c0 m2 d with | .int y, some (_, fs') => if fs'.length < 1000 then .ok (.nx env) (m2.set i (.ins c0 (putD f (.int (g x y)) fs'))) else .no | _, _ => .no) | _ => .no) | none => .no := rfl
theorem mMth_eq (c0 : Nat) (x : Str) (n : Nat) (g : FD) (dd : List D) (fo : FE) (ga : FA) : mMth c0 x n g dd fo ga env M = (fo env M).bind fun d m => match insOf c0 m d with | some (_, fs) => (match fs.lookup x with | none => (ga env m).bind fun ds m2 => if (d :: (ds ++ dd)).length = n then g (d :: (ds ++ dd)) m2 else .no | some _ => .no) | none => .no := rfl
theorem mMake_eq (c0 n : Nat) (g : FD) (dd : List D) (ga : FA) : mMake c0 n g dd ga env M = (ga env M).bind fun ds m => if (D.ref m.length :: (ds ++ dd)).length = n then (g (D.ref m.length :: (ds ++ dd)) (m ++ [.ins c0 []])).bind fun r m2 => (match r with | .non => .ok (.ref m.length) m2 | _ => .no) else .no := rfl
theorem mMakeKw_eq (c0 nk n : Nat) (π : Perm2) (dd : List D) (g : FD) (gk : FA) : mMakeKw c0 nk n π dd g gk env M = (gk env M).bind fun zs m => if zs.length = nk ∧ (π.on [D.ref m.length] (zs ++ dd)).length = n then (g (π.on [D.ref m.length] (zs ++ dd)) (m ++ [.ins c0 []])).bind fun r m2 => (match r with | .non => .ok (.ref m.length) m2 | _ => .no) else .no := rfl
theorem insOf_at {c0 i : Nat} {fs : List (Str × D)} (h : M[i]? = some (.ins c0 fs)) : insOf c0 M (.ref i) = some (i, fs) := by
  simp only [insOf, h, if_true]
theorem lstOf_at {i : Nat} {l : List D} (h : M[i]? = some (.lst l)) : lstOf M (.ref i) = some l := by simp only [lstOf, h]
theorem oLen_ref {i : Nat} {l : List D} (h : M[i]? = some (.lst l)) : oLen [.ref i] M = .ok (.int l.length) M := by
  simp only [oLen, seqOf, lstOf, h]
  all_goals rfl
theorem oAppend_at {i : Nat} {l : List D} {d : D} (h : M[i]? = some (.lst l)) (hl : l.length < 16777216) : oAppend (.ref i) [d] M = .ok .non (M.set i (.lst (l ++ [d]))) := by
  simp only [oAppend, h, if_pos hl]
theorem oExtend_at {i : Nat} {l l' : List D} {d : D} (h : M[i]? = some (.lst l)) (h' : ownOf M d = some l') (hl : l.length + l'.length ≤ 16777216) : oExtend (.ref i) [d] M = .ok .non (M.set i (.lst (l ++ l'))) := by
  simp only [oExtend, h, h', if_pos hl]
theorem tyOk_at {i : Nat} {l : List D} (h : M[i]? = some (.lst l)) : tyOk "list" M (.ref i) = true := by
  simp only [tyOk, h]
  all_goals rfl
theorem whileM_succ (c : FT) (body : FS) (n : Nat) (env : Env) (M : Mem) : whileM c body (n + 1) env M = (c env M).bind fun b m => if b = true then (body env m).bind fun fl m' => (match fl with
      | .nx env' => whileM c body n env' m'
      | .ct env' => whileM c body n env' m'
      | .bk env' => .ok (.nx env') m'
      | .rt d => .ok (.rt d) m')
    else .ok (.nx env) m := rfl
theorem compL_nilP {P : Mem → Prop} {g : FG} {t : FT} {f : FE} (hP : P M) : compL P g t f env [] M = .ok [] M := by
  unfold compL; rw [if_pos hP]
theorem compL_consP {P : Mem → Prop} {g : FG} {t : FT} {f : FE} {d : D} {r : List D} (hP : P M) : compL P g t f env (d :: r) M = (g d env M).bind fun env1 m1 => (t env1 m1).bind fun b m2 => if b = true then (f env1 m2).bind fun y m3 => (compL P g t f env r m3).bind fun ys m4 => .ok (y :: ys) m4 else compL P g t f env r m2 := by
  conv => lhs; unfold compL
  rw [if_pos hP]
/-- a comprehension that leaves the memory -/
theorem compL_pureP {P : Mem → Prop} (hP : P M) {g : FG} {t : FT} {f : FE} (T : D → Bool) (F : D → D) : ∀ (items : List D), (∀ d ∈ items, ∃ env1, g d env M = .ok env1 M ∧ t env1 M = .ok (T d) M ∧ (T d = true → f env1 M = .ok (F d) M)) →
    compL P g t f env items M = .ok ((items.filter T).map F) M
  | [], _ => compL_nilP hP
  | d :: r, h => by
    obtain ⟨env1, h1, h2, h3⟩ := h d (List.mem_cons_self ..)
    have ih := compL_pureP hP T F r fun d' hd => h d' (List.mem_cons_of_mem _ hd)
    rw [compL_consP hP, h1, R.bind_ok, h2, R.bind_ok]
    cases ht : T d with
    | true => rw [if_pos rfl, h3 ht, R.bind_ok, ih, R.bind_ok, List.filter_cons_of_pos ht, List.map_cons]
    | false => rw [if_neg Bool.false_ne_true, ih, List.filter_cons_of_neg (by simp [ht])]
end
/-! ### plain things -/
def Pl (n : Nat) (d : D) : Prop := ∃ p, pyD d = some p ∧ p.depth ≤ n
def PlL (n : Nat) (l : List D) : Prop := ∀ d ∈ l, Pl n d
theorem PlL.py {n : Nat} : ∀ {l : List D}, PlL n l → ∃ ps, pyL l = some ps ∧ PyData.depthAll ps ≤ n
  | [], _ => ⟨[], rfl, Nat.zero_le _⟩
  | d :: r, h => by
    obtain ⟨p, h1, h2⟩ := h d (List.mem_cons_self ..)
    obtain ⟨ps, h3, h4⟩ := PlL.py (l := r) fun x hx => h x (List.mem_cons_of_mem _ hx)
    refine ⟨p :: ps, by simp only [pyL, h1, h3], ?_⟩
    simp only [PyData.depthAll]
    omega
theorem Pl.str {n : Nat} (x : List Nat) : Pl n (.str x) := ⟨_, rfl, by simp only [PyData.depth]; omega⟩
theorem Pl.int {n : Nat} (x : Int) : Pl n (.int x) := ⟨_, rfl, by simp only [PyData.depth]; omega⟩
theorem Pl.non {n : Nat} : Pl n .non := ⟨_, rfl, by simp only [PyData.depth]; omega⟩
theorem Pl.bl {n : Nat} (x : Bool) : Pl n (.bl x) := ⟨_, rfl, by simp only [PyData.depth]; omega⟩
theorem Pl.tup {n : Nat} {l : List D} (h : PlL n l) : Pl (n + 1) (.tup l) := by
  obtain ⟨ps, h1, h2⟩ := h.py
  exact ⟨.tuple ps, by simp only [pyD, h1, Option.map_some], by simp only [PyData.depth]; omega⟩
theorem Pl.lst {n : Nat} {l : List D} (h : PlL n l) : Pl (n + 1) (.lst l) := by
  obtain ⟨ps, h1, h2⟩ := h.py
  exact ⟨.list ps, by simp only [pyD, h1, Option.map_some], by simp only [PyData.depth]; omega⟩
theorem Pl.mono {n m : Nat} {d : D} (h : Pl n d) (hm : n ≤ m) : Pl m d := by
  obtain ⟨p, h1, h2⟩ := h
  exact ⟨p, h1, by omega⟩
theorem PlL.nil {n : Nat} : PlL n [] := fun d h => by cases h
theorem PlL.cons {n : Nat} {d : D} {l : List D} (h : Pl n d) (t : PlL n l) : PlL n (d :: l) := fun x hx => by
  rcases List.mem_cons.mp hx with rfl | hx
  · exact h
  · exact t x hx
mutual
theorem pyD_bd {n : Nat} : ∀ {d : D} {p : PyData}, pyD d = some p → bdD n d = true
  | .non, _, _ => rfl
  | .bl _, _, _ => rfl
  | .int _, _, _ => rfl
  | .str _, _, _ => rfl
  | .tup l, p, e => by
    simp only [pyD] at e
    cases q : pyL l with
    | none => rw [q] at e; cases e
    | some ps => exact pyL_bd q
  | .lst l, p, e => by
    simp only [pyD] at e
    cases q : pyL l with
    | none => rw [q] at e; cases e
    | some ps => exact pyL_bd q
  | .fz l, p, e => by
    simp only [pyD] at e
    cases q : pyL l with
    | none => rw [q] at e; cases e
    | some ps => exact pyL_bd q
  | .ref i, p, e => by cases e
theorem pyL_bd {n : Nat} : ∀ {l : List D} {ps : List PyData}, pyL l = some ps → bdL n l = true
  | [], _, _ => rfl
  | d :: l, ps, e => by
    simp only [pyL] at e
    split at e
    · rename_i a b h1 h2
      simp only [bdL, pyD_bd h1, pyL_bd h2, Bool.and_self]
    · cases e
end
theorem PlL.bd {k n : Nat} {l : List D} (h : PlL k l) : bdL n l = true := by
  obtain ⟨ps, h1, _⟩ := h.py
  exact pyL_bd h1
mutual
theorem frzD_py (m : Mem) (n : Nat) : ∀ (d : D) (p : PyData), pyD d = some p → frzD m n d = d
  | .non, _, _ => rfl
  | .bl _, _, _ => rfl
  | .int _, _, _ => rfl
  | .str _, _, _ => rfl
  | .tup l, p, e => by
    simp only [pyD] at e
    cases q : pyL l with
    | none => rw [q] at e; cases e
    | some ps => simp only [frzD, frzL_py m n l ps q]
  | .lst l, p, e => by
    simp only [pyD] at e
    cases q : pyL l with
    | none => rw [q] at e; cases e
    | some ps => simp only [frzD, frzL_py m n l ps q]
  | .fz l, p, e => by
    simp only [pyD] at e
    cases q : pyL l with
    | none => rw [q] at e; cases e
    | some ps => simp only [frzD, frzL_py m n l ps q]
  | .ref i, p, e => by cases e
theorem frzL_py (m : Mem) (n : Nat) : ∀ (l : List D) (ps : List PyData), pyL l = some ps → frzL m n l = l
  | [], _, _ => rfl
  | d :: l, ps, e => by
    simp only [pyL] at e
    split at e
    · rename_i a b h1 h2
      simp only [frzL, frzD_py m n d a h1, frzL_py m n l b h2]
    · cases e
end
theorem pyM_lst {M : Mem} {d : D} {l : List D} {ps : List PyData} (h1 : pyL l = some ps) (h : lstOf M d = some l) : pyM M d = some (.list ps) := by
  cases d with
  | lst l' => cases h; simp only [pyM, pyGo, pyGoL_of h1, Option.map_some]
  | fz l' => cases h; simp only [pyM, pyGo, pyGoL_of h1, Option.map_some]
  | ref i =>
    simp only [lstOf] at h
    split at h
    · rename_i l' hc
      cases h
      simp only [pyM, pyGo, kN, hc, pyGoL_of h1, Option.map_some]
    · cases h
  | _ => cases h
/-- equal to itself -/
theorem oEq_self {n : Nat} {ne : Bool} {a b : D} {l : List D} {M : Mem} (hl : PlL n l) (hn : n ≤ 50) (ha : lstOf M a = some l) (hb : lstOf M b = some l) : oEq ne a b M = .ok (.bl (!ne)) M := by
  obtain ⟨ps, h1, h2⟩ := hl.py
  have k : ∀ {d : D}, lstOf M d = some l → pyM M d = some (.list ps) := fun {d} h => pyM_lst h1 h
  have hp : (PyData.list ps).plain = true := by simp only [PyData.plain]; exact pyL_plain h1
  have hd : min (PyData.list ps).depth (PyData.list ps).depth ≤ 60 := by simp only [PyData.depth]; omega
  have he : PyData.eqv (.list ps) (.list ps) = true := PySem.SeqAt.eqv_refl_plain _ hp
  simp only [oEq, k ha, k hb, if_pos hd, he]
  cases ne <;> rfl
theorem pyL_len : ∀ {l : List D} {ps : List PyData}, pyL l = some ps → ps.length = l.length
  | [], ps, e => by cases e; rfl
  | d :: l, ps, e => by
    simp only [pyL] at e
    split at e
    · rename_i a b h1 h2
      cases e
      simp [pyL_len h2]
    · cases e
/-- beside the empty list -/
theorem oEq_nil {n : Nat} {ne : Bool} {a : D} {l : List D} {M : Mem} (hl : PlL n l) (ha : lstOf M a = some l) : oEq ne a (.lst []) M = .ok (.bl (ne != l.isEmpty)) M := by
  obtain ⟨ps, h1, h2⟩ := hl.py
  have k : pyM M a = some (.list ps) := pyM_lst h1 ha
  have k2 : pyM M (.lst []) = some (.list []) := rfl
  have hd : min (PyData.list ps).depth (PyData.list []).depth ≤ 60 := by simp only [PyData.depth, PyData.depthAll]; omega
  simp only [oEq, k, k2, if_pos hd]
  have hlen := pyL_len h1
  cases ps with
  | nil => cases l with
    | nil => cases ne <;> rfl
    | cons d r => cases hlen
  | cons p r => cases l with
    | nil => cases hlen
    | cons d r => cases ne <;> rfl
theorem oEq_tnil {n : Nat} {ne : Bool} {l : List D} {M : Mem} (hl : PlL n l) : oEq ne (.tup l) (.tup []) M = .ok (.bl (ne != l.isEmpty)) M := by
  obtain ⟨ps, h1, h2⟩ := hl.py
  have k : pyM M (.tup l) = some (.tuple ps) := by simp only [pyM, pyGo, pyGoL_of h1, Option.map_some]
  have k2 : pyM M (.tup []) = some (.tuple []) := rfl
  have hd : min (PyData.tuple ps).depth (PyData.tuple []).depth ≤ 60 := by simp only [PyData.depth, PyData.depthAll]; omega
  simp only [oEq, k, k2, if_pos hd]
  have hlen := pyL_len h1
  cases ps with
  | nil => cases l with
    | nil => cases ne <;> rfl
    | cons d r => cases hlen
  | cons p r => cases l with
    | nil => cases hlen
    | cons d r => cases ne <;> rfl
/-! ### feeds -/
structure Fd where
  own : Int
  seed : Int
  cnt : Int
def Fd.c (s : Fd) : Cell := .lst [.int s.own, .int s.seed, .int s.cnt]
structure FdAt (M0 : Mem) (i : Nat) (M : Mem) : Prop where
  at_ : ∃ s : Fd, M = M0.set i s.c
  lt : i < M0.length
theorem FdAt.get {M0 M : Mem} {i : Nat} (h : FdAt M0 i M) : ∃ s : Fd, M[i]? = some s.c ∧ ∀ s' : Fd, FdAt M0 i (M.set i s'.c) := by
  obtain ⟨s, h2⟩ := h.at_
  exact ⟨s, by rw [h2]; exact List.getElem?_set_self h.lt, fun s' => ⟨⟨s', by rw [h2, set_twice]⟩, h.lt⟩⟩
theorem FdAt.start {M : Mem} {i : Nat} {s : Fd} (h : M[i]? = some s.c) : FdAt M i M := by
  obtain ⟨h1, h2⟩ := List.getElem?_eq_some_iff.mp h
  exact ⟨⟨s, by rw [← h2, List.set_getElem_self]⟩, h1⟩
theorem FdAt.len {M0 M : Mem} {i : Nat} (h : FdAt M0 i M) : M.length = M0.length := by
  obtain ⟨s, h2⟩ := h.at_
  rw [h2, List.length_set]
theorem FdAt.other {M0 M : Mem} {i j : Nat} (h : FdAt M0 i M) (hj : i ≠ j) : M[j]? = M0[j]? := by
  obtain ⟨s, e⟩ := h.at_
  rw [e, List.getElem?_set_ne hj]
theorem FdAt.trans {M0 M1 M2 : Mem} {i : Nat} (h : FdAt M0 i M1) (h' : FdAt M1 i M2) : FdAt M0 i M2 := by
  obtain ⟨s, e⟩ := h.at_
  obtain ⟨s', e'⟩ := h'.at_
  exact ⟨⟨s', by rw [e', e, set_twice]⟩, h.lt⟩
theorem FdAt.self {M0 M1 : Mem} {i : Nat} (h : FdAt M0 i M1) : FdAt M1 i M1 := by
  obtain ⟨s, h1, _⟩ := h.get
  exact .start h1
def feedB : FS := (mSeq (mSet 2 (mOp (oAdd false) (mOp (oMul false) (mC (.int 7643)) (mVar 1)) (mC (.int 41)))) (mSeq (mIfS (bOf (mOp oLt (mVar 1) (mCall oLen (aCons (mVar 0) aNil)))) (mSet 2 (mCall oAbs (aCons (mOp oIx (mVar 0) (mVar 1)) aNil))) (mIfS (bOf (mOp oGt (mCall oLen (aCons (mVar 0) aNil)) (mC (.int 0)))) (mSet 2 (mOp (oAdd false) (mVar 2) (mOp (oMul false) (mOp oMod (mOp oIx (mVar 0) (mOp oMod (mVar 1) (mCall oLen (aCons (mVar 0) aNil)))) (mC (.int 2147483629))) (mC (.int 69623))))) mPass)) (mSeq (mSet 3 (mOp (oAdd false) (mOp oMod (mOp (oAdd false) (mOp (oAdd false) (mOp (oMul false) (mOp oMod (mVar 2) (mC (.int 2147483629))) (mC (.int 48271))) (mOp (oMul false) (mC (.int 40692)) (mVar 1))) (mC (.int 11))) (mC (.int 2147483629))) (mC (.int 1)))) (mRet (mLst true (aCons (mOp oIx (mLst false (aCons (mC (.int 0)) (aCons (mVar 2) aNil))) (mCall oInt (aCons (mOp oGe (mVar 2) (mOp oPow (mC (.int 10)) (mC (.int 18)))) aNil))) (aCons (mVar 3) (aCons (mC (.int 0)) aNil))))))))
theorem j1 : -18446744073709551616 < (7643 : Int) := by omega
theorem j2 : (7643 : Int) < 18446744073709551616 := by omega
theorem j3 : -18446744073709551616 < (69623 : Int) := by omega
theorem j4 : (69623 : Int) < 18446744073709551616 := by omega
theorem j5 : -18446744073709551616 < (104729 : Int) := by omega
theorem j6 : (104729 : Int) < 18446744073709551616 := by omega
theorem j7 : -18446744073709551616 < (2147483647 : Int) := by omega
theorem j8 : (2147483647 : Int) < 18446744073709551616 := by omega
theorem oAbs_int {M : Mem} (i : Int) : oAbs [.int i] M = .ok (.int (if i < 0 then -i else i)) M := rfl
theorem at20 {α : Type} (a b : α) : atI [a, b] 0 = some a := rfl
theorem at21 {α : Type} (a b : α) : atI [a, b] 1 = some b := rfl
theorem feed_run (ns : List Int) (k : Nat) (M : Mem) : ∃ s : Fd, feedB [some (.fz (intsD ns)), some (.int k), none, none] M = .ok (.rt (.ref M.length)) (M ++ [s.c]) := by
  have tail : ∀ c : Int, ∃ s : Fd, ((mSeq (mSet 3 (mOp (oAdd false) (mOp oMod (mOp (oAdd false) (mOp (oAdd false) (mOp (oMul false) (mOp oMod (mVar 2) (mC (.int 2147483629))) (mC (.int 48271))) (mOp (oMul false) (mC (.int 40692)) (mVar 1))) (mC (.int 11))) (mC (.int 2147483629))) (mC (.int 1)))) (mRet (mLst true (aCons (mOp oIx (mLst false (aCons (mC (.int 0)) (aCons (mVar 2) aNil))) (mCall oInt (aCons (mOp oGe (mVar 2) (mOp oPow (mC (.int 10)) (mC (.int 18)))) aNil))) (aCons (mVar 3) (aCons (mC (.int 0)) aNil)))))) [some (.fz (intsD ns)), some (.int k), some (.int c), none] M : R Flow) = .ok (.rt (.ref M.length)) (M ++ [s.c]) := by
    intro c
    by_cases h : 1000000000000000000 ≤ c
    · refine ⟨⟨c, (c % 2147483629 * 48271 + 40692 * k + 11) % 2147483629 + 1, 0⟩, ?_⟩
      simp -implicitDefEqProofs only [mSeq_eq, mIfS_eq, mSet_eq, mRet_eq, mRetN_eq, mExpr_eq, mPass_eq, mAsg_eq, mPar_eq, mAug_eq, bOf_eq, tOf_eq, tAndM_eq, tOrM_eq, tNotM_eq, tsYes_eq, mOp_eq, mUn_eq, mVar_eq, mC_eq, mCall_eq, mFun_eq, mFunKw_eq, mMeth_eq, mAnd_eq, mOr_eq, mNot_eq, mIf_eq, mChain_eq, mSl_eq, pNone_eq, pSome_eq, aCons_eq, aNil_eq, mTup_eq, mLst_eq, gN_eq, gT_eq, gsNil_eq, gsCons_eq, mkL_t, mkL_f, R.bind_ok, R.bind_no, R.nox_ok, List.getElem?_cons_zero, List.getElem?_cons_succ, List.set_cons_zero, List.set_cons_succ, List.length_cons, List.length_nil, List.append_nil, List.nil_append, List.cons_append, piApp_on, oLen_fz, oLen_lst, oLen_tup, oLt_int, oLe_int, oGt_int, oGe_int, oAdd_int, oSub_int, oIx_fz, oIx_lst, oIx_tup, oMax_int, oMin_int, oInt_bl, oInt_int, oIsi_bl, oNeg_int, oTuple_lst, oTuple_tup, iR1_eq, iR2_eq, iSq_eq, iStrM_eq, srcOf_tup, srcOf_lst, srcOf_fz, if_true, if_false, Bool.false_eq_true, Bool.true_eq_false, reduceIte, Nat.reduceAdd, Nat.reduceLeDiff, Nat.reduceEqDiff, decide_true, decide_false, and_self, and_true, true_and, pow_10_18, decide_eq_true h, oMod_int _ 2147483629 i5, oMul_r _ _ 48271 i6 i7, oMul_l _ 40692 _ i11 i12, at21]
      rfl
    · refine ⟨⟨0, (c % 2147483629 * 48271 + 40692 * k + 11) % 2147483629 + 1, 0⟩, ?_⟩
      simp -implicitDefEqProofs only [mSeq_eq, mIfS_eq, mSet_eq, mRet_eq, mRetN_eq, mExpr_eq, mPass_eq, mAsg_eq, mPar_eq, mAug_eq, bOf_eq, tOf_eq, tAndM_eq, tOrM_eq, tNotM_eq, tsYes_eq, mOp_eq, mUn_eq, mVar_eq, mC_eq, mCall_eq, mFun_eq, mFunKw_eq, mMeth_eq, mAnd_eq, mOr_eq, mNot_eq, mIf_eq, mChain_eq, mSl_eq, pNone_eq, pSome_eq, aCons_eq, aNil_eq, mTup_eq, mLst_eq, gN_eq, gT_eq, gsNil_eq, gsCons_eq, mkL_t, mkL_f, R.bind_ok, R.bind_no, R.nox_ok, List.getElem?_cons_zero, List.getElem?_cons_succ, List.set_cons_zero, List.set_cons_succ, List.length_cons, List.length_nil, List.append_nil, List.nil_append, List.cons_append, piApp_on, oLen_fz, oLen_lst, oLen_tup, oLt_int, oLe_int, oGt_int, oGe_int, oAdd_int, oSub_int, oIx_fz, oIx_lst, oIx_tup, oMax_int, oMin_int, oInt_bl, oInt_int, oIsi_bl, oNeg_int, oTuple_lst, oTuple_tup, iR1_eq, iR2_eq, iSq_eq, iStrM_eq, srcOf_tup, srcOf_lst, srcOf_fz, if_true, if_false, Bool.false_eq_true, Bool.true_eq_false, reduceIte, Nat.reduceAdd, Nat.reduceLeDiff, Nat.reduceEqDiff, decide_true, decide_false, and_self, and_true, true_and, pow_10_18, decide_eq_false h, oMod_int _ 2147483629 i5, oMul_r _ _ 48271 i6 i7, oMul_l _ 40692 _ i11 i12, at20]
      rfl
  by_cases h : k < ns.length
  · have h' : decide ((k : Int) < (ns.length : Int)) = true := decide_eq_true (by omega)
    have hat : atI (ns.map D.int) (k : Int) = some (.int ns[k]) := atI_nat (by simp [h])
    obtain ⟨s, hs⟩ := tail (if ns[k] < 0 then -ns[k] else ns[k])
    refine ⟨s, ?_⟩
    unfold feedB
    rw [mSeq_eq]
    simp -implicitDefEqProofs only [mSeq_eq, mIfS_eq, mSet_eq, mRet_eq, mRetN_eq, mExpr_eq, mPass_eq, mAsg_eq, mPar_eq, mAug_eq, bOf_eq, tOf_eq, tAndM_eq, tOrM_eq, tNotM_eq, tsYes_eq, mOp_eq, mUn_eq, mVar_eq, mC_eq, mCall_eq, mFun_eq, mFunKw_eq, mMeth_eq, mAnd_eq, mOr_eq, mNot_eq, mIf_eq, mChain_eq, mSl_eq, pNone_eq, pSome_eq, aCons_eq, aNil_eq, mTup_eq, mLst_eq, gN_eq, gT_eq, gsNil_eq, gsCons_eq, mkL_t, mkL_f, R.bind_ok, R.bind_no, R.nox_ok, List.getElem?_cons_zero, List.getElem?_cons_succ, List.set_cons_zero, List.set_cons_succ, List.length_cons, List.length_nil, List.append_nil, List.nil_append, List.cons_append, piApp_on, oLen_fz, oLen_lst, oLen_tup, oLt_int, oLe_int, oGt_int, oGe_int, oAdd_int, oSub_int, oIx_fz, oIx_lst, oIx_tup, oMax_int, oMin_int, oInt_bl, oInt_int, oIsi_bl, oNeg_int, oTuple_lst, oTuple_tup, iR1_eq, iR2_eq, iSq_eq, iStrM_eq, srcOf_tup, srcOf_lst, srcOf_fz, if_true, if_false, Bool.false_eq_true, Bool.true_eq_false, reduceIte, Nat.reduceAdd, Nat.reduceLeDiff, Nat.reduceEqDiff, decide_true, decide_false, and_self, and_true, true_and, intsD, List.length_map, h', hat, oMul_l _ 7643 _ j1 j2, oAbs_int]
    simp -implicitDefEqProofs only [mSeq_eq, mIfS_eq, mSet_eq, mRet_eq, mRetN_eq, mExpr_eq, mPass_eq, mAsg_eq, mPar_eq, mAug_eq, bOf_eq, tOf_eq, tAndM_eq, tOrM_eq, tNotM_eq, tsYes_eq, mOp_eq, mUn_eq, mVar_eq, mC_eq, mCall_eq, mFun_eq, mFunKw_eq, mMeth_eq, mAnd_eq, mOr_eq, mNot_eq, mIf_eq, mChain_eq, mSl_eq, pNone_eq, pSome_eq, aCons_eq, aNil_eq, mTup_eq, mLst_eq, gN_eq, gT_eq, gsNil_eq, gsCons_eq, mkL_t, mkL_f, R.bind_ok, R.bind_no, R.nox_ok, List.getElem?_cons_zero, List.getElem?_cons_succ, List.set_cons_zero, List.set_cons_succ, List.length_cons, List.length_nil, List.append_nil, List.nil_append, List.cons_append, piApp_on, oLen_fz, oLen_lst, oLen_tup, oLt_int, oLe_int, oGt_int, oGe_int, oAdd_int, oSub_int, oIx_fz, oIx_lst, oIx_tup, oMax_int, oMin_int, oInt_bl, oInt_int, oIsi_bl, oNeg_int, oTuple_lst, oTuple_tup, iR1_eq, iR2_eq, iSq_eq, iStrM_eq, srcOf_tup, srcOf_lst, srcOf_fz, if_true, if_false, Bool.false_eq_true, Bool.true_eq_false, reduceIte, Nat.reduceAdd, Nat.reduceLeDiff, Nat.reduceEqDiff, decide_true, decide_false, and_self, and_true, true_and, intsD] at hs
    exact hs
  · have h' : decide ((k : Int) < (ns.length : Int)) = false := decide_eq_false (by omega)
    by_cases h0 : 0 < ns.length
    · have h0' : decide ((0 : Int) < (ns.length : Int)) = true := decide_eq_true (by omega)
      have hk : (k : Int) % (ns.length : Int) = ((k % ns.length : Nat) : Int) := by simp
      have hl : k % ns.length < ns.length := Nat.mod_lt _ h0
      have hat : atI (ns.map D.int) ((k % ns.length : Nat) : Int) = some (.int (ns[k % ns.length])) := atI_nat (by
        rw [List.getElem?_map, List.getElem?_eq_getElem hl]
        rfl)
      obtain ⟨s, hs⟩ := tail (7643 * (k : Int) + 41 + ns[k % ns.length] % 2147483629 * 69623)
      refine ⟨s, ?_⟩
      unfold feedB
      simp -implicitDefEqProofs only [mSeq_eq, mIfS_eq, mSet_eq, mRet_eq, mRetN_eq, mExpr_eq, mPass_eq, mAsg_eq, mPar_eq, mAug_eq, bOf_eq, tOf_eq, tAndM_eq, tOrM_eq, tNotM_eq, tsYes_eq, mOp_eq, mUn_eq, mVar_eq, mC_eq, mCall_eq, mFun_eq, mFunKw_eq, mMeth_eq, mAnd_eq, mOr_eq, mNot_eq, mIf_eq, mChain_eq, mSl_eq, pNone_eq, pSome_eq, aCons_eq, aNil_eq, mTup_eq, mLst_eq, gN_eq, gT_eq, gsNil_eq, gsCons_eq, mkL_t, mkL_f, R.bind_ok, R.bind_no, R.nox_ok, List.getElem?_cons_zero, List.getElem?_cons_succ, List.set_cons_zero, List.set_cons_succ, List.length_cons, List.length_nil, List.append_nil, List.nil_append, List.cons_append, piApp_on, oLen_fz, oLen_lst, oLen_tup, oLt_int, oLe_int, oGt_int, oGe_int, oAdd_int, oSub_int, oIx_fz, oIx_lst, oIx_tup, oMax_int, oMin_int, oInt_bl, oInt_int, oIsi_bl, oNeg_int, oTuple_lst, oTuple_tup, iR1_eq, iR2_eq, iSq_eq, iStrM_eq, srcOf_tup, srcOf_lst, srcOf_fz, if_true, if_false, Bool.false_eq_true, Bool.true_eq_false, reduceIte, Nat.reduceAdd, Nat.reduceLeDiff, Nat.reduceEqDiff, decide_true, decide_false, and_self, and_true, true_and, intsD, List.length_map, h', h0', hk, hat, oMul_l _ 7643 _ j1 j2, oMod_int _ (ns.length : Int) (by omega), oMod_int _ 2147483629 i5, oMul_r _ _ 69623 j3 j4]
      simp -implicitDefEqProofs only [mSeq_eq, mIfS_eq, mSet_eq, mRet_eq, mRetN_eq, mExpr_eq, mPass_eq, mAsg_eq, mPar_eq, mAug_eq, bOf_eq, tOf_eq, tAndM_eq, tOrM_eq, tNotM_eq, tsYes_eq, mOp_eq, mUn_eq, mVar_eq, mC_eq, mCall_eq, mFun_eq, mFunKw_eq, mMeth_eq, mAnd_eq, mOr_eq, mNot_eq, mIf_eq, mChain_eq, mSl_eq, pNone_eq, pSome_eq, aCons_eq, aNil_eq, mTup_eq, mLst_eq, gN_eq, gT_eq, gsNil_eq, gsCons_eq, mkL_t, mkL_f, R.bind_ok, R.bind_no, R.nox_ok, List.getElem?_cons_zero, List.getElem?_cons_succ, List.set_cons_zero, List.set_cons_succ, List.length_cons, List.length_nil, List.append_nil, List.nil_append, List.cons_append, piApp_on, oLen_fz, oLen_lst, oLen_tup, oLt_int, oLe_int, oGt_int, oGe_int, oAdd_int, oSub_int, oIx_fz, oIx_lst, oIx_tup, oMax_int, oMin_int, oInt_bl, oInt_int, oIsi_bl, oNeg_int, oTuple_lst, oTuple_tup, iR1_eq, iR2_eq, iSq_eq, iStrM_eq, srcOf_tup, srcOf_lst, srcOf_fz, if_true, if_false, Bool.false_eq_true, Bool.true_eq_false, reduceIte, Nat.reduceAdd, Nat.reduceLeDiff, Nat.reduceEqDiff, decide_true, decide_false, and_self, and_true, true_and, intsD] at hs
      exact hs
    · have h0' : decide ((0 : Int) < (ns.length : Int)) = false := decide_eq_false (by omega)
      obtain ⟨s, hs⟩ := tail (7643 * (k : Int) + 41)
      refine ⟨s, ?_⟩
      unfold feedB
      simp -implicitDefEqProofs only [mSeq_eq, mIfS_eq, mSet_eq, mRet_eq, mRetN_eq, mExpr_eq, mPass_eq, mAsg_eq, mPar_eq, mAug_eq, bOf_eq, tOf_eq, tAndM_eq, tOrM_eq, tNotM_eq, tsYes_eq, mOp_eq, mUn_eq, mVar_eq, mC_eq, mCall_eq, mFun_eq, mFunKw_eq, mMeth_eq, mAnd_eq, mOr_eq, mNot_eq, mIf_eq, mChain_eq, mSl_eq, pNone_eq, pSome_eq, aCons_eq, aNil_eq, mTup_eq, mLst_eq, gN_eq, gT_eq, gsNil_eq, gsCons_eq, mkL_t, mkL_f, R.bind_ok, R.bind_no, R.nox_ok, List.getElem?_cons_zero, List.getElem?_cons_succ, List.set_cons_zero, List.set_cons_succ, List.length_cons, List.length_nil, List.append_nil, List.nil_append, List.cons_append, piApp_on, oLen_fz, oLen_lst, oLen_tup, oLt_int, oLe_int, oGt_int, oGe_int, oAdd_int, oSub_int, oIx_fz, oIx_lst, oIx_tup, oMax_int, oMin_int, oInt_bl, oInt_int, oIsi_bl, oNeg_int, oTuple_lst, oTuple_tup, iR1_eq, iR2_eq, iSq_eq, iStrM_eq, srcOf_tup, srcOf_lst, srcOf_fz, if_true, if_false, Bool.false_eq_true, Bool.true_eq_false, reduceIte, Nat.reduceAdd, Nat.reduceLeDiff, Nat.reduceEqDiff, decide_true, decide_false, and_self, and_true, true_and, intsD, List.length_map, h', h0', oMul_l _ 7643 _ j1 j2]
      simp -implicitDefEqProofs only [mSeq_eq, mIfS_eq, mSet_eq, mRet_eq, mRetN_eq, mExpr_eq, mPass_eq, mAsg_eq, mPar_eq, mAug_eq, bOf_eq, tOf_eq, tAndM_eq, tOrM_eq, tNotM_eq, tsYes_eq, mOp_eq, mUn_eq, mVar_eq, mC_eq, mCall_eq, mFun_eq, mFunKw_eq, mMeth_eq, mAnd_eq, mOr_eq, mNot_eq, mIf_eq, mChain_eq, mSl_eq, pNone_eq, pSome_eq, aCons_eq, aNil_eq, mTup_eq, mLst_eq, gN_eq, gT_eq, gsNil_eq, gsCons_eq, mkL_t, mkL_f, R.bind_ok, R.bind_no, R.nox_ok, List.getElem?_cons_zero, List.getElem?_cons_succ, List.set_cons_zero, List.set_cons_succ, List.length_cons, List.length_nil, List.append_nil, List.nil_append, List.cons_append, piApp_on, oLen_fz, oLen_lst, oLen_tup, oLt_int, oLe_int, oGt_int, oGe_int, oAdd_int, oSub_int, oIx_fz, oIx_lst, oIx_tup, oMax_int, oMin_int, oInt_bl, oInt_int, oIsi_bl, oNeg_int, oTuple_lst, oTuple_tup, iR1_eq, iR2_eq, iSq_eq, iStrM_eq, srcOf_tup, srcOf_lst, srcOf_fz, if_true, if_false, Bool.false_eq_true, Bool.true_eq_false, reduceIte, Nat.reduceAdd, Nat.reduceLeDiff, Nat.reduceEqDiff, decide_true, decide_false, and_self, and_true, true_and, intsD] at hs
      exact hs
/-- the body of _law_draw -/
def draw2B : FS := (mSeq (mIfS (bOf (mOp oGt (mOp oIx (mVar 0) (mC (.int 0))) (mC (.int 0)))) (mSeq (mSet 2 (mOp oMod (mOp oIx (mVar 0) (mC (.int 0))) (mVar 1))) (mSeq (mAsg (mOp oDiv (mOp oIx (mVar 0) (mC (.int 0))) (mVar 1)) (gIx (mVar 0) (mC (.int 0)))) (mRet (mVar 2)))) mPass) (mSeq (mAsg (mOp (oAdd false) (mOp oIx (mVar 0) (mC (.int 2))) (mC (.int 1))) (gIx (mVar 0) (mC (.int 2)))) (mSeq (mSet 3 (mOp oMod (mOp (oMul false) (mOp (oAdd false) (mOp oIx (mVar 0) (mC (.int 1))) (mOp (oMul false) (mC (.int 104729)) (mOp oIx (mVar 0) (mC (.int 2))))) (mC (.int 69623))) (mC (.int 2147483647)))) (mSeq (mAsg (mOp (oAdd false) (mOp oMod (mOp (oAdd false) (mOp (oMul false) (mVar 3) (mC (.int 48271))) (mC (.int 30103))) (mC (.int 2147483629))) (mC (.int 1))) (gIx (mVar 0) (mC (.int 1)))) (mRet (mOp oMod (mOp oDiv (mOp (oAdd false) (mOp (oMul false) (mVar 3) (mC (.int 2147483647))) (mOp oIx (mVar 0) (mC (.int 1)))) (mC (.int 8191))) (mVar 1)))))))
theorem ix32 : ixN 3 2 = some 2 := rfl
theorem i20 : (0 : Int) < 8191 := by omega
theorem i21 : (8191 : Int) < 1000000000000000000000000 := by omega
theorem draw2_run (s : Fd) (i : Nat) (M : Mem) (many : Int) (h0 : 0 < many) (h1 : many < 1000000000000000000000000) (hM : M[i]? = some s.c) :
    ∃ (v : Int) (s' : Fd), 0 ≤ v ∧ v < many ∧ draw2B [some (.ref i), some (.int many), none, none] M = .ok (.rt (.int v)) (M.set i s'.c) := by
  have hi : i < M.length := (List.getElem?_eq_some_iff.mp hM).1
  have hM' : M[i]? = some (.lst [.int s.own, .int s.seed, .int s.cnt]) := hM
  by_cases h : 0 < s.own
  · refine ⟨s.own % many, ⟨s.own / many, s.seed, s.cnt⟩, Int.emod_nonneg _ (by omega), Int.emod_lt_of_pos _ h0, ?_⟩
    simp -implicitDefEqProofs only [mSeq_eq, mIfS_eq, mSet_eq, mRet_eq, mRetN_eq, mExpr_eq, mPass_eq, mAsg_eq, mPar_eq, mAug_eq, bOf_eq, tOf_eq, tAndM_eq, tOrM_eq, tNotM_eq, tsYes_eq, mOp_eq, mUn_eq, mVar_eq, mC_eq, mCall_eq, mFun_eq, mFunKw_eq, mMeth_eq, mAnd_eq, mOr_eq, mNot_eq, mIf_eq, mChain_eq, mSl_eq, pNone_eq, pSome_eq, aCons_eq, aNil_eq, mTup_eq, mLst_eq, gN_eq, gT_eq, gsNil_eq, gsCons_eq, mkL_t, mkL_f, R.bind_ok, R.bind_no, R.nox_ok, List.getElem?_cons_zero, List.getElem?_cons_succ, List.set_cons_zero, List.set_cons_succ, List.length_cons, List.length_nil, List.append_nil, List.nil_append, List.cons_append, piApp_on, oLen_fz, oLen_lst, oLen_tup, oLt_int, oLe_int, oGt_int, oGe_int, oAdd_int, oSub_int, oIx_fz, oIx_lst, oIx_tup, oMax_int, oMin_int, oInt_bl, oInt_int, oIsi_bl, oNeg_int, oTuple_lst, oTuple_tup, iR1_eq, iR2_eq, iSq_eq, iStrM_eq, srcOf_tup, srcOf_lst, srcOf_fz, if_true, if_false, Bool.false_eq_true, Bool.true_eq_false, reduceIte, Nat.reduceAdd, Nat.reduceLeDiff, Nat.reduceEqDiff, decide_true, decide_false, and_self, and_true, true_and, draw2B, oIx_ref hM', at0, decide_eq_true h, oMod_int _ many h0, oDiv_int _ many (div_ok h0 h1 _), gIx_eq, hM', ix30]
    rfl
  · have hset : (M.set i (.lst [.int s.own, .int s.seed, .int (s.cnt + 1)]))[i]? = some (.lst [.int s.own, .int s.seed, .int (s.cnt + 1)]) := List.getElem?_set_self hi
    obtain ⟨n1, hn1⟩ : ∃ n1, (s.seed + 104729 * (s.cnt + 1)) * 69623 % 2147483647 = n1 := ⟨_, rfl⟩
    obtain ⟨n2, hn2⟩ : ∃ n2, (n1 * 48271 + 30103) % 2147483629 + 1 = n2 := ⟨_, rfl⟩
    have hset2 : (M.set i (.lst [.int s.own, .int n2, .int (s.cnt + 1)]))[i]? = some (.lst [.int s.own, .int n2, .int (s.cnt + 1)]) := List.getElem?_set_self hi
    refine ⟨(n1 * 2147483647 + n2) / 8191 % many, ⟨s.own, n2, s.cnt + 1⟩, Int.emod_nonneg _ (by omega), Int.emod_lt_of_pos _ h0, ?_⟩
    simp -implicitDefEqProofs only [mSeq_eq, mIfS_eq, mSet_eq, mRet_eq, mRetN_eq, mExpr_eq, mPass_eq, mAsg_eq, mPar_eq, mAug_eq, bOf_eq, tOf_eq, tAndM_eq, tOrM_eq, tNotM_eq, tsYes_eq, mOp_eq, mUn_eq, mVar_eq, mC_eq, mCall_eq, mFun_eq, mFunKw_eq, mMeth_eq, mAnd_eq, mOr_eq, mNot_eq, mIf_eq, mChain_eq, mSl_eq, pNone_eq, pSome_eq, aCons_eq, aNil_eq, mTup_eq, mLst_eq, gN_eq, gT_eq, gsNil_eq, gsCons_eq, mkL_t, mkL_f, R.bind_ok, R.bind_no, R.nox_ok, List.getElem?_cons_zero, List.getElem?_cons_succ, List.set_cons_zero, List.set_cons_succ, List.length_cons, List.length_nil, List.append_nil, List.nil_append, List.cons_append, piApp_on, oLen_fz, oLen_lst, oLen_tup, oLt_int, oLe_int, oGt_int, oGe_int, oAdd_int, oSub_int, oIx_fz, oIx_lst, oIx_tup, oMax_int, oMin_int, oInt_bl, oInt_int, oIsi_bl, oNeg_int, oTuple_lst, oTuple_tup, iR1_eq, iR2_eq, iSq_eq, iStrM_eq, srcOf_tup, srcOf_lst, srcOf_fz, if_true, if_false, Bool.false_eq_true, Bool.true_eq_false, reduceIte, Nat.reduceAdd, Nat.reduceLeDiff, Nat.reduceEqDiff, decide_true, decide_false, and_self, and_true, true_and, draw2B, oIx_ref hM', at0, at1, at2, decide_eq_false h, gIx_eq, hM', ix31, ix32, hset, oIx_ref hset, oMul_l _ 104729 _ j5 j6, oMul_r _ _ 69623 j3 j4, oMod_int _ 2147483647 i8, hn1]
    simp -implicitDefEqProofs only [mSeq_eq, mIfS_eq, mSet_eq, mRet_eq, mRetN_eq, mExpr_eq, mPass_eq, mAsg_eq, mPar_eq, mAug_eq, bOf_eq, tOf_eq, tAndM_eq, tOrM_eq, tNotM_eq, tsYes_eq, mOp_eq, mUn_eq, mVar_eq, mC_eq, mCall_eq, mFun_eq, mFunKw_eq, mMeth_eq, mAnd_eq, mOr_eq, mNot_eq, mIf_eq, mChain_eq, mSl_eq, pNone_eq, pSome_eq, aCons_eq, aNil_eq, mTup_eq, mLst_eq, gN_eq, gT_eq, gsNil_eq, gsCons_eq, mkL_t, mkL_f, R.bind_ok, R.bind_no, R.nox_ok, List.getElem?_cons_zero, List.getElem?_cons_succ, List.set_cons_zero, List.set_cons_succ, List.length_cons, List.length_nil, List.append_nil, List.nil_append, List.cons_append, piApp_on, oLen_fz, oLen_lst, oLen_tup, oLt_int, oLe_int, oGt_int, oGe_int, oAdd_int, oSub_int, oIx_fz, oIx_lst, oIx_tup, oMax_int, oMin_int, oInt_bl, oInt_int, oIsi_bl, oNeg_int, oTuple_lst, oTuple_tup, iR1_eq, iR2_eq, iSq_eq, iStrM_eq, srcOf_tup, srcOf_lst, srcOf_fz, if_true, if_false, Bool.false_eq_true, Bool.true_eq_false, reduceIte, Nat.reduceAdd, Nat.reduceLeDiff, Nat.reduceEqDiff, decide_true, decide_false, and_self, and_true, true_and, oMul_r _ _ 48271 i6 i7, oMod_int _ 2147483629 i5, hn2, hset, set_twice, oIx_ref hset2, at1, ix31, oMul_r _ _ 2147483647 j7 j8, oDiv_int _ 8191 (div_ok i20 i21 _), oMod_int _ many h0]
    rfl
/-! ### mixed -/
def DrawOk (g : FD) : Prop := ∀ (M0 M : Mem) (i : Nat) (many : Int), FdAt M0 i M → 0 < many → many < 1000000000000000000000000 → ∃ (v : Int) (M' : Mem), 0 ≤ v ∧ v < many ∧ FdAt M0 i M' ∧ g [.ref i, .int many] M = .ok (.int v) M'
theorem drawOk_of {g : FD} {B : FS} (hg : g = runB B 4) (hB : B = draw2B) : DrawOk g := fun M0 M i many h h0 h1 => by
  subst hg hB
  obtain ⟨s, hM, hk⟩ := h.get
  obtain ⟨v, s', k0, k1, k3⟩ := draw2_run s i M many h0 h1 hM
  exact ⟨v, _, k0, k1, hk s', runB_rt k3⟩
theorem FdAt.app {A B M : Mem} {i : Nat} (h : FdAt (A ++ B) i M) (hi : i < A.length) : ∃ A', FdAt A i A' ∧ M = A' ++ B := by
  obtain ⟨s, e⟩ := h.at_
  exact ⟨A.set i s.c, ⟨⟨s, rfl⟩, hi⟩, by rw [e, List.set_append_left _ _ hi]⟩
theorem FdAt.mkApp {M0 A B : Mem} {i : Nat} (h : FdAt M0 i A) : FdAt (A ++ B) i (A ++ B) := by
  obtain ⟨s, h1, _⟩ := h.get
  exact .start (s := s) (by rw [List.getElem?_append_left (List.getElem?_eq_some_iff.mp h1).1]; exact h1)
/-- draws with other cells behind -/
theorem DrawOk.app {g : FD} (hg : DrawOk g) {M0 A B : Mem} {i : Nat} (h : FdAt M0 i A) {many : Int} (h0 : 0 < many) (h1 : many < 1000000000000000000000000) : ∃ (v : Int) (A' : Mem), 0 ≤ v ∧ v < many ∧ FdAt M0 i A' ∧ g [.ref i, .int many] (A ++ B) = .ok (.int v) (A' ++ B) := by
  obtain ⟨v, M', k0, k1, k2, k3⟩ := hg _ _ i many (h.mkApp (B := B)) h0 h1
  obtain ⟨A', h2, rfl⟩ := k2.app (by rw [h.len]; exact h.lt)
  exact ⟨v, A', k0, k1, h.trans h2, k3⟩
theorem app_get0 {A B : Mem} {c : Cell} {N : Nat} (h : A.length = N) : (A ++ c :: B)[N]? = some c := by
  rw [List.getElem?_append_right (by omega), h, Nat.sub_self]; rfl
theorem app_get1 {A B : Mem} {c c' : Cell} {N : Nat} (h : A.length = N) : (A ++ c :: c' :: B)[N + 1]? = some c' := by
  rw [List.getElem?_append_right (by omega), h, Nat.add_sub_cancel_left]; rfl
theorem app_set0 {A B : Mem} {c d : Cell} {N : Nat} (h : A.length = N) : (A ++ c :: B).set N d = A ++ d :: B := by
  rw [List.set_append_right _ _ (by omega), h, Nat.sub_self]; rfl
theorem app_set1 {A B : Mem} {c c' d : Cell} {N : Nat} (h : A.length = N) : (A ++ c :: c' :: B).set (N + 1) d = A ++ c :: d :: B := by
  rw [List.set_append_right _ _ (by omega), h, Nat.add_sub_cancel_left]; rfl
theorem ixN_nat {n k : Nat} (h : k < n) : ixN n (k : Int) = some k := by
  unfold ixN; simp; omega
def mixT : FT := (bOf (mOp (oEq true) (mVar 2) (mLst false aNil)))
def mixL (g : FD) : FS := (mExpr (mMeth "list" oAppend (mVar 3) (aCons (mMeth "list" oPopAt (mVar 2) (aCons (mFun 2 g [] (aCons (mVar 0) (aCons (mCall oLen (aCons (mVar 2) aNil)) aNil))) aNil)) aNil)))
def mixB (g : FD) : FS := (mSeq (mPar 2 3 (aCons (mCall (oList true) (aCons (mVar 1) aNil)) (aCons (mLst true aNil) aNil))) (mSeq (mWhile mixT (mixL g)) (mRet (mVar 3))))
theorem erase_perm : ∀ {l : List D} {k : Nat} {d : D}, l[k]? = some d → (d :: l.eraseIdx k).Perm l
  | [], k, d, h => by simp at h
  | x :: r, 0, d, h => by simp at h; subst h; exact List.Perm.refl _
  | x :: r, k + 1, d, h => by
    have ih := erase_perm (l := r) (k := k) (d := d) (by simpa using h)
    exact (List.Perm.swap x d _).trans (List.Perm.cons x ih)
theorem mix_turn {g : FD} (hg : DrawOk g) {M0 A : Mem} {i n : Nat} (h : FdAt M0 i A) (x : D) (l acc : List D) (hl : l ≠ []) (hlen : l.length ≤ 100000) (ha : acc.length ≤ 100000) :
    ∃ (d : D) (l' : List D) (A' : Mem), (d :: l').Perm l ∧ FdAt M0 i A' ∧ mixL g [some (.ref i), some x, some (.ref A.length), some (.ref (A.length + 1))] (A ++ [.lst l, .lst acc]) = .ok (.nx [some (.ref i), some x, some (.ref A.length), some (.ref (A.length + 1))]) (A' ++ [.lst l', .lst (acc ++ [d])]) := by
  have hpos : 0 < l.length := List.length_pos_iff.mpr hl
  obtain ⟨v, A', k0, k1, h2, k3⟩ := hg.app h (B := [.lst l, .lst acc]) (many := (l.length : Int)) (by omega) (by omega)
  obtain ⟨k, rfl⟩ : ∃ k : Nat, v = (k : Int) := ⟨v.toNat, by omega⟩
  have hk : k < l.length := by omega
  have eA : A'.length = A.length := by rw [h2.len, h.len]
  have g0 : ∀ {B : Mem} {c : Cell}, (A ++ c :: B)[A.length]? = some c := fun {B c} => app_get0 rfl
  have g1 : (A ++ [.lst l, .lst acc])[A.length + 1]? = some (.lst acc) := app_get1 rfl
  have g2 : (A' ++ [.lst l, .lst acc])[A.length]? = some (.lst l) := app_get0 eA
  have g3 : (A' ++ [.lst (l.eraseIdx k), .lst acc])[A.length + 1]? = some (.lst acc) := app_get1 eA
  have hp : oPopAt (.ref A.length) [.int k] (A' ++ [.lst l, .lst acc]) = .ok l[k] (A' ++ [.lst (l.eraseIdx k), .lst acc]) := by
    have e63 : (2 : Int) ^ 63 = 9223372036854775808 := by decide +kernel
    simp only [oPopAt, g2, ixN_nat hk, List.getElem?_eq_getElem hk, e63]
    rw [if_pos (by omega), app_set0 eA]
  refine ⟨l[k], l.eraseIdx k, A', erase_perm (List.getElem?_eq_getElem hk), h2, ?_⟩
  simp -implicitDefEqProofs only [mSeq_eq, mIfS_eq, mSet_eq, mRet_eq, mRetN_eq, mExpr_eq, mPass_eq, mAsg_eq, mPar_eq, mAug_eq, bOf_eq, tOf_eq, tAndM_eq, tOrM_eq, tNotM_eq, tsYes_eq, mOp_eq, mUn_eq, mVar_eq, mC_eq, mCall_eq, mFun_eq, mFunKw_eq, mMeth_eq, mAnd_eq, mOr_eq, mNot_eq, mIf_eq, mChain_eq, mSl_eq, pNone_eq, pSome_eq, aCons_eq, aNil_eq, mTup_eq, mLst_eq, gN_eq, gT_eq, gsNil_eq, gsCons_eq, mkL_t, mkL_f, R.bind_ok, R.bind_no, R.nox_ok, List.getElem?_cons_zero, List.getElem?_cons_succ, List.set_cons_zero, List.set_cons_succ, List.length_cons, List.length_nil, List.append_nil, List.nil_append, List.cons_append, piApp_on, oLen_fz, oLen_lst, oLen_tup, oLt_int, oLe_int, oGt_int, oGe_int, oAdd_int, oSub_int, oIx_fz, oIx_lst, oIx_tup, oMax_int, oMin_int, oInt_bl, oInt_int, oIsi_bl, oNeg_int, oTuple_lst, oTuple_tup, iR1_eq, iR2_eq, iSq_eq, iStrM_eq, srcOf_tup, srcOf_lst, srcOf_fz, if_true, if_false, Bool.false_eq_true, Bool.true_eq_false, reduceIte, Nat.reduceAdd, Nat.reduceLeDiff, Nat.reduceEqDiff, decide_true, decide_false, and_self, and_true, true_and, mixL, tyOk_at g0, tyOk_at g1, oLen_ref g0, k3, hp, oAppend_at g3 (show acc.length < 16777216 by omega), app_set1 eA]
theorem mix_loop {g : FD} (hg : DrawOk g) {M0 : Mem} {i n : Nat} (x : D) : ∀ (f : Nat) (A : Mem) (l acc : List D), FdAt M0 i A → PlL n l → l.length ≤ f → l.length + acc.length ≤ 100000 →
    ∃ (l' : List D) (A' : Mem), l'.Perm (acc ++ l) ∧ FdAt M0 i A' ∧ whileM mixT (mixL g) (f + 1) [some (.ref i), some x, some (.ref M0.length), some (.ref (M0.length + 1))] (A ++ [.lst l, .lst acc]) = .ok (.nx [some (.ref i), some x, some (.ref M0.length), some (.ref (M0.length + 1))]) (A' ++ [.lst [], .lst l'])
  | f, A, l, acc, h, hp, hf, hn => by
    have eA := h.len
    have g0 : (A ++ [.lst l, .lst acc])[M0.length]? = some (.lst l) := app_get0 eA
    have ht : mixT [some (.ref i), some x, some (.ref M0.length), some (.ref (M0.length + 1))] (A ++ [.lst l, .lst acc]) = .ok (true != l.isEmpty) (A ++ [.lst l, .lst acc]) := by
      simp -implicitDefEqProofs only [mSeq_eq, mIfS_eq, mSet_eq, mRet_eq, mRetN_eq, mExpr_eq, mPass_eq, mAsg_eq, mPar_eq, mAug_eq, bOf_eq, tOf_eq, tAndM_eq, tOrM_eq, tNotM_eq, tsYes_eq, mOp_eq, mUn_eq, mVar_eq, mC_eq, mCall_eq, mFun_eq, mFunKw_eq, mMeth_eq, mAnd_eq, mOr_eq, mNot_eq, mIf_eq, mChain_eq, mSl_eq, pNone_eq, pSome_eq, aCons_eq, aNil_eq, mTup_eq, mLst_eq, gN_eq, gT_eq, gsNil_eq, gsCons_eq, mkL_t, mkL_f, R.bind_ok, R.bind_no, R.nox_ok, List.getElem?_cons_zero, List.getElem?_cons_succ, List.set_cons_zero, List.set_cons_succ, List.length_cons, List.length_nil, List.append_nil, List.nil_append, List.cons_append, piApp_on, oLen_fz, oLen_lst, oLen_tup, oLt_int, oLe_int, oGt_int, oGe_int, oAdd_int, oSub_int, oIx_fz, oIx_lst, oIx_tup, oMax_int, oMin_int, oInt_bl, oInt_int, oIsi_bl, oNeg_int, oTuple_lst, oTuple_tup, iR1_eq, iR2_eq, iSq_eq, iStrM_eq, srcOf_tup, srcOf_lst, srcOf_fz, if_true, if_false, Bool.false_eq_true, Bool.true_eq_false, reduceIte, Nat.reduceAdd, Nat.reduceLeDiff, Nat.reduceEqDiff, decide_true, decide_false, and_self, and_true, true_and, mixT, oEq_nil hp (lstOf_at g0)]
    rw [whileM_succ, ht, R.bind_ok]
    cases l with
    | nil => exact ⟨acc, A, by rw [List.append_nil], h, rfl⟩
    | cons d0 r =>
      rw [show (true != (d0 :: r).isEmpty) = true from rfl, if_pos rfl]
      obtain ⟨d, l', A', hperm, h', e⟩ := mix_turn (n := n) hg h x (d0 :: r) acc (by intro z; cases z) (by omega) (by omega)
      rw [eA] at e
      rw [e, R.bind_ok]
      cases f with
      | zero => simp at hf
      | succ f =>
        have hll : l'.length + 1 = (d0 :: r).length := by
          have := hperm.length_eq
          simpa using this
        obtain ⟨l2, A2, p2, h2, e2⟩ := mix_loop hg x f A' l' (acc ++ [d]) h' (fun y hy => hp y (hperm.mem_iff.mp (List.mem_cons_of_mem _ hy))) (by omega) (by rw [List.length_append, List.length_cons, List.length_nil]; omega)
        refine ⟨l2, A2, p2.trans ?_, h2, e2⟩
        rw [List.append_assoc]
        exact List.Perm.append_left _ hperm
theorem mixed_run {g : FD} (hg : DrawOk g) {M0 M : Mem} {i n : Nat} (h : FdAt M0 i M) (l : List D) (hp : PlL n l) (hlen : l.length ≤ 100000) :
    ∃ (l' : List D) (M' : Mem), l'.Perm l ∧ FdAt M0 i M' ∧ gcB (mixB g) 4 [.ref i, .lst l] M = .ok (.lst l') M' := by
  obtain ⟨l', A', p1, h1, e1⟩ := mix_loop (n := n) hg (.lst l) 999999999 M l [] h.self hp (by omega) (by simpa using hlen)
  have hB : mixB g [some (.ref i), some (.lst l), none, none] M = .ok (.rt (.ref (M.length + 1))) (A' ++ [.lst [], .lst l']) := by
    have e0 : oList true [.lst l] M = .ok (.ref M.length) (M ++ [.lst l]) := rfl
    simp -implicitDefEqProofs only [mSeq_eq, mIfS_eq, mSet_eq, mRet_eq, mRetN_eq, mExpr_eq, mPass_eq, mAsg_eq, mPar_eq, mAug_eq, bOf_eq, tOf_eq, tAndM_eq, tOrM_eq, tNotM_eq, tsYes_eq, mOp_eq, mUn_eq, mVar_eq, mC_eq, mCall_eq, mFun_eq, mFunKw_eq, mMeth_eq, mAnd_eq, mOr_eq, mNot_eq, mIf_eq, mChain_eq, mSl_eq, pNone_eq, pSome_eq, aCons_eq, aNil_eq, mTup_eq, mLst_eq, gN_eq, gT_eq, gsNil_eq, gsCons_eq, mkL_t, mkL_f, R.bind_ok, R.bind_no, R.nox_ok, List.getElem?_cons_zero, List.getElem?_cons_succ, List.set_cons_zero, List.set_cons_succ, List.length_cons, List.length_nil, List.append_nil, List.nil_append, List.cons_append, piApp_on, oLen_fz, oLen_lst, oLen_tup, oLt_int, oLe_int, oGt_int, oGe_int, oAdd_int, oSub_int, oIx_fz, oIx_lst, oIx_tup, oMax_int, oMin_int, oInt_bl, oInt_int, oIsi_bl, oNeg_int, oTuple_lst, oTuple_tup, iR1_eq, iR2_eq, iSq_eq, iStrM_eq, srcOf_tup, srcOf_lst, srcOf_fz, if_true, if_false, Bool.false_eq_true, Bool.true_eq_false, reduceIte, Nat.reduceAdd, Nat.reduceLeDiff, Nat.reduceEqDiff, decide_true, decide_false, and_self, and_true, true_and, mixB, e0, List.length_append, List.append_assoc]
    unfold mWhile
    rw [show (1000000000 : Nat) = 999999999 + 1 from rfl, e1]
    rfl
  have hN : A'.length = M.length := h1.len
  have hpl : PlL n l' := fun y hy => hp y (by have := p1.mem_iff.mp hy; simpa using this)
  obtain ⟨ps, hps, _⟩ := hpl.py
  have hfz : frzD (A' ++ [.lst [], .lst l']) M.length (.ref (M.length + 1)) = .lst l' := by
    simp only [frzD]
    rw [if_neg (by omega), app_get1 hN]
  have hc : cutOk M (A' ++ [.lst [], .lst l']) (frzD (A' ++ [.lst [], .lst l']) M.length (.ref (M.length + 1))) := by
    rw [hfz]
    obtain ⟨s, e⟩ := h1.at_
    rw [e]
    exact cut_set (d := .lst l') (junk := [.lst [], .lst l']) (by simp only [bdD]; exact pyL_bd hps) rfl
  refine ⟨l', A', by simpa using p1, h.trans h1, ?_⟩
  unfold gcB
  rw [runB_rt (N := 4) hB, gcR, if_pos hc, hfz, List.take_append_of_le_length (by omega), List.take_of_length_le (by omega)]
end Fn

set_option Elab.async false
set_option linter.all false
set_option maxRecDepth 100000
set_option maxHeartbeats 1000000
/-! FnNew: targets with a star. -/
namespace Fn
open PySem PySem.Spec PyProof.Rows L2
section
variable {prog : Program} {w : World} {A : Around} {E : Value → Shared → Prop} {s : Shared}
/-- a tuple's values, those amid in a new list -/
theorem star_of {l : Addr} {vs : Array Value} {n i : Nat} {Q : List Value → Shared → Prop} (pl : IsTup s.heap l vs) (nh : A.handled = none) (lt : i < n) (le : n ≤ vs.size + 1) (sz : vs.size ≤ 16384)
    (q : ∀ (h' : Heap) (tk : Nat), (∀ b o, s.heap.get? b = some o → h'.get? b = some o) →
      Q (vs.toList.take i ++ [.ref h'.objs.size] ++ (vs.toList.drop i).drop (vs.size + 1 - n)) { s with heap := h'.push { cls := .type "list", data := .seq ((vs.toList.drop i).take (vs.size + 1 - n)).toArray }, toks := tk }) :
    wpAny (model prog w) A (unpackItems (.ref l) n (some i)) Q E s := by
  have here : l < s.heap.objs.size := let ⟨_, e, _⟩ := pl; Heap.lt_size e
  have apart : l ≠ s.heap.objs.size := Nat.ne_of_lt here
  unfold unpackItems notIterableAtAll
  refine wpAny_bind (wpAny_bind (wpAny_specialOf pl.typeIs slot_tuple_iter.lookup (wpAny_pure ?_)))
  simp only [Bool.false_eq_true, if_false]
  refine wpAny_bind (wpAny_holding (iter_tuple pl (wpAny_bind (wpAny_holding (draw_tuple apart i 0 _ _ ⟨_, Heap.get?_push_size _ rfl, rfl, rfl⟩ (pl.push _) (by omega) fun g it same => ?_)))))
  have pl1 : IsTup g l vs := (pl.push _).extBut same.extBut apart
  have old1 : ∀ b o, s.heap.get? b = some o → g.get? b = some o := fun b o e => same.extBut b o (Nat.ne_of_lt (Heap.lt_size e)) (Heap.get?_push_of_some _ e)
  rw [Nat.zero_add] at it
  have itl : s.heap.objs.size < g.objs.size := let ⟨_, e, _⟩ := it; Heap.lt_size e
  have lg : l < g.objs.size := let ⟨_, e, _⟩ := pl1; Heap.lt_size e
  have fl : (vs.toList.take i).length = i := by simp; omega
  have dl : (vs.toList.drop i).length = vs.size - i := by simp
  simp only [List.drop_zero, fl, Nat.lt_irrefl, if_false]
  refine wpAny_bind (wpAny_holding (PySem.W.kun_collect (s := { s with heap := g }) (T := "tuple_iterator") (.inr (.inr (.inr rfl))) (Walks.tuple (A := A.in1) nh s.heap.objs.size l apart vs) (fun _ _ st => st.1.typeIs) (k := i) (by omega) ⟨it, pl1⟩ itl lg (fun g2 tk kp => ?_) (by rw [sizeLine_eq]; omega)))
  have cnt : vs.size - i - (n - 1 - i) = vs.size + 1 - n := by omega
  simp only [dl, show ¬ (vs.size - i < n - 1 - i) by omega, if_false, cnt]
  refine wpAny_bind (wpAny_newList (wpAny_pure (q g2 tk (fun b o e => kp b o (Nat.ne_of_lt (Heap.lt_size e)) (old1 b o e)))) (by rw [List.length_take, dl, sizeLine_eq]; omega))
end
section
variable {X : Cx} {G : Gx} {cl : Nat → Addr} {E : XK} {W : Wd} {H : Hp} {M : Mem} {pos : Pos}
/-- a, *b, c = a tuple -/
def gStar (K : PySem.W.Frag) (n i : Nat) (t : TGs) : TG := fun v σ H Q => ∃ a xs, v = .ref a ∧ SqT K H a xs ∧ n ≤ xs.length + 1 ∧ xs.length ≤ 16384 ∧ ∀ p, H p = none → t (xs.take i ++ [.ref p] ++ (xs.drop i).drop (xs.length + 1 - n)) σ (upd H p (.lst ((xs.drop i).take (xs.length + 1 - n)))) Q
theorem pg_star {es : List Expr} {k : Nat} {t : TGs} {n i : Nat} (hc : X.calm = true) (h : PGs X es t) (lt : i < n)
    (hn : (assignEach es X.env).length = n := by rfl) (hst : (assignEach es X.env).findIdx? (·.1) = some i := by rfl) : PG X (.Tuple es k pos) (gStar X.K n i t) := by
  refine ⟨fun pins s σ H v u Q I r hw => ?_⟩
  obtain ⟨a, xs, rfl, hq, le, sz, hw⟩ := hw
  cases r
  obtain ⟨its, rv, ht, hz⟩ := I.tuple hq
  have el : its.length = xs.length := rv.length.symm
  have ez : its.toArray.size = xs.length := by rw [List.size_toArray, el]
  rw [PyProof.Rows.assign_Tuple]
  refine wpAny_bind (wpAny_standAt ?_)
  unfold unpack
  rw [hn, hst]
  refine wpAny_bind (wpAny_holding (star_of ht (I.ok.hd hc) lt (by omega) (by omega) fun g tk kp => ?_))
  have I1 : Inv X pins σ H { s with heap := g, toks := tk } := I.kept kp
  have fr : H g.objs.size = none := I1.hok.fresh (Nat.le_refl _)
  have rm : Vals ((xs.drop i).take (xs.length + 1 - n)) ((its.drop i).take (xs.length + 1 - n)) := (rv.drop i).take _
  have I2 : Inv X pins σ (upd H g.objs.size (.lst ((xs.drop i).take (xs.length + 1 - n)))) { s with heap := g.push { cls := .type "list", data := .seq ((its.drop i).take (xs.length + 1 - n)).toArray }, toks := tk } :=
    I1.laid (t' := tk) (fun b o e => Heap.get?_push_of_some _ e) (Nat.le_refl _) ⟨by rw [List.length_take, List.length_drop, sizeLine_eq]; omega, _, 0, rm, Heap.get?_push_size _ rfl⟩
  rw [ez]
  exact h.run pins _ σ _ _ _ Q I2 (((rv.take i).append (.cons (show RelV (.ref g.objs.size) (.ref g.objs.size) from rfl) .nil)).append ((rv.drop i).drop _)) (hw _ fr)
def gS (n i : Nat) (g : FGs) : FG := fun d env M => match d with
  | .tup l => if n ≤ l.length + 1 ∧ l.length ≤ 16384 then g (l.take i ++ [.lst ((l.drop i).take (l.length + 1 - n))] ++ (l.drop i).drop (l.length + 1 - n)) env M else .no
  | _ => .no
theorem pgs_star {e : Expr} {p : Pos} {es : List Expr} {t : TG} {u : TGs} (h1 : PG X e t) (h2 : PGs X es u)
    (hs : (assignEach (.Starred e p :: es) X.env).map (·.2) = assign e X.env :: (assignEach es X.env).map (·.2) := by rfl) : PGs X (.Starred e p :: es) (gCons t u) := by
  refine ⟨fun pins s σ H xs us Q I rx k => ?_⟩
  obtain ⟨x, xr, rfl, k⟩ := k
  rw [hs]
  cases rx with
  | cons ra rb => exact assignInOrder_cons (thn (h1.run pins s σ H _ _ _ I ra k) fun _ s2 ⟨σ2, H2, I2, k2⟩ => h2.run pins s2 σ2 H2 _ _ Q I2 rb k2)
theorem sgs_star {e : Expr} {p : Pos} {es : List Expr} {f : FG} {g : FGs} {sl : List Nat} (h1 : PG X e (tGt G E sl f)) (h2 : PGs X es (tGts G E sl g))
    (hs : (assignEach (.Starred e p :: es) X.env).map (·.2) = assign e X.env :: (assignEach es X.env).map (·.2) := by rfl) : PGs X (.Starred e p :: es) (tGts G E sl (gsCons f g)) := pgs_imp (pgs_star h1 h2 hs) fun v σ H Q ⟨W, env, M, ds, s, r, p⟩ => by
  cases ds with
  | nil => exact p.elim
  | cons d r' =>
    obtain ⟨u, us, e1, r1, r2⟩ := r
    exact ⟨u, us, e1, W, env, M, d, s, r1, PR.bind p fun env1 m W1 H1 f1 k1 p1 => fun σ1 en ew => ⟨W1, env1, m, r', ⟨k1, en⟩, s.mem.rpL f1 r2, PR.mono p1 fun env2 m2 W2 H2 f2 k2 q σ2 en2 ew2 => q σ2 en2 (ew2.trans ew)⟩⟩
theorem sg_star {es : List Expr} {k : Nat} {g : FGs} {n i : Nat} {sl : List Nat} (hc : X.calm = true) (h : PGs X es (tGts ⟨X.K, cl⟩ E sl g)) (lt : i < n)
    (hn : (assignEach es X.env).length = n := by rfl) (hst : (assignEach es X.env).findIdx? (·.1) = some i := by rfl) : PG X (.Tuple es k pos) (tGt ⟨X.K, cl⟩ E sl (gS n i g)) := pg_imp (pg_star hc h lt hn hst) fun v σ H Q ⟨W, env, M, d, s, r, p⟩ => by
  unfold gS at p
  split at p
  · rename_i l
    obtain ⟨a1, us, e1, s1, r1⟩ := r
    split at p
    · rename_i hl
      refine ⟨a1, us, e1, s1.sq, by rw [r1.len]; exact hl.1, by rw [r1.len]; exact hl.2, fun q hq => ?_⟩
      have f : Fut W H W (upd H q (.lst ((us.drop i).take (us.length + 1 - n)))) := Fut.laid hq
      have m1 := s.mem.laid (o := .lst ((us.drop i).take (us.length + 1 - n))) hq
      have nw : q ∉ W.as ∧ q ∉ W.hd := s.mem.fresh hq
      rw [← r1.len] at p
      have rr := s.mem.rpL f r1
      have rl : Rp ⟨X.K, cl⟩ W (upd H q (.lst ((us.drop i).take (us.length + 1 - n)))) (.lst ((l.drop i).take (us.length + 1 - n))) (.ref q) := ⟨q, _, rfl, ⟨upd_same, nw.1, nw.2⟩, RpL.take _ (RpL.drop i rr)⟩
      exact ⟨W, env, M, _, ⟨m1, s.env.fut s.mem f⟩, ((RpL.take i rr).append (show RpL ⟨X.K, cl⟩ W (upd H q (.lst ((us.drop i).take (us.length + 1 - n)))) [.lst ((l.drop i).take (us.length + 1 - n))] [.ref q] from ⟨_, _, rfl, rl, rfl⟩)).append (RpL.drop _ (RpL.drop i rr)), PR.fut f p⟩
    · exact p.elim
  · exact p.elim
theorem gS_eq (n i : Nat) (g : FGs) (l : List D) {env : Fn.Env} : gS n i g (.tup l) env M = if n ≤ l.length + 1 ∧ l.length ≤ 16384 then g (l.take i ++ [.lst ((l.drop i).take (l.length + 1 - n))] ++ (l.drop i).drop (l.length + 1 - n)) env M else .no := rfl
end
end Fn

set_option Elab.async false
set_option linter.all false
set_option maxRecDepth 100000
set_option maxHeartbeats 4000000
/-! FnLaw3: memory read by rewriting; texts sorted; loops over what may change. -/
namespace Fn
open PySem PySem.Spec PyProof.Rows L2
section
variable {M : Mem}
theorem oLen_refM (i : Nat) : oLen [.ref i] M = match M[i]? with | some (.lst l) => .ok (.int l.length) M | _ => .no := by
  simp only [oLen, seqOf, lstOf]
  cases M[i]? with
  | none => rfl
  | some c => cases c <;> rfl
theorem oIx_refM (i : Nat) (k : Int) : oIx (.ref i) (.int k) M = match M[i]? with | some (.lst l) => (match atI l k with | some d => .ok d M | none => .no) | _ => .no := by
  simp only [oIx, seqOf, lstOf]
  cases M[i]? with
  | none => rfl
  | some c => cases c <;> rfl
theorem oAppM (i : Nat) (d : D) : oAppend (.ref i) [d] M = match M[i]? with | some (.lst l) => (if l.length < 16777216 then .ok .non (M.set i (.lst (l ++ [d]))) else .no) | _ => .no := by
  simp only [oAppend]
  all_goals rfl
theorem oExtM (i : Nat) (d : D) : oExtend (.ref i) [d] M = match M[i]?, ownOf M d with | some (.lst l), some l' => (if l.length + l'.length ≤ 16777216 then .ok .non (M.set i (.lst (l ++ l'))) else .no) | _, _ => .no := by
  simp only [oExtend]
  all_goals rfl
theorem oTuple_ref (i : Nat) : oTuple [.ref i] M = match M[i]? with | some (.lst l) => .ok (.tup l) M | _ => .no := by
  simp only [oTuple, lstOf]
  cases M[i]? with
  | none => rfl
  | some c => cases c <;> rfl
theorem oList_ref {c : Bool} (i : Nat) : oList c [.ref i] M = match M[i]? with | some (.lst l) => mkL c l M | _ => .no := by
  simp only [oList, seqOf, lstOf]
  cases M[i]? with
  | none => rfl
  | some c => cases c <;> rfl
theorem srcOf_refM (i : Nat) : srcOf M (.ref i) = match M[i]? with | some (.lst l) => some ⟨l, fun M' => M'[i]? = some (.lst l)⟩ | _ => none := by
  simp only [srcOf]
  all_goals rfl
end
theorem ifLt24 {α : Sort _} {n : Nat} {a b : α} (h : n < 16777216) : (if n < 16777216 then a else b) = a := if_pos h
theorem ifLe24 {α : Sort _} {n : Nat} {a b : α} (h : n ≤ 16777216) : (if n ≤ 16777216 then a else b) = a := if_pos h
theorem lt_of_get {M : Mem} {k : Nat} {c : Cell} (h : M[k]? = some c) : k < M.length := (List.getElem?_eq_some_iff.mp h).1
theorem forL_nilP {P : Mem → Prop} {g : FG} {body : FS} {env : Fn.Env} {M : Mem} (hP : P M) : forL P g body [] env M = .ok (.nx env) M := by
  unfold forL; rw [if_pos hP]
theorem forL_consP {P : Mem → Prop} {g : FG} {body : FS} {d : D} {r : List D} {env : Fn.Env} {M : Mem} (hP : P M) : forL P g body (d :: r) env M = (g d env M).bind fun env1 m1 => (body env1 m1).bind fun fl m => match fl with
      | .nx env' => forL P g body r env' m
      | .ct env' => forL P g body r env' m
      | .bk env' => .ok (.nx env') m
      | .rt d => .ok (.rt d) m := by
  conv => lhs; unfold forL
  rw [if_pos hP]
  all_goals rfl
theorem forL_invP {Q : Mem → Prop} {g : FG} {body : FS} (P : Nat → Fn.Env → Mem → Prop) (hQ : ∀ k env M, P k env M → Q M) : ∀ (items : List D) (k0 : Nat) (env : Fn.Env) (M : Mem), P k0 env M →
    (∀ (k : Nat) d env M, items[k]? = some d → P (k0 + k) env M → ∃ env' m', ((g d env M).bind fun e1 m1 => body e1 m1) = .ok (.nx env') m' ∧ P (k0 + k + 1) env' m') →
    ∃ env' m', forL Q g body items env M = .ok (.nx env') m' ∧ P (k0 + items.length) env' m'
  | [], k0, env, M, h0, _ => ⟨env, M, forL_nilP (hQ _ _ _ h0), h0⟩
  | d :: r, k0, env, M, h0, hs => by
    obtain ⟨env1, m1, e1, h1⟩ := hs 0 d env M rfl h0
    obtain ⟨env2, m2, e2, h2⟩ := forL_invP P hQ r (k0 + 1) env1 m1 h1 fun k d' env' M' hk hp => by
      have := hs (k + 1) d' env' M' (by simpa using hk) (by rw [show k0 + (k + 1) = k0 + 1 + k by omega]; exact hp)
      rw [show k0 + (k + 1) + 1 = k0 + 1 + k + 1 by omega] at this
      exact this
    refine ⟨env2, m2, ?_, by rw [show k0 + (d :: r).length = k0 + 1 + r.length by simp; omega]; exact h2⟩
    rw [forL_consP (hQ _ _ _ h0)]
    obtain ⟨ea, ma, ea1, ea2⟩ := R.bind_eq e1
    rw [ea1, R.bind_ok, ea2, R.bind_ok]
    exact e2
theorem compL_fm {P : Mem → Prop} {M : Mem} (hP : P M) {g : FG} {t : FT} {f : FE} {env : Fn.Env} {α : Type} (mk : α → D) (T : α → Bool) (F : α → D) : ∀ (xs : List α), (∀ x ∈ xs, ∃ env1, g (mk x) env M = .ok env1 M ∧ t env1 M = .ok (T x) M ∧ (T x = true → f env1 M = .ok (F x) M)) →
    compL P g t f env (xs.map mk) M = .ok ((xs.filter T).map F) M
  | [], _ => compL_nilP hP
  | d :: r, h => by
    obtain ⟨env1, h1, h2, h3⟩ := h d (List.mem_cons_self ..)
    have ih := compL_fm hP mk T F r fun d' hd => h d' (List.mem_cons_of_mem _ hd)
    rw [List.map_cons, compL_consP hP, h1, R.bind_ok, h2, R.bind_ok]
    cases ht : T d with
    | true => rw [if_pos rfl, h3 ht, R.bind_ok, ih, R.bind_ok, List.filter_cons_of_pos ht, List.map_cons]
    | false => rw [if_neg Bool.false_ne_true, ih, List.filter_cons_of_neg (by simp [ht])]
theorem compL_m {P : Mem → Prop} {M : Mem} (hP : P M) {g : FG} {f : FE} {env : Fn.Env} {α : Type} (mk : α → D) (F : α → D) (xs : List α) (h : ∀ x ∈ xs, ∃ env1, g (mk x) env M = .ok env1 M ∧ f env1 M = .ok (F x) M) :
    compL P g tsYes f env (xs.map mk) M = .ok (xs.map F) M := by
  have := compL_fm hP (t := tsYes) mk (fun _ => true) F xs fun x hx => by
    obtain ⟨env1, h1, h2⟩ := h x hx
    exact ⟨env1, h1, rfl, fun _ => h2⟩
  rw [this, List.filter_eq_self.mpr (fun _ _ => rfl)]
theorem allY {items ys : List D} {Y : D → Prop} (hl : ys.length = items.length) (h : ∀ (k : Nat) (d y : D), items[k]? = some d → ys[k]? = some y → Y y) {y : D} (hy : y ∈ ys) : Y y := by
  obtain ⟨k, hk⟩ := List.getElem?_of_mem hy
  have hk' : k < items.length := by rw [← hl]; exact (List.getElem?_eq_some_iff.mp hk).1
  exact h k _ y (List.getElem?_eq_getElem hk') hk
/-- a loop over given things by a step on a state: each turn goes on -/
theorem forL_fold {P : Mem → Prop} {M : Mem} (hP : P M) {g : FG} {body : FS} {σ α : Type} (mk : σ → Fn.Env → Prop) (enc : α → D) (f : σ → α → σ) : ∀ (xs : List α) (s : σ) (env : Fn.Env), mk s env →
    (∀ s env x, x ∈ xs → mk s env → ∃ env', ((g (enc x) env M).bind fun e1 m1 => body e1 m1) = .ok (.nx env') M ∧ mk (f s x) env') →
    ∃ env', forL P g body (xs.map enc) env M = .ok (.nx env') M ∧ mk (xs.foldl f s) env'
  | [], s, env, h, _ => ⟨env, forL_nilP hP, h⟩
  | x :: r, s, env, h, hs => by
    obtain ⟨env1, e1, h1⟩ := hs s env x (List.mem_cons_self ..) h
    obtain ⟨env2, e2, h2⟩ := forL_fold hP mk enc f r (f s x) env1 h1 fun s env y hy => hs s env y (List.mem_cons_of_mem _ hy)
    refine ⟨env2, ?_, h2⟩
    obtain ⟨ea, ma, ea1, ea2⟩ := R.bind_eq e1
    rw [List.map_cons, forL_consP hP, ea1, R.bind_ok, ea2, R.bind_ok]
    exact e2
theorem snoc_of {α : Type} : ∀ {l : List α}, l ≠ [] → ∃ l0 z, l = l0 ++ [z]
  | [], h => absurd rfl h
  | [x], _ => ⟨[], x, rfl⟩
  | x :: y :: r, _ => by
    obtain ⟨l0, z, e⟩ := snoc_of (l := y :: r) (by intro h; cases h)
    exact ⟨x :: l0, z, by rw [e]; rfl⟩
theorem atLast {α : Type} (l : List α) (d : α) : L2.atI (l ++ [d]) (-1) = some d := by
  have e : L2.ixN (l ++ [d]).length (-1) = some l.length := by
    unfold L2.ixN
    rw [if_neg (by omega)]
    simp
    try omega
  unfold L2.atI
  rw [e]
  simp
/-! ### texts -/
theorem strsOf_of : ∀ {l : List D}, (∀ d ∈ l, ∃ c : Nat, d = .str [c]) → ∃ w : List Nat, strsOf l = some (w.map fun c => [c]) ∧ w.length = l.length ∧ l = w.map fun c => .str [c]
  | [], _ => ⟨[], rfl, rfl, rfl⟩
  | d :: r, h => by
    obtain ⟨c, rfl⟩ := h d (List.mem_cons_self ..)
    obtain ⟨w, h1, h2, h3⟩ := strsOf_of (l := r) fun d hd => h d (List.mem_cons_of_mem _ hd)
    exact ⟨c :: w, by simp [strsOf, h1], by simp [h2], by rw [h3]; rfl⟩
theorem join_signs : ∀ w : List Nat, joinL [] (w.map fun c => [c]) = w
  | [] => rfl
  | [c] => rfl
  | c :: d :: r => by
    show [c] ++ [] ++ joinL [] ((d :: r).map fun c => [c]) = _
    rw [join_signs (d :: r)]
    rfl
theorem sum_ones : ∀ w : List Nat, ((w.map fun c => [c]).map (·.length)).sum = w.length
  | [] => rfl
  | c :: r => by
    simp only [List.map_cons, List.sum_cons, sum_ones r, List.length_cons, List.length_nil]
    omega
theorem any_str (w : List Nat) : ∀ F : List (List Nat), ((F.map D.str).any fun y => eqF y (.str w)) = decide (w ∈ F)
  | [] => by simp
  | x :: r => by
    rw [List.map_cons, List.any_cons, any_str w r]
    show (x == w || _) = _
    by_cases h : x = w
    · subst h; simp
    · have : (x == w) = false := beq_eq_false_iff_ne.mpr h
      rw [this, Bool.false_or]
      congr 1
      rw [List.mem_cons, eq_iff_iff]
      exact ⟨.inr, fun z => z.resolve_left fun e => h e.symm⟩
theorem flat_strs (F : List (List Nat)) : (F.map D.str).all flatD = true := by simp [flatD]
theorem oInF_strs {neg : Bool} {w : List Nat} {d : D} {F : List (List Nat)} {M : Mem} (h : seqOf M d = some (F.map .str)) : oInF neg (.str w) d M = .ok (.bl (neg != decide (w ∈ F))) M := by
  simp only [oInF, h, flat_strs, flatD, and_self, if_true, any_str]
  cases neg <;> simp
theorem sortD_str (ws : List (List Nat)) : sortD (ws.map .str) = (ws.mergeSort fun a b => decide (a ≤ b)).map .str := by
  unfold sortD
  symm
  apply List.map_mergeSort
  intro a _ b _
  have h := PySem.W.dataLe_str (β := List Nat) l2s
  show decide (a ≤ b) = PySem.W.dataLe false encD (.str a) (.str b)
  have h2 : PySem.W.dataLe false (fun b : List Nat => PyData.str (l2s b)) a b = decide (a ≤ b) := by
    rw [h]
    simp [l2s]
    all_goals rfl
  rw [← h2]
  rfl
theorem le_trans_txt {a b c : List Nat} (h1 : a ≤ b) (h2 : b ≤ c) : a ≤ c := List.le_trans h1 h2
theorem sortedStr (ws : List (List Nat)) : (ws.mergeSort fun a b => decide (a ≤ b)).Pairwise (fun a b => a ≤ b) := by
  have := List.pairwise_mergeSort (le := fun a b : List Nat => decide (a ≤ b)) (fun a b c h1 h2 => by simp at *; exact List.le_trans h1 h2) (fun a b => by simp; exact List.le_total a b) ws
  exact this.imp fun h => by simpa using h
theorem sortOk_strs (ws : List (List Nat)) : sortOk (ws.map .str) := by
  refine ⟨fun d hd => ?_, fun d hd d' hd' => ?_, .inr fun d hd => ?_⟩
  · obtain ⟨w, _, rfl⟩ := List.mem_map.mp hd; exact ⟨rfl, by show PyData.depth (.str _) ≤ 60; simp [PyData.depth]⟩
  · obtain ⟨w, _, rfl⟩ := List.mem_map.mp hd
    obtain ⟨w', _, rfl⟩ := List.mem_map.mp hd'
    rfl
  · obtain ⟨w, _, rfl⟩ := List.mem_map.mp hd; rfl
theorem oSorted_strs {c : Bool} {d : D} {ws : List (List Nat)} {M : Mem} (h : lstOf M d = some (ws.map .str)) : oSorted c [d] M = mkL c ((ws.mergeSort fun a b => decide (a ≤ b)).map .str) M := by
  simp only [oSorted, h, if_pos (sortOk_strs ws), sortD_str]
theorem blsOf_map (f : α → Bool) : ∀ l : List α, blsOf (l.map fun x => D.bl (f x)) = some (l.map f)
  | [] => rfl
  | x :: r => by simp only [List.map_cons, blsOf, blsOf_map f r, Option.map_some]
theorem oAll_map {α : Type} (f : α → Bool) (l : List α) {M : Mem} : oAll [.lst (l.map fun x => D.bl (f x))] M = .ok (.bl (l.all f)) M := by
  simp only [oAll, oAllAny, lstOf, Option.bind_some, blsOf_map]
  congr 2
  simp [List.all_map]
theorem oAny_map {α : Type} (f : α → Bool) (l : List α) {M : Mem} : oAny [.lst (l.map fun x => D.bl (f x))] M = .ok (.bl (l.any f)) M := by
  simp only [oAny, oAllAny, lstOf, Option.bind_some, blsOf_map]
  congr 2
  simp [List.any_map]
theorem mPar3_eq (i j l : Nat) (g : FA) {env : Fn.Env} {M : Mem} : mPar3 i j l g env M = (g env M).bind fun ds m => match ds with
  | [d, d', d''] => .ok (.nx (((env.set i (some d)).set j (some d')).set l (some d''))) m
  | _ => .no := rfl
/-! ### what a call leaves -/
theorem gc_ref {B : FS} {N : Nat} {ds : List D} {M junk : Mem} {i : Nat} {c : Cell} {l : List D} {ps : List PyData} (hB : runB B N ds M = .ok (.ref M.length) (M.set i c ++ .lst l :: junk)) (hc : bdC M.length c = true) (hl : pyL l = some ps) : gcB B N ds M = .ok (.lst l) (M.set i c) := by
  have hf : frzD (M.set i c ++ .lst l :: junk) M.length (.ref M.length) = .lst l := by
    simp only [frzD, Nat.lt_irrefl, if_false, app_get0 (show (M.set i c).length = M.length from List.length_set ..)]
  unfold gcB gcR
  simp only [hB]
  rw [if_pos (by rw [hf]; exact cut_set (d := .lst l) (by simp only [bdD]; exact pyL_bd hl) hc), hf, List.take_append_of_le_length (by simp), List.take_of_length_le (by simp)]
theorem gc_val {B : FS} {N : Nat} {ds : List D} {M junk : Mem} {i : Nat} {c : Cell} {d : D} {p : PyData} (hB : runB B N ds M = .ok d (M.set i c ++ junk)) (hc : bdC M.length c = true) (hl : pyD d = some p) : gcB B N ds M = .ok d (M.set i c) := by
  have hf : frzD (M.set i c ++ junk) M.length d = d := frzD_py _ _ _ _ hl
  unfold gcB gcR
  simp only [hB]
  rw [if_pos (by rw [hf]; exact cut_set (d := d) (pyD_bd hl) hc), hf, List.take_append_of_le_length (by simp), List.take_of_length_le (by simp)]
/-- of a call that changes nothing -/
theorem gc_ref0 {B : FS} {N : Nat} {ds : List D} {M junk : Mem} {l : List D} {ps : List PyData} (hB : runB B N ds M = .ok (.ref M.length) (M ++ .lst l :: junk)) (hl : pyL l = some ps) : gcB B N ds M = .ok (.lst l) M := by
  have hf : frzD (M ++ .lst l :: junk) M.length (.ref M.length) = .lst l := by
    simp only [frzD, Nat.lt_irrefl, if_false, app_get0 (show M.length = M.length from rfl)]
  unfold gcB gcR
  simp only [hB]
  rw [if_pos (by rw [hf]; exact cut_id (d := .lst l) (by simp only [bdD]; exact pyL_bd hl)), hf, List.take_append_of_le_length (by simp), List.take_of_length_le (by simp)]
theorem gc_val0 {B : FS} {N : Nat} {ds : List D} {M junk : Mem} {d : D} {p : PyData} (hB : runB B N ds M = .ok d (M ++ junk)) (hl : pyD d = some p) : gcB B N ds M = .ok d M := by
  have hf : frzD (M ++ junk) M.length d = d := frzD_py _ _ _ _ hl
  unfold gcB gcR
  simp only [hB]
  rw [if_pos (by rw [hf]; exact cut_id (d := d) (pyD_bd hl)), hf, List.take_append_of_le_length (by simp), List.take_of_length_le (by simp)]
theorem gc_flow {B : FS} {N : Nat} {ds : List D} {M A junk : Mem} {i : Nat} {l : List D} {n : Nat} (hA : FlAt M i A) (hB : runB B N ds M = .ok (.ref M.length) (A ++ .lst l :: junk)) (hl : PlL n l) : gcB B N ds M = .ok (.lst l) A := by
  obtain ⟨s, _, rfl⟩ := hA.at_
  obtain ⟨ps, hps, _⟩ := hl.py
  exact gc_ref hB rfl hps
theorem gc_flowV {B : FS} {N : Nat} {ds : List D} {M A junk : Mem} {i : Nat} {d : D} {n : Nat} (hA : FlAt M i A) (hB : runB B N ds M = .ok d (A ++ junk)) (hl : Pl n d) : gcB B N ds M = .ok d A := by
  obtain ⟨s, _, rfl⟩ := hA.at_
  obtain ⟨p, hp, _⟩ := hl
  exact gc_val hB rfl hp
theorem gc_feed {B : FS} {N : Nat} {ds : List D} {M A junk : Mem} {i : Nat} {l : List D} {n : Nat} (hA : FdAt M i A) (hB : runB B N ds M = .ok (.ref M.length) (A ++ .lst l :: junk)) (hl : PlL n l) : gcB B N ds M = .ok (.lst l) A := by
  obtain ⟨s, rfl⟩ := hA.at_
  obtain ⟨ps, hps, _⟩ := hl.py
  exact gc_ref hB rfl hps
theorem gc_feedV {B : FS} {N : Nat} {ds : List D} {M A junk : Mem} {i : Nat} {d : D} {n : Nat} (hA : FdAt M i A) (hB : runB B N ds M = .ok d (A ++ junk)) (hl : Pl n d) : gcB B N ds M = .ok d A := by
  obtain ⟨s, rfl⟩ := hA.at_
  obtain ⟨p, hp, _⟩ := hl
  exact gc_val hB rfl hp
theorem FlAt.trans {M0 M1 M2 : Mem} {i : Nat} (h : FlAt M0 i M1) (h' : FlAt M1 i M2) : FlAt M0 i M2 := by
  obtain ⟨s, _, e⟩ := h.at_
  obtain ⟨s', k, e'⟩ := h'.at_
  exact ⟨⟨s', k, by rw [e', e, set_twice]⟩, h.lt⟩
theorem FlAt.self {M0 M1 : Mem} {i : Nat} (h : FlAt M0 i M1) : FlAt M1 i M1 := by
  obtain ⟨s, k, h1, _⟩ := h.get
  exact .start k h1
theorem plL_str {n : Nat} (F : List (List Nat)) : PlL n (F.map .str) := fun d hd => by obtain ⟨w, _, rfl⟩ := List.mem_map.mp hd; exact Pl.str _
theorem plL_int {n : Nat} (F : List Int) : PlL n (F.map .int) := fun d hd => by obtain ⟨w, _, rfl⟩ := List.mem_map.mp hd; exact Pl.int _
end Fn

set_option Elab.async false
set_option linter.all false
set_option maxRecDepth 100000
/-! FnSet: sorted(set(a list of whole numbers)). -/
namespace Fn
open PySem PySem.Spec PyProof.Rows L2
abbrev ob0 (w : World) : Obj := { cls := .type "set", dict := none, data := .set #[] 0 (.fresh 0 0 (!w.params.followText "set-order")) }
section
variable {P : Program} {w : World} {A : Around} {E : Value → Shared → Prop} {s : Shared}
/-- what stands behind set.__init__ -/
abbrev Filled (w : World) (s : Shared) (ns : List Int) (s2 : Shared) : Prop := ∃ h2 tk c, s2 = { s with heap := h2, toks := tk } ∧ SetR w h2 s.heap.objs.size (fun j => decide (j ∈ ns)) c ∧ c ≤ ns.length ∧ ∀ b o, s.heap.get? b = some o → h2.get? b = some o
set_option maxHeartbeats 3200000 in
theorem set_of_list {l : Addr} {vs : Array Value} (ns : List Int) {Q : Value → Shared → Prop} (nh : A.handled = none) (pl : s.heap.IsList l vs) (iv : IntsAre vs.toList ns) (fit : ns.length + 1 < scanBound)
    (done : ∀ s2, Filled w s ns s2 → Q (.ref s.heap.objs.size) s2) : wpAny (model P w) A (call (.type "set") [.ref l]) Q E s := by
  have vn : vs.size = ns.length := by have q := IntsAre.length iv; rwa [Array.length_toList] at q
  obtain ⟨cm, tm, mro⟩ := F.called_set.mro
  have k1 := F.called_set.made
  have k2 := F.called_set.sub
  have k3 := F.called_set.notType
  have k4 := F.called_set.canCreate
  have k5 := F.typeCall_set_1 (.ref l)
  apply wpAny_call; apply codeAny_of_tree
  show wpAny (model P w) _ (callAny (.type "set") _) _ _ s
  apply wpAny_pure; refine ⟨Code.quiet_builtin _ (by decide +kernel), ?_⟩
  apply codeAny_builtin PySem.F.entry_type_call
  rw [Around.under_plain (weight_type_call_type "set" [.ref l] []) rfl]
  repeat (any_goals (first | assumption | wp_step))
  refine codeAny_mono (R := wants (fun z s1 => z = .ref s.heap.objs.size ∧ s1 = { s with heap := s.heap.push (ob0 w) }) E) (code_set_led1 (.ref l) (Q₁ := fun z s1 => z = .ref s.heap.objs.size ∧ s1 = { s with heap := s.heap.push (ob0 w) }) ⟨rfl, rfl⟩) ?_
  rintro (er | fl) s1 got
  · exact got
  cases fl <;> first | exact got.elim | skip
  obtain ⟨rfl, rfl⟩ := got
  have g0 : (s.heap.push (ob0 w)).get? s.heap.objs.size = some (ob0 w) := Heap.get?_push_size _ rfl
  have ty : Shared.TypeIs { s with heap := s.heap.push (ob0 w) } (.ref s.heap.objs.size) "set" := ⟨ob0 w, g0, rfl⟩
  have k6 := F.called_set.init.lookup
  have k7 := F.called_set.init.bind (.ref s.heap.objs.size)
  repeat (any_goals (first | assumption | wp_step))
  refine codeAny_mono (R := wants (fun z s2 => z = .none ∧ Filled w s ns s2) E) (codeAny_call_builtin F.called_set.init.plain F.entry_set_init (check_set_init_1 ty ?_)) ?_
  · obtain ⟨ol, eo, ec, m, ed⟩ := pl
    obtain ⟨cl, di, da, sl⟩ := ol
    simp only at ec ed
    subst ec ed
    have eo1 : (s.heap.push (ob0 w)).get? l = some { cls := .type "list", dict := di, data := .seq vs m, slots := sl } := Heap.get?_push_of_some _ eo
    have n1 := F.sub_list_set
    have n2 := F.sub_list_frozenset
    have n3 : (Value.type "list" == Value.type "dict") = false := by decide
    have pl1 : (s.heap.push (ob0 w)).IsList l vs := ⟨_, eo1, rfl, m, rfl⟩
    have lt0 : l < s.heap.objs.size := Heap.lt_size eo
    have z1 : (s.heap.push (ob0 w)).objs.size = s.heap.objs.size + 1 := Heap.size_push ..
    unfold Builtin.«set.__init__» noKeywords Builtin.Frozenset.updateFrom
    generalize hPI : pyIter = PI
    wp_walk
    subst hPI
    apply wpAny_pyIter_list pl1
    apply wpAny_bind; apply wpAny_runValue
    have nh3 : A.in1.in1.in1.handled = none := by simp [nh]
    have away : l ≠ (s.heap.push (ob0 w)).objs.size := by rw [z1]; exact Nat.ne_of_lt (Nat.lt_succ_of_lt lt0)
    have off : s.heap.objs.size ∉ [(s.heap.push (ob0 w)).objs.size, l] := by
      rw [z1, List.mem_cons, List.mem_singleton, not_or]
      exact ⟨Nat.ne_of_lt (Nat.lt_succ_self _), Nat.ne_of_gt lt0⟩
    have item : ∀ (i : Nat) (v : Value), vs[i]? = some v → ∃ k t, ns[i]? = some k ∧ v = .int k t := by
      intro i v e
      have hi : i < ns.length := by rw [← vn]; exact (Array.getElem?_eq_some_iff.mp e).1
      obtain ⟨t, q⟩ := PyProof.Rows.IntsAre.int_at iv i v (by rw [Array.getElem?_toList]; exact e)
      exact ⟨ns[i], t, List.getElem?_eq_getElem hi, by rw [q, List.getD_eq_getElem?_getD, List.getElem?_eq_getElem hi]; rfl⟩
    refine set_update_ints ((Walks.list nh3 _ l away vs).toS) s.heap.objs.size off ns vn fit item vs.size 0 _ (by omega) (Nat.zero_le _) ⟨⟨_, Heap.get?_push_size _ rfl, rfl, rfl⟩, pl1.push _⟩ ?_ ?_
    · exact ⟨0, Nat.le_refl 0, setR_new_at (Heap.get?_push_of_some _ g0)⟩
    · rintro ⟨h2, g2, d2, tk2, os2⟩ c mv cn R
      have e1 : g2 = s.gens := mv.gens
      have e2 : d2 = s.drawn := mv.drawn
      have e3 : os2 = s.os := mv.os
      subst e1 e2 e3
      rw [vn] at cn
      apply wpAny_pure
      apply wpAny_pure
      refine ⟨rfl, h2, tk2, c, rfl, R, cn, fun b o e => mv.heap b o ?_ (Heap.get?_push_of_some _ (Heap.get?_push_of_some _ e))⟩
      have lb := Heap.lt_size e
      rw [z1, List.mem_cons, List.mem_singleton, not_or]
      exact ⟨Nat.ne_of_lt lb, Nat.ne_of_lt (Nat.lt_succ_of_lt lb)⟩
  · rintro (er | fl) s2 got
    · exact got
    cases fl <;> first | exact got.elim | skip
    obtain ⟨rfl, fin⟩ := got
    repeat (any_goals (first | assumption | wp_step))
    exact done _ fin
end
/-! ### the sorted list of the members -/
def insU (k : Int) : List Int → List Int
  | [] => [k]
  | a :: r => if k < a then k :: a :: r else if k = a then a :: r else a :: insU k r
def setSort (ns : List Int) : List Int := ns.foldr insU []
theorem insU_mem {k x : Int} : ∀ {l : List Int}, x ∈ insU k l ↔ x = k ∨ x ∈ l
  | [] => by simp [insU]
  | a :: r => by
    unfold insU
    split
    · simp
    · split
      · rename_i h; subst h; simp
      · rw [List.mem_cons, insU_mem, List.mem_cons]
        exact ⟨fun h => h.elim (fun h => .inr (.inl h)) fun h => h.elim .inl fun h => .inr (.inr h), fun h => h.elim (fun h => .inr (.inl h)) fun h => h.elim .inl fun h => .inr (.inr h)⟩
theorem insU_up {k : Int} : ∀ {l : List Int}, l.Pairwise (· < ·) → (insU k l).Pairwise (· < ·)
  | [], _ => by simp [insU]
  | a :: r, h => by
    have h1 := List.pairwise_cons.mp h
    unfold insU
    split
    · rename_i q
      exact List.pairwise_cons.mpr ⟨fun x hx => by
        rcases List.mem_cons.mp hx with e | e
        · rw [e]; exact q
        · have := h1.1 x e; omega, h⟩
    · split
      · exact h
      · exact List.pairwise_cons.mpr ⟨fun x hx => by
          rcases insU_mem.mp hx with e | e
          · rw [e]; omega
          · exact h1.1 x e, insU_up h1.2⟩
theorem setSort_up : ∀ ns : List Int, (setSort ns).Pairwise (· < ·)
  | [] => List.Pairwise.nil
  | k :: r => insU_up (setSort_up r)
theorem setSort_mem {x : Int} : ∀ {ns : List Int}, x ∈ setSort ns ↔ x ∈ ns
  | [] => by simp [setSort]
  | k :: r => by
    show x ∈ insU k (setSort r) ↔ _
    rw [insU_mem, setSort_mem, List.mem_cons]
theorem ints_up_eq : ∀ {l m : List Int}, l.Pairwise (· < ·) → m.Pairwise (· < ·) → (∀ x, x ∈ l ↔ x ∈ m) → l = m
  | [], [], _, _, _ => rfl
  | [], b :: m, _, _, h => by have := (h b).mpr (List.mem_cons_self ..); cases this
  | a :: l, [], _, _, h => by have := (h a).mp (List.mem_cons_self ..); cases this
  | a :: l, b :: m, h1, h2, h => by
    have k1 := List.pairwise_cons.mp h1
    have k2 := List.pairwise_cons.mp h2
    have e : a = b := by
      rcases List.mem_cons.mp ((h a).mp (List.mem_cons_self ..)) with e | e
      · exact e
      · rcases List.mem_cons.mp ((h b).mpr (List.mem_cons_self ..)) with e' | e'
        · exact e'.symm
        · have := k2.1 a e; have := k1.1 b e'; omega
    subst e
    rw [ints_up_eq k1.2 k2.2 fun x => ⟨fun hx => by
        rcases List.mem_cons.mp ((h x).mp (List.mem_cons_of_mem _ hx)) with e | e
        · have := k1.1 x hx; omega
        · exact e, fun hx => by
        rcases List.mem_cons.mp ((h x).mpr (List.mem_cons_of_mem _ hx)) with e | e
        · have := k2.1 x hx; omega
        · exact e⟩]
section
variable {X : Cx} {G : Gx} {cl : Nat → Addr} {E : XK} {W : Wd} {H : Hp} {M : Mem} {e : Expr} {fa : FE} {p1 p2 pos q : Pos}
def rSetI (K : PySem.W.Frag) (w : World) : List V → Hp → VK → Prop := fun xs H Q => ∃ (l : Addr) (ns : List Int), xs = [V.ref l] ∧ SqL K H l (ns.map V.int) ∧ ns.length < 60 ∧ ∀ p c, H p = none → c ≤ ns.length → Q (.ref p) (upd H p (SetO w p (fun j => decide (j ∈ ns)) c))
theorem cr_setI (hc : X.calm = true) : CallR X (.type "set") (rSetI X.K X.w) := by
  intro pins s σ H xs us Q I r h
  obtain ⟨l, ns, rfl, hs, hl, k⟩ := h
  obtain ⟨its, rv, pl, hz⟩ := I.list hs
  rw [Vals.ref1 r]
  refine set_of_list ns (I.ok.hd hc) pl.isList (by simpa using ints_of_vals rv) (by unfold scanBound; omega) ?_
  rintro _ ⟨h2, tk, c, rfl, R, hc2, kp⟩
  exact ⟨.ref _, upd H s.heap.objs.size (SetO X.w s.heap.objs.size (fun j => decide (j ∈ ns)) c), I.laid (t' := tk) kp (Nat.le_refl _) (setO_new R), rfl, k _ _ (I.hok.fresh (Nat.le_refl _)) hc2⟩
def oSortSet (c : Bool) : List D → Mem → R D
  | [d], M => match (lstOf M d).bind intsOf with
    | some ns => if ns.length < 60 then mkL c ((setSort ns).map .int) M else .no
    | none => .no
  | _, _ => .no
theorem rpL_ints : ∀ ns : List Int, RpL G W H (ns.map .int) (ns.map V.int)
  | [] => (rfl : ([] : List V) = [])
  | n :: r => ⟨_, _, rfl, rfl, rpL_ints r⟩
/-- sorted(set(e)) -/
theorem sn_sortSet {x y : Str} (c : Bool) (hc : X.calm = true) (hx : x = "sorted") (hy : y = "set") (hg : Gl X x) (hm : X.mg x = none) (hg2 : Gl X y) (hm2 : X.mg y = none) (ha : PE X e (tE ⟨X.K, cl⟩ E fa))
    (he1 : starEach [.Call (.Name y p2) [e] [] q] X.env = (false, eval (.Call (.Name y p2) [e] [] q) X.env) :: starEach [] X.env := by rfl)
    (he2 : starEach [e] X.env = (false, eval e X.env) :: starEach [] X.env := by rfl)
    (hpl : (backTo pos (starEach [] X.env)).any (·.1) = false := by rfl) (hpl2 : (backTo q (starEach [] X.env)).any (·.1) = false := by rfl) :
    PE X (.Call (.Name x p1) [.Call (.Name y p2) [e] [] q] [] pos) (tE ⟨X.K, cl⟩ E (mCall (oSortSet c) (aCons fa aNil))) := by
  subst hx hy
  refine pe_imp (pe_callB (cr_sortedSet hc) hg hm (by decide +kernel) (pa_cons (pe_callTy (cr_setI hc) hg2 hm2 (by decide +kernel) (pa_cons ha pa_nil he2) (by decide) (by decide) he2 hpl2) pa_nil he1) (by decide) (by decide) he1 hpl) fun σ H Q ⟨W, env, M, s, p⟩ => ?_
  have p' : PR ⟨X.K, cl⟩ W H (PV ⟨X.K, cl⟩ Q) E ((fa env M).bind fun d m => oSortSet c [d] m) := by
    have : ((mCall (oSortSet c) (aCons fa aNil)) env M) = (fa env M).bind fun d m => oSortSet c [d] m := by
      show ((aCons fa aNil) env M).bind (oSortSet c) = _
      exact aCons_bind
    rw [← this]; exact p
  refine tE.bind s p' fun d m1 W1 H1 u f1 s1 r1 p1 => ?_
  simp only [oSortSet] at p1
  split at p1
  · rename_i ns e1
    split at p1
    · rename_i hl
      cases q1 : lstOf m1 d with
      | none => rw [q1] at e1; cases e1
      | some l =>
        rw [q1] at e1
        obtain ⟨a1, vs, rfl, h2, h3⟩ := lstOf_ok s1.mem r1 q1
        have hv := intsOf_ok h3 e1
        subst hv
        refine ⟨a1, ns, rfl, h2, hl, fun p0 cc hp0 hcc => ?_⟩
        refine ⟨p0, _, cc, rfl, upd_same, by omega, fun ms q0 up mem _ hq0 => ?_⟩
        have ems : ms = setSort ns := ints_up_eq up (setSort_up ns) fun x => by rw [mem, setSort_mem]; exact decide_eq_true_iff
        subst ems
        have f2 : Fut W1 H1 W1 (upd H1 p0 (SetO X.w p0 (fun j => decide (j ∈ ns)) cc)) := Fut.laid hp0
        exact mkL_new (s1.mem.laid hp0) (PR.fut f2 p1) (rpL_ints _) q0 hq0
    · exact p1.elim
  · exact p1.elim
end
end Fn

set_option Elab.async false
set_option linter.all false
set_option maxRecDepth 100000
set_option maxHeartbeats 1000000
/-! FnFun: calls that leave a keyword-only default out; xs[::-1]. -/
namespace Fn
open PySem PySem.Spec PyProof.Rows L2
section
variable {X : Cx} {CX : CXT} {k n : Nat} {f : Addr} {fd : FuncData} {ps : List Str} {g : FD} {dd : List D} {dvs : List V} {ds : List Value} {G : Gx} {cl : Nat → Addr} {E : XK} {x : Str} {p pos : Pos} {e : Expr} {es : List Expr} {ga : FA}
theorem fun_readsK {K : PySem.W.Frag} (hc : ClosedK K cl dd dvs) (σ : L2.St) (H : Hp) (Q : VK) (h : tE ⟨K, cl⟩ E (mFun n g dd ga) σ H Q) : tCall (spOf ⟨K, cl⟩ n g) dvs E (tA ⟨K, cl⟩ E ga) σ H Q := by
  obtain ⟨W, env, M, s, p⟩ := h
  refine tA.bind s p fun xs m2 W2 H2 us f2 s2 r2 p2 => ?_
  split at p2
  · rename_i hl
    exact ⟨W2, m2, xs ++ dd, s2.mem, r2.append (hc W2 H2), hl, p2⟩
  · exact p2.elim
theorem sn_callD (F : FnOk X.prog X.w X.K X.mg X.base CX k f fd ps (spOf ⟨X.K, cl⟩ n g)) (hr : Room k X.A) (hg : Gl X x) (hm : X.mg x = some (.ref f)) (hk : PySem.W.keepIn X.K (.ref f) = true) (hb : Binds X.K fd ps ds) (hd : Vals dvs ds) (hc : ClosedK X.K cl dd dvs) (hx : Passes CX X E)
    (ha : PA X (e :: es) (tA ⟨X.K, cl⟩ E ga)) (hdb : (x == ("__debug__" : Str)) = false := by decide) (he : starEach (e :: es) X.env = (false, eval e X.env) :: starEach es X.env := by rfl) (hpl : (backTo pos (starEach es X.env)).any (·.1) = false := by rfl) :
    PE X (.Call (.Name x p) (e :: es) [] pos) (tE ⟨X.K, cl⟩ E (mFun n g dd ga)) := pe_imp (pe_call F hr hg hm hk hb hd hx ha hdb he hpl) (fun_readsK hc)
/-! ### x[::-1], of a list or of a tuple -/
section
variable {prog : Program} {w : World} {A : Around} {E' : Value → Shared → Prop} {s : Shared}
theorem adjust_rev (n : Nat) : Builtin.Slice.sliceAdjust none none (-1) (n : Int) = ((n : Int) - 1, (-1 : Int)) := rfl
theorem places_rev (n : Nat) : Builtin.Slice.slicePlaces ((n : Int) - 1) (-1) (-1) = n := by
  unfold Builtin.Slice.slicePlaces
  have h1 : ¬ ((-1 : Int) > 0) := by omega
  simp only [h1, if_false]
  by_cases h : (n : Int) - 1 > -1
  · rw [if_pos h, show -(-1 : Int) = 1 from rfl, Int.ediv_one]; omega
  · rw [if_neg h]; omega
theorem sliceApplied_rev {sl : Addr} {vl vu vs : Value} {n : Nat} {Q : Int × Int × Nat → Shared → Prop} (hs : s.heap.IsSliceOf sl vl vu vs) (pl : IsPart vl none) (pu : IsPart vu none) (ps : IsPart vs (some (-1)))
    (h : Q ((n : Int) - 1, -1, n) s) : wpAny (model prog w) A (Builtin.Slice.sliceApplied (.ref sl) (pure (n : Int))) Q E' s := by
  obtain ⟨os, hos, hcs, hds⟩ := id hs
  unfold Builtin.Slice.sliceApplied Builtin.Slice.sliceFields
  refine wpAny_bind (wpAny_bind (wpAny_field hos hds (x := vl) rfl (wpAny_bind (wpAny_field hos hds (x := vu) rfl (wpAny_bind (wpAny_field hos hds (x := vs) rfl (wpAny_pure ?_)))))))
  refine wpAny_bind (HT.slicePart_ ps ?_)
  show wpAny _ _ (if ((-1 : Int) == 0) = true then _ else _) _ _ s
  rw [if_neg (by decide)]
  refine wpAny_bind (HT.slicePart_ pl (wpAny_bind (HT.slicePart_ pu (wpAny_bind (wpAny_pure ?_)))))
  show wpAny _ _ (match Builtin.Slice.sliceAdjust none none (-1) (n : Int) with | (lo, hi) => pure (lo, (-1 : Int), Builtin.Slice.slicePlaces lo hi (-1))) _ _ s
  rw [adjust_rev n]
  show wpAny _ _ (pure ((n : Int) - 1, (-1 : Int), Builtin.Slice.slicePlaces ((n : Int) - 1) (-1) (-1))) _ _ s
  rw [places_rev]
  exact wpAny_pure h
theorem fm_map {α β : Type} {f : α → Option β} {g : α → β} : ∀ l : List α, (∀ m ∈ l, f m = some (g m)) → l.filterMap f = l.map g
  | [], _ => rfl
  | x :: r, h => by rw [List.filterMap_cons_some (h x (List.mem_cons_self ..)), List.map_cons, fm_map r fun m hm => h m (List.mem_cons_of_mem _ hm)]
theorem pick_rev (xs : Array Value) : ((List.range xs.size).filterMap fun (m : Nat) => xs[(((xs.size : Int) - 1) + (m : Int) * (-1)).toNat]?).toArray = xs.toList.reverse.toArray := by
  congr 1
  apply List.ext_getElem?
  intro i
  have e : ((List.range xs.size).filterMap fun (m : Nat) => xs[(((xs.size : Int) - 1) + (m : Int) * (-1)).toNat]?) = (List.range xs.size).map fun m => xs.toList.getD (xs.size - 1 - m) .none := by
    refine fm_map _ fun m hm => ?_
    have hm := List.mem_range.mp hm
    have e1 : (((xs.size : Int) - 1) + (m : Int) * (-1)).toNat = xs.size - 1 - m := by omega
    rw [e1]
    have hl : xs.size - 1 - m < xs.size := by omega
    rw [Array.getElem?_eq_getElem hl]
    simp [List.getD, hl]
  rw [e, List.getElem?_map]
  by_cases hi : i < xs.size
  · rw [List.getElem?_range hi, List.getElem?_reverse (by simpa using hi)]
    have hl : xs.size - 1 - i < xs.size := by omega
    simp [List.getD, hl]
  · rw [List.getElem?_eq_none (by simp; omega), List.getElem?_eq_none (by simp; omega)]; rfl
theorem getItem_tuple_rev {t sl : Addr} {items : Array Value} {vl vu vs : Value} {Q : Value → Shared → Prop} (ht : IsTup s.heap t items) (hs : s.heap.IsSliceOf sl vl vu vs) (pl : IsPart vl none) (pu : IsPart vu none) (ps : IsPart vs (some (-1)))
    (h : Q (.ref s.heap.objs.size) { s with heap := s.heap.push { cls := .type "tuple", data := .seq items.toList.reverse.toArray } })
    (hsz : items.size ≤ sizeLine) : wpAny (model prog w) A (getItem (.ref t) (.ref sl)) Q E' s := by
  have htake : sizeOk (.seq items.toList.reverse.toArray) := by
    show items.toList.reverse.toArray.size ≤ sizeLine
    rw [List.size_toArray, List.length_reverse, Array.length_toList]
    omega
  obtain ⟨os, hos, hcs, hds⟩ := id hs
  have hTs : s.TypeIs (.ref sl) "slice" := ⟨os, hos, hcs⟩
  unfold getItem
  try with_reducible refine wpAny_holding ?_
  first | refine wpAny_bind (wpAny_pure ?_) | skip
  refine wpAny_bind (wpAny_sequenceKey ht.typeIs (by decide) ?_)
  refine wpAny_bind (wpAny_callSpecial?_slot (name := Str.ofString "__getitem__") ht.typeIs PyProof.Rows.slot_tuple_getitem
    (wpAny_call_entry PyProof.Rows.slot_tuple_getitem ht.typeIs entry_tuple_getitem ?_ (args_tuple_getitem _ _)))
  show wpAny _ _ (Builtin.Tuple.tupleItemsOf (.ref t) >>= _) _ _ s
  refine wpAny_bind (tupleItemsOf_ ht ?_)
  refine wpAny_bind (wpAny_typeOf hTs ?_)
  rw [if_pos (by decide)]
  refine wpAny_bind (sliceApplied_rev hs pl pu ps ?_)
  have hno : ¬ ((((items.size : Int) - 1) == 0 && (-1 : Int) == 1 && items.size == items.size) = true) := by simp
  show wpAny _ _ (if (((items.size : Int) - 1) == 0 && (-1 : Int) == 1 && items.size == items.size) = true then _ else _) _ _ s
  rw [if_neg hno, pick_rev]
  first
    | exact wpAny_bind (m := Builtin.Tuple.tupleExact _) (wpAny_newObj_type (wpAny_pure ⟨_, rfl, wpAny_pure h⟩) htake)
    | exact wpAny_bind (m := Builtin.Tuple.tupleExact _) (wpAny_newObj_type (wpAny_bind (wpAny_pure (wpAny_pure ⟨_, rfl, wpAny_pure h⟩))) htake)
    | exact wpAny_bind (wpAny_bind (m := Builtin.Tuple.tupleExact _) (wpAny_newObj_type (wpAny_pure (wpAny_pure ⟨_, rfl, wpAny_pure h⟩)) htake))
    | exact wpAny_bind (wpAny_bind (m := Builtin.Tuple.tupleExact _) (wpAny_newObj_type (wpAny_pure ⟨_, rfl, wpAny_pure h⟩) htake))
end
def tRevA (K : PySem.W.Frag) (te : TE) : TE := fun σ H Q => te σ H fun x H1 => (∃ a xs, x = .ref a ∧ SqL K H1 a xs ∧ ∀ p, H1 p = none → Q (.ref p) (upd H1 p (.lst xs.reverse))) ∨ (∃ a xs, x = .ref a ∧ SqT K H1 a xs ∧ ∀ p, H1 p = none → Q (.ref p) (upd H1 p (.tup xs.reverse)))
theorem pe_revA {e : Expr} {te : TE} {k : Nat} {p1 p2 p3 pos : Pos} (he : PE X e te) : PE X (.Subscript e (.Slice none none (some (.UnaryOp .USub (.Constant (.int 1) k p1) p2)) p3) pos) (tRevA X.K te) := by
  refine ⟨fun pins s σ H Q I h => ?_⟩
  refine Subscript_ (thn (he.run pins s σ H _ I h) fun v s1 ⟨x, H1, I1, r1, q1⟩ => ?_)
  have hst : PO X (some (.UnaryOp .USub (.Constant (.int 1) k p1) p2)) (tPart (tUn (rU fun i => .int (-i)) (tC (.int 1)))) := po_some (pe_un un_neg pe_int)
  refine wpAny_Slice (thn (po_none.run pins s1 σ H1 (fun o H2 => o = none ∧ H2 = H1) I1 ⟨rfl, rfl⟩) fun vl s2 ⟨l, H2, I2, pl, el, e2⟩ => ?_)
  subst el e2
  refine thn (po_none.run pins s2 σ H2 (fun o H3 => o = none ∧ H3 = H2) I2 ⟨rfl, rfl⟩) fun vu s3 ⟨u, H3, I3, pu, eu, e3⟩ => ?_
  subst eu e3
  refine thn (hst.run pins s3 σ H3 (fun o H4 => o = some (-1) ∧ H4 = H3) I3 ⟨1, rfl, -1, rfl, rfl, rfl⟩) fun vs s4 ⟨o, H4, I4, ps, eo, e4⟩ => ?_
  subst eo e4
  have I5 : Inv X pins σ H4 { s4 with heap := s4.heap.push { cls := .type "slice", data := .fields #[vl, vu, vs] } } := I4.kept (t' := s4.toks) fun b ob q => Heap.get?_push_of_some _ q
  rcases q1 with ⟨a, xs, ex, hx, q⟩ | ⟨a, xs, ex, hx, q⟩
  · subst ex
    cases r1
    obtain ⟨its, r, ht, hz⟩ := I5.list hx
    have hlen := r.length
    show wpAny (model X.prog X.w) X.A (subscriptTail e (.Slice none none (some (.UnaryOp .USub (.Constant (.int 1) k p1) p2)) p3) (.ref a) (.ref s4.heap.objs.size)) (EP X pins σ Q) X.xe { s4 with heap := s4.heap.push { cls := .type "slice", data := .fields #[vl, vu, vs] } }
    refine tail_any (ops := [.ref a, .ref s4.heap.objs.size]) ht.isList.typeIs (PySem.slot_list_getitem.lookup) ?_ (by with_unfolding_all rfl)
    refine wpAny_getItem_list_slice ht.isList (Heap.IsSliceOf.new _ vl vu vs) pl pu ps (by decide) ?_ (by rw [List.size_toArray]; omega)
    rw [PySem.W.krv_pick]
    refine ⟨.ref _, _, I5.laid (t' := s4.toks) (o := .lst xs.reverse) (fun b ob q => Heap.get?_push_of_some _ q) (Nat.le_refl _) ?_, rfl, q _ (I5.hok.fresh (Nat.le_refl _))⟩
    exact ⟨by rw [List.length_reverse]; exact hz, _, 0, r.reverse, Heap.get?_push_size _ rfl⟩
  · subst ex
    cases r1
    obtain ⟨its, r, ht, hz⟩ := I5.tuple hx
    have hlen := r.length
    show wpAny (model X.prog X.w) X.A (subscriptTail e (.Slice none none (some (.UnaryOp .USub (.Constant (.int 1) k p1) p2)) p3) (.ref a) (.ref s4.heap.objs.size)) (EP X pins σ Q) X.xe { s4 with heap := s4.heap.push { cls := .type "slice", data := .fields #[vl, vu, vs] } }
    refine tail_any (ops := [.ref a, .ref s4.heap.objs.size]) ht.typeIs PyProof.Rows.slot_tuple_getitem.lookup ?_ (by with_unfolding_all rfl)
    refine getItem_tuple_rev ht (Heap.IsSliceOf.new _ vl vu vs) pl pu ps ?_ (by rw [List.size_toArray]; omega)
    refine ⟨.ref _, _, I5.laid (t' := s4.toks) (o := .tup xs.reverse) (fun b ob q => Heap.get?_push_of_some _ q) (Nat.le_refl _) ?_, rfl, q _ (I5.hok.fresh (Nat.le_refl _))⟩
    exact ⟨by rw [List.length_reverse]; exact hz, _, r.reverse, IsTup.new _ _⟩
def oRev (c : Bool) (d : D) (M : Mem) : R D := match d with
  | .tup l => .ok (.tup l.reverse) M
  | d => match lstOf M d with
    | some l => mkL c l.reverse M
    | none => .no
theorem oRev_tup (c : Bool) (l : List D) (M : Mem) : oRev c (.tup l) M = .ok (.tup l.reverse) M := rfl
theorem sn_revL (c : Bool) {e : Expr} {fa : FE} {j : Nat} {p1 p2 p3 : Pos} (ha : PE X e (tE ⟨X.K, cl⟩ E fa)) : PE X (.Subscript e (.Slice none none (some (.UnaryOp .USub (.Constant (.int 1) j p1) p2)) p3) pos) (tE ⟨X.K, cl⟩ E (mUn (oRev c) fa)) := pe_imp (pe_revA ha) fun σ H Q ⟨W, env, M, s, p⟩ => by
  refine tE.bind s p fun d m W1 H1 u f1 s1 r1 p1 => ?_
  have seq : ∀ l, lstOf m d = some l → PR ⟨X.K, cl⟩ W1 H1 (PV ⟨X.K, cl⟩ Q) E (mkL c l.reverse m) → (∃ a xs, u = .ref a ∧ SqL X.K H1 a xs ∧ ∀ p, H1 p = none → Q (.ref p) (upd H1 p (.lst xs.reverse))) ∨ (∃ a xs, u = .ref a ∧ SqT X.K H1 a xs ∧ ∀ p, H1 p = none → Q (.ref p) (upd H1 p (.tup xs.reverse))) := fun l e1 p1 => by
    obtain ⟨a1, us, h1, h2, h3⟩ := lstOf_ok s1.mem r1 e1
    exact .inl ⟨a1, us, h1, h2, mkL_new s1.mem p1 h3.reverse⟩
  unfold oRev at p1
  split at p1
  · rename_i l
    obtain ⟨a1, us, h1, h2, h3⟩ := r1
    exact .inr ⟨a1, us, h1, h2.sq, tup_new s1.mem p1 h3.reverse⟩
  · split at p1
    · rename_i l e1
      exact seq l e1 p1
    · exact p1.elim
end
end Fn

set_option Elab.async false
set_option linter.all false
set_option maxRecDepth 100000
set_option maxHeartbeats 1000000
/-! FnEq: equality of exact data (no truths, nothing frozen, no cells) is equality. -/
namespace Fn
open PySem PySem.Spec PyProof.Rows L2
mutual
def exD : D → Bool
  | .non | .int _ | .str _ => true
  | .tup l => exL l
  | .lst l => exL l
  | _ => false
def exL : List D → Bool
  | [] => true
  | d :: r => exD d && exL r
end
theorem exL_iff : ∀ {l : List D}, exL l = true ↔ ∀ d ∈ l, exD d = true
  | [] => by simp [exL]
  | d :: r => by simp only [exL, Bool.and_eq_true, exL_iff, List.mem_cons, forall_eq_or_imp]
mutual
theorem eqv_ex : ∀ (a b : D) (p q : PyData), exD a = true → exD b = true → pyD a = some p → pyD b = some q → (PyData.eqv p q = true ↔ a = b)
  | .non, b, p, q, h1, h2, e1, e2 => by
    cases e1
    cases b <;> simp only [exD, Bool.false_eq_true] at h2 <;> simp only [pyD, Option.some.injEq, Option.map_eq_some_iff] at e2
    case non => subst e2; simp [PyData.eqv]
    case int => subst e2; simp [PyData.eqv]
    case str => subst e2; simp [PyData.eqv]
    case tup => obtain ⟨x, _, rfl⟩ := e2; simp [PyData.eqv]
    case lst => obtain ⟨x, _, rfl⟩ := e2; simp [PyData.eqv]
  | .int i, b, p, q, h1, h2, e1, e2 => by
    cases e1
    cases b <;> simp only [exD, Bool.false_eq_true] at h2 <;> simp only [pyD, Option.some.injEq, Option.map_eq_some_iff] at e2
    case non => subst e2; simp [PyData.eqv]
    case int => subst e2; simp [PyData.eqv]
    case str => subst e2; simp [PyData.eqv]
    case tup => obtain ⟨x, _, rfl⟩ := e2; simp [PyData.eqv]
    case lst => obtain ⟨x, _, rfl⟩ := e2; simp [PyData.eqv]
  | .str s, b, p, q, h1, h2, e1, e2 => by
    cases e1
    cases b <;> simp only [exD, Bool.false_eq_true] at h2 <;> simp only [pyD, Option.some.injEq, Option.map_eq_some_iff] at e2
    case non => subst e2; simp [PyData.eqv]
    case int => subst e2; simp [PyData.eqv]
    case str y =>
      subst e2
      simp only [PyData.eqv, beq_iff_eq, D.str.injEq]
      exact ⟨fun h => l2s_inj h, fun h => by rw [h]⟩
    case tup => obtain ⟨x, _, rfl⟩ := e2; simp [PyData.eqv]
    case lst => obtain ⟨x, _, rfl⟩ := e2; simp [PyData.eqv]
  | .tup l, b, p, q, h1, h2, e1, e2 => by
    simp only [pyD, Option.map_eq_some_iff] at e1
    obtain ⟨ps, k1, rfl⟩ := e1
    cases b <;> simp only [exD, Bool.false_eq_true] at h2 <;> simp only [pyD, Option.some.injEq, Option.map_eq_some_iff] at e2
    case non => subst e2; simp [PyData.eqv]
    case int => subst e2; simp [PyData.eqv]
    case str => subst e2; simp [PyData.eqv]
    case tup m =>
      obtain ⟨qs, k2, rfl⟩ := e2
      simp only [PyData.eqv, D.tup.injEq]
      exact eqv_exL l m ps qs (by simpa only [exD] using h1) h2 k1 k2
    case lst => obtain ⟨x, _, rfl⟩ := e2; simp [PyData.eqv]
  | .lst l, b, p, q, h1, h2, e1, e2 => by
    simp only [pyD, Option.map_eq_some_iff] at e1
    obtain ⟨ps, k1, rfl⟩ := e1
    cases b <;> simp only [exD, Bool.false_eq_true] at h2 <;> simp only [pyD, Option.some.injEq, Option.map_eq_some_iff] at e2
    case non => subst e2; simp [PyData.eqv]
    case int => subst e2; simp [PyData.eqv]
    case str => subst e2; simp [PyData.eqv]
    case tup => obtain ⟨x, _, rfl⟩ := e2; simp [PyData.eqv]
    case lst m =>
      obtain ⟨qs, k2, rfl⟩ := e2
      simp only [PyData.eqv, D.lst.injEq]
      exact eqv_exL l m ps qs (by simpa only [exD] using h1) h2 k1 k2
  | .bl _, b, p, q, h1, h2, e1, e2 => by simp only [exD, Bool.false_eq_true] at h1
  | .fz _, b, p, q, h1, h2, e1, e2 => by simp only [exD, Bool.false_eq_true] at h1
  | .ref _, b, p, q, h1, h2, e1, e2 => by simp only [exD, Bool.false_eq_true] at h1
theorem eqv_exL : ∀ (l m : List D) (ps qs : List PyData), exL l = true → exL m = true → pyL l = some ps → pyL m = some qs → (PyData.eqvAll ps qs = true ↔ l = m)
  | [], m, ps, qs, h1, h2, e1, e2 => by
    cases e1
    cases m with
    | nil => cases e2; simp [PyData.eqvAll]
    | cons b m =>
      simp only [pyL] at e2
      split at e2
      · cases e2; simp [PyData.eqvAll]
      · cases e2
  | a :: l, m, ps, qs, h1, h2, e1, e2 => by
    simp only [pyL] at e1
    split at e1
    · rename_i p ps' k1 k2
      cases e1
      cases m with
      | nil => cases e2; simp [PyData.eqvAll]
      | cons b m =>
        simp only [pyL] at e2
        split at e2
        · rename_i q qs' k3 k4
          cases e2
          simp only [exL, Bool.and_eq_true] at h1 h2
          simp only [PyData.eqvAll, Bool.and_eq_true, eqv_ex a b p q h1.1 h2.1 k1 k3, eqv_exL l m ps' qs' h1.2 h2.2 k2 k4, List.cons.injEq]
        · cases e2
    · cases e1
end
mutual
def dpD : D → Nat
  | .tup l => dpL l + 1
  | .lst l => dpL l + 1
  | _ => 0
def dpL : List D → Nat
  | [] => 0
  | d :: r => max (dpD d) (dpL r)
end
mutual
theorem ex_py : ∀ (a : D), exD a = true → ∃ p, pyD a = some p ∧ p.depth ≤ dpD a
  | .non, _ => ⟨_, rfl, by simp [PyData.depth]⟩
  | .int _, _ => ⟨_, rfl, by simp [PyData.depth]⟩
  | .str _, _ => ⟨_, rfl, by simp [PyData.depth]⟩
  | .tup l, h => by
    obtain ⟨ps, h1, h2⟩ := ex_pyL l (by simpa only [exD] using h)
    exact ⟨.tuple ps, by simp only [pyD, h1, Option.map_some], by simp only [PyData.depth, dpD]; omega⟩
  | .lst l, h => by
    obtain ⟨ps, h1, h2⟩ := ex_pyL l (by simpa only [exD] using h)
    exact ⟨.list ps, by simp only [pyD, h1, Option.map_some], by simp only [PyData.depth, dpD]; omega⟩
  | .bl _, h => by simp only [exD, Bool.false_eq_true] at h
  | .fz _, h => by simp only [exD, Bool.false_eq_true] at h
  | .ref _, h => by simp only [exD, Bool.false_eq_true] at h
theorem ex_pyL : ∀ (l : List D), exL l = true → ∃ ps, pyL l = some ps ∧ PyData.depthAll ps ≤ dpL l
  | [], _ => ⟨[], rfl, by simp [PyData.depthAll]⟩
  | d :: r, h => by
    simp only [exL, Bool.and_eq_true] at h
    obtain ⟨p, h1, h2⟩ := ex_py d h.1
    obtain ⟨ps, h3, h4⟩ := ex_pyL r h.2
    exact ⟨p :: ps, by simp only [pyL, h1, h3], by simp only [PyData.depthAll, dpL]; omega⟩
end
theorem ex_pl {a : D} (h : exD a = true) : Pl (dpD a) a := ex_py a h
theorem oEq_ex {ne : Bool} {a b : D} {M : Mem} (ha : exD a = true) (hb : exD b = true) (hd : dpD a ≤ 60) : oEq ne a b M = .ok (.bl (ne != (@decide (a = b) (Classical.propDecidable _)))) M := by
  obtain ⟨p, p1, p2⟩ := ex_py a ha
  obtain ⟨q, q1, q2⟩ := ex_py b hb
  have k1 : pyM M a = some p := pyGo_of p1
  have k2 : pyM M b = some q := pyGo_of q1
  have hm : min p.depth q.depth ≤ 60 := by omega
  have he : PyData.eqv p q = @decide (a = b) (Classical.propDecidable _) := by
    rw [Bool.eq_iff_iff, @decide_eq_true_iff _ (Classical.propDecidable _)]
    exact eqv_ex a b p q ha hb p1 q1
  simp only [oEq, k1, k2, if_pos hm, he]
  cases ne <;> simp
theorem oEq_exT {ne : Bool} {a : D} {M : Mem} (ha : exD a = true) (hd : dpD a ≤ 60) : oEq ne a a M = .ok (.bl (!ne)) M := by
  rw [oEq_ex ha ha hd]
  simp
theorem oEq_exF {ne : Bool} {a b : D} {M : Mem} (ha : exD a = true) (hb : exD b = true) (hd : dpD a ≤ 60) (h : a ≠ b) : oEq ne a b M = .ok (.bl ne) M := by
  rw [oEq_ex ha hb hd]
  simp [h]
theorem exL_strs (l : List (List Nat)) : exL (l.map .str) = true := by
  rw [exL_iff]; intro d hd; obtain ⟨w, _, rfl⟩ := List.mem_map.mp hd; rfl
theorem exL_ints (l : List Int) : exL (l.map .int) = true := by
  rw [exL_iff]; intro d hd; obtain ⟨w, _, rfl⟩ := List.mem_map.mp hd; rfl
theorem dpL_le {n : Nat} : ∀ {l : List D}, (∀ d ∈ l, dpD d ≤ n) → dpL l ≤ n
  | [], _ => Nat.zero_le _
  | d :: r, h => by
    have h1 := h d (List.mem_cons_self ..)
    have h2 := dpL_le (l := r) fun x hx => h x (List.mem_cons_of_mem _ hx)
    simp only [dpL]; omega
theorem dpL_strs (l : List (List Nat)) : dpL (l.map .str) = 0 := by
  have := dpL_le (n := 0) (l := l.map D.str) fun d hd => by obtain ⟨w, _, rfl⟩ := List.mem_map.mp hd; exact Nat.le_refl _
  omega
theorem dpL_ints (l : List Int) : dpL (l.map .int) = 0 := by
  have := dpL_le (n := 0) (l := l.map D.int) fun d hd => by obtain ⟨w, _, rfl⟩ := List.mem_map.mp hd; exact Nat.le_refl _
  omega
end Fn

set_option Elab.async false
set_option linter.all false
set_option maxRecDepth 100000
set_option maxHeartbeats 1000000
/-! FnOrd: < <= > >= of data of one make. -/
namespace Fn
open PySem PySem.Spec PyProof.Rows L2
variable {X : Cx} {G : Gx} {cl : Nat → Addr} {E : XK} {a b : Expr} {fa fb : FE} {pos : Pos}
/-- sw: the sides are exchanged; ng: the answer is turned -/
def ordV (sw ng : Bool) (d e : PyData) : Bool := ng != (if sw = true then PySem.W.dataLt e d else PySem.W.dataLt d e)
def rOrdP (sw ng : Bool) (K : PySem.W.Frag) : R2 := fun x y H Q => ∃ d e, Dp K H x d ∧ Dp K H y e ∧ PySem.W.alike d e = true ∧ d ≠ .none ∧ min d.depth e.depth ≤ 60 ∧ Q (.bl (ordV sw ng d e)) H
theorem op_ltP (hu : X.A.units + 64 < cLine) : OpR X (compareOp .Lt) (rOrdP false false X.K) := by
  intro pins s σ H x y v u Q I rx ry h
  obtain ⟨d, e, hd, he, sd, se, hm, q⟩ := h
  obtain ⟨as, r1⟩ := Dp.reads I d x v hd rx
  obtain ⟨bs, r2⟩ := Dp.reads I e y u he ry
  exact PySem.W.lt_data r1 r2 sd se (by omega) ⟨.bl _, H, I, rfl, by simpa [ordV] using q⟩
theorem op_gtP (hu : X.A.units + 64 < cLine) : OpR X (compareOp .Gt) (rOrdP true false X.K) := by
  intro pins s σ H x y v u Q I rx ry h
  obtain ⟨d, e, hd, he, sd, se, hm, q⟩ := h
  obtain ⟨as, r1⟩ := Dp.reads I d x v hd rx
  obtain ⟨bs, r2⟩ := Dp.reads I e y u he ry
  exact PySem.W.gt_data r1 r2 sd se (by omega) ⟨.bl _, H, I, rfl, by simpa [ordV] using q⟩
theorem op_leP (hu : X.A.units + 64 < cLine) : OpR X (compareOp .LtE) (rOrdP true true X.K) := by
  intro pins s σ H x y v u Q I rx ry h
  obtain ⟨d, e, hd, he, sd, se, hm, q⟩ := h
  obtain ⟨as, r1⟩ := Dp.reads I d x v hd rx
  obtain ⟨bs, r2⟩ := Dp.reads I e y u he ry
  exact PySem.W.le_data r1 r2 sd se (by omega) ⟨.bl _, H, I, rfl, by simpa [ordV] using q⟩
theorem op_geP (hu : X.A.units + 64 < cLine) : OpR X (compareOp .GtE) (rOrdP false true X.K) := by
  intro pins s σ H x y v u Q I rx ry h
  obtain ⟨d, e, hd, he, sd, se, hm, q⟩ := h
  obtain ⟨as, r1⟩ := Dp.reads I d x v hd rx
  obtain ⟨bs, r2⟩ := Dp.reads I e y u he ry
  exact PySem.W.ge_data r1 r2 sd se (by omega) ⟨.bl _, H, I, rfl, by simpa [ordV] using q⟩
def nnP : PyData → Bool
  | .none => false
  | _ => true
theorem nnP_ne {p : PyData} (h : nnP p = true) : p ≠ .none := fun e => by subst e; cases h
def oOrdD (sw ng : Bool) (a b : D) (M : Mem) : R D := match pyM M a, pyM M b with
  | some x, some y => if (PySem.W.alike x y && nnP x) = true ∧ min x.depth y.depth ≤ 60 then .ok (.bl (ordV sw ng x y)) M else .no
  | _, _ => .no
theorem op2_ordD {sw ng : Bool} : Op2 G E (rOrdP sw ng G.K) (oOrdD sw ng) := fun W H M a b u v Q m ra rb p => by
  simp only [oOrdD] at p
  split at p
  · rename_i x y e1 e2
    split at p
    · rename_i hc
      have h1 := hc.1
      rw [Bool.and_eq_true] at h1
      exact ⟨x, y, pyM_ok m ra e1, pyM_ok m rb e2, h1.1, nnP_ne h1.2, hc.2, p.here m _ rfl⟩
    · exact p.elim
  · exact p.elim
def oLtD := oOrdD false false
def oGtD := oOrdD true false
def oLeD := oOrdD true true
def oGeD := oOrdD false true
theorem sn_ltD (hu : X.A.units + 64 < cLine) (ha : PE X a (tE ⟨X.K, cl⟩ E fa)) (hb : PE X b (tE ⟨X.K, cl⟩ E fb)) : PE X (.Compare a [.Lt] [b] pos) (tE ⟨X.K, cl⟩ E (mOp oLtD fa fb)) := sn_cmp (op_ltP hu) op2_ordD (nomark _) ha hb
theorem sn_gtD (hu : X.A.units + 64 < cLine) (ha : PE X a (tE ⟨X.K, cl⟩ E fa)) (hb : PE X b (tE ⟨X.K, cl⟩ E fb)) : PE X (.Compare a [.Gt] [b] pos) (tE ⟨X.K, cl⟩ E (mOp oGtD fa fb)) := sn_cmp (op_gtP hu) op2_ordD (nomark _) ha hb
theorem sn_leD (hu : X.A.units + 64 < cLine) (ha : PE X a (tE ⟨X.K, cl⟩ E fa)) (hb : PE X b (tE ⟨X.K, cl⟩ E fb)) : PE X (.Compare a [.LtE] [b] pos) (tE ⟨X.K, cl⟩ E (mOp oLeD fa fb)) := sn_cmp (op_leP hu) op2_ordD (nomark _) ha hb
theorem sn_geD (hu : X.A.units + 64 < cLine) (ha : PE X a (tE ⟨X.K, cl⟩ E fa)) (hb : PE X b (tE ⟨X.K, cl⟩ E fb)) : PE X (.Compare a [.GtE] [b] pos) (tE ⟨X.K, cl⟩ E (mOp oGeD fa fb)) := sn_cmp (op_geP hu) op2_ordD (nomark _) ha hb
/-- two pairs of ints -/
theorem dlt_pair (a b c d : Int) : PySem.W.dataLt (.tuple [.int a, .int b]) (.tuple [.int c, .int d]) = decide (a < c ∨ (a = c ∧ b < d)) := by
  unfold PySem.W.dataLt
  simp only [PySem.W.keyToks, PySem.W.keyToksAll, List.cons_append, List.nil_append]
  have s1 : ∀ (z : Int) (r t : List (Int ⊕ List Nat)), PyProof.Rows.lexLt itemOrd (Sum.inl z :: r) (Sum.inl z :: t) = PyProof.Rows.lexLt itemOrd r t := fun z r t => lex_self (O := itemOrd) (Sum.inl z) r t
  have s2 : ∀ (y z : Int) (r t : List (Int ⊕ List Nat)), y ≠ z → PyProof.Rows.lexLt itemOrd (Sum.inl y :: r) (Sum.inl z :: t) = decide (y < z) := fun y z r t h => lex_diff (O := itemOrd) (by intro e; injection e with e; exact h e)
  rw [s1]
  by_cases h1 : a = c
  · subst h1
    rw [s1, s1]
    by_cases h2 : b = d
    · subst h2
      rw [s1, s1]
      simp [PyProof.Rows.lexLt]
    · rw [s2 _ _ _ _ h2]
      simp
  · rw [s2 _ _ _ _ h1]
    simp [h1]
def prI (a b : Int) : D := .tup [.int a, .int b]
theorem oLtD_pair (a b c d : Int) (M : Mem) : oLtD (prI a b) (prI c d) M = .ok (.bl (decide (a < c ∨ (a = c ∧ b < d)))) M := by
  have h1 : pyM M (prI a b) = some (.tuple [.int a, .int b]) := rfl
  have h2 : pyM M (prI c d) = some (.tuple [.int c, .int d]) := rfl
  simp only [oLtD, oOrdD, h1, h2]
  rw [if_pos ⟨rfl, by simp [PyData.depth, PyData.depthAll]⟩]
  simp only [ordV, Bool.false_eq_true, if_false, dlt_pair, Bool.false_bne]
theorem oGtD_pair (a b c d : Int) (M : Mem) : oGtD (prI a b) (prI c d) M = .ok (.bl (decide (c < a ∨ (c = a ∧ d < b)))) M := by
  have h1 : pyM M (prI a b) = some (.tuple [.int a, .int b]) := rfl
  have h2 : pyM M (prI c d) = some (.tuple [.int c, .int d]) := rfl
  simp only [oGtD, oOrdD, h1, h2]
  rw [if_pos ⟨rfl, by simp [PyData.depth, PyData.depthAll]⟩]
  simp only [ordV, if_true, dlt_pair, Bool.false_bne]
end Fn

set_option Elab.async false
set_option linter.all false
set_option maxRecDepth 100000
set_option maxHeartbeats 1000000
/-! FnDict: dicts with keys that are ints, texts, or tuples of these. -/
namespace Fn
open PySem PySem.Spec PyProof.Rows L2
section
variable {κ : Type} [DecidableEq κ]
def gA (kvs : List (κ × D)) (k : κ) : Option D := (kvs.find? fun kv => decide (kv.1 = k)).map (·.2)
def pA (kvs : List (κ × D)) (k : κ) (v : D) : List (κ × D) := if (kvs.any fun kv => decide (kv.1 = k)) = true then kvs.map (fun kv => if kv.1 = k then (kv.1, v) else kv) else kvs ++ [(k, v)]
def dA (kvs : List (κ × D)) (k : κ) : List (κ × D) := kvs.filter fun kv => decide (kv.1 ≠ k)
end
section
variable {κ κ' : Type} [DecidableEq κ] [DecidableEq κ'] {f : κ → κ'} {G : Gx} {W W' : Wd} {H H' : Hp}
theorem rpA_len : ∀ {kvs : List (κ × D)} {vs : List (κ' × V)}, RpK G W H f kvs vs → vs.length = kvs.length
  | _, _, .nil => rfl
  | _, _, .cons _ t => by simp only [List.length_cons, rpA_len t]
theorem rpA_get (hf : ∀ a b, f a = f b → a = b) (k : κ) : ∀ {kvs : List (κ × D)} {vs : List (κ' × V)}, RpK G W H f kvs vs → (∀ d, gA kvs k = some d → ∃ v, valV vs (f k) = some v ∧ Rp G W H d v) ∧ (gA kvs k = none → valV vs (f k) = none)
  | _, _, .nil => ⟨fun _ e => (by cases e), fun _ => rfl⟩
  | (a, d) :: r, (a', v) :: r', .cons h t => by
    obtain ⟨h1, h2⟩ := h
    have h1 : f a = a' := h1
    subst h1
    obtain ⟨i1, i2⟩ := rpA_get hf k t
    unfold gA valV at i1 i2 ⊢
    by_cases e : a = k
    · subst e
      simp only [List.find?_cons, decide_true, Option.map_some, Option.some.injEq]
      exact ⟨fun d' e => ⟨v, rfl, by subst e; exact h2⟩, fun e => by cases e⟩
    · have e' : ¬ f a = f k := fun z => e (hf _ _ z)
      simp only [List.find?_cons, e, e', decide_false]
      exact ⟨i1, i2⟩
theorem rpA_any (hf : ∀ a b, f a = f b → a = b) (k : κ) : ∀ {kvs : List (κ × D)} {vs : List (κ' × V)}, RpK G W H f kvs vs → (vs.any fun kv => decide (kv.1 = f k)) = kvs.any fun kv => decide (kv.1 = k)
  | _, _, .nil => rfl
  | (a, d) :: r, (a', v) :: r', .cons h t => by
    have h1 : f a = a' := h.1
    subst h1
    simp only [List.any_cons, rpA_any hf k t]
    congr 1
    rw [decide_eq_decide]
    exact ⟨fun z => hf _ _ z, fun z => by rw [z]⟩
theorem rpA_snoc {kvs : List (κ × D)} {vs : List (κ' × V)} {k : κ} {d : D} {v : V} (rv : Rp G W H d v) : RpK G W H f kvs vs → RpK G W H f (kvs ++ [(k, d)]) (vs ++ [(f k, v)]) := fun h => by
  unfold RpK at h ⊢
  induction h with
  | nil => exact .cons ⟨rfl, rv⟩ .nil
  | cons h t ih => exact .cons h ih
theorem rpA_put (hf : ∀ a b, f a = f b → a = b) {k : κ} {d : D} {v : V} (rv : Rp G W H d v) {kvs : List (κ × D)} {vs : List (κ' × V)} (h : RpK G W H f kvs vs) : RpK G W H f (pA kvs k d) (putK vs (f k) v) := by
  unfold pA putK
  rw [rpA_any hf k h]
  split
  · rename_i hc
    clear hc
    unfold RpK at h ⊢
    induction h with
    | nil => exact .nil
    | @cons p q ps qs h t ih =>
      refine .cons ?_ ih
      have h1 : f p.1 = q.1 := h.1
      dsimp only
      by_cases e : p.1 = k
      · rw [if_pos e, if_pos (by rw [← h1, e])]; exact ⟨h1, rv⟩
      · rw [if_neg e, if_neg (fun z => e (hf _ _ (h1.trans z)))]; exact h
  · exact rpA_snoc rv h
theorem rpA_drop (hf : ∀ a b, f a = f b → a = b) {k : κ} {kvs : List (κ × D)} {vs : List (κ' × V)} (h : RpK G W H f kvs vs) : RpK G W H f (dA kvs k) (dropK vs (f k)) := by
  unfold dA dropK
  unfold RpK at h ⊢
  induction h with
  | nil => exact .nil
  | @cons p q ps qs h t ih =>
    have h1 : f p.1 = q.1 := h.1
    by_cases e : p.1 = k
    · rw [List.filter_cons_of_neg (by simpa using e), List.filter_cons_of_neg (by simp [← h1, e])]; exact ih
    · rw [List.filter_cons_of_pos (by simpa using e), List.filter_cons_of_pos (by
        have : ¬ q.1 = f k := fun z => e (hf _ _ (h1.trans z))
        simpa using this)]
      exact .cons h ih
end
theorem kkL_inj : ∀ {a b : List KK}, a.map kk = b.map kk → a = b
  | [], [], _ => rfl
  | [], _ :: _, h => by cases h
  | _ :: _, [], h => by cases h
  | x :: a, y :: b, h => by
    simp only [List.map_cons, List.cons.injEq] at h
    rw [kk_inj h.1, kkL_inj h.2]
/-! ### keys -/
def keyK : D → Option KK
  | .int i => some (.inl i)
  | .str x => some (.inr x)
  | _ => none
def keysL : List D → Option (List KK)
  | [] => some []
  | d :: r => match keyK d, keysL r with
    | some a, some b => some (a :: b)
    | _, _ => none
def keyT : D → Option (List KK)
  | .tup (d :: r) => keysL (d :: r)
  | _ => none
section
variable {G : Gx} {W : Wd} {H : Hp} {M : Mem}
theorem keyK_ok {d : D} {k : KK} {u : V} (e : keyK d = some k) (r : Rp G W H d u) : u = kV (kk k) := by
  cases d <;> cases e <;> exact r
theorem keysL_ok : ∀ {l : List D} {ks : List KK} {us : List V}, keysL l = some ks → RpL G W H l us → us = (ks.map kk).map kV
  | [], ks, us, e, r => by cases e; exact r
  | d :: l, ks, us, e, r => by
    simp only [keysL] at e
    split at e
    · rename_i a b h1 h2
      cases e
      obtain ⟨u, us', e1, r1, r2⟩ := r
      rw [e1, keyK_ok h1 r1, keysL_ok h2 r2]
      rfl
    · cases e
theorem keyT_ok {d : D} {ks : List KK} {u : V} (e : keyT d = some ks) (r : Rp G W H d u) : ∃ b, u = .ref b ∧ H b = some (.tup ((ks.map kk).map kV)) := by
  cases d with
  | tup l =>
    cases l with
    | nil => cases e
    | cons d l =>
      obtain ⟨a, us, e1, s, r1⟩ := r
      have := keysL_ok (show keysL (d :: l) = some ks from e) r1
      subst this
      rcases s with s | ⟨h, _⟩
      · exact ⟨a, e1, s⟩
      · cases h
  | _ => cases e
/-- what the dict holds there; none outside: no dict, no key -/
def dFind (M : Mem) (d k : D) : Option (Option D) := match d with
  | .ref i => match M[i]? with
    | some (.dk _ kvs) => (keyK k).map (gA kvs)
    | some (.dt _ kvs) => (keyT k).map (gA kvs)
    | _ => none
  | _ => none
theorem dk_at {i : Nat} {a : Addr} {lk : Bool} {kvs : List (KK × D)} (h : CellOk G W H a (.dk lk kvs)) : ∃ vs, Rd H a (.dK vs) ∧ RpK G W H kk kvs vs := by
  obtain ⟨vs, h1, h2⟩ := h
  refine ⟨vs, ?_, h2⟩
  cases lk
  · exact .inl h1
  · exact .inr h1
theorem dt_at {i : Nat} {a : Addr} {lk : Bool} {kvs : List (List KK × D)} (h : CellOk G W H a (.dt lk kvs)) : ∃ vs, Rd H a (.dT vs) ∧ RpK G W H (List.map kk) kvs vs := by
  obtain ⟨vs, h1, h2⟩ := h
  refine ⟨vs, ?_, h2⟩
  cases lk
  · exact .inl h1
  · exact .inr h1
theorem dFind_ok (m : MemOk G W H M) {d k : D} {x y : V} (rd : Rp G W H d x) (rk : Rp G W H k y) {o : Option D} (e : dFind M d k = some o) :
    ∃ a ov, x = .ref a ∧ DGet H a y ov ∧ ov.isSome = o.isSome ∧ ∀ v, o = some v → ∃ w, ov = some w ∧ Rp G W H v w := by
  cases d with
  | ref i =>
    obtain ⟨a, ha, hx⟩ := rd
    simp only [dFind] at e
    split at e
    · rename_i lk kvs hc
      obtain ⟨k', hk, rfl⟩ := Option.map_eq_some_iff.mp e
      obtain ⟨vs, h1, h2⟩ := dk_at (i := i) (m.cell _ _ a hc ha)
      have hy := keyK_ok hk rk
      obtain ⟨g1, g2⟩ := rpA_get (fun _ _ => kk_inj) k' h2
      refine ⟨a, valV vs (kk k'), hx, .inl ⟨vs, kk k', h1, hy, rfl⟩, ?_, fun v hv => g1 v hv⟩
      cases hq : gA kvs k' with
      | none => rw [g2 hq]; rfl
      | some d => obtain ⟨w, hw, _⟩ := g1 d hq; rw [hw]; rfl
    · rename_i lk kvs hc
      obtain ⟨k', hk, rfl⟩ := Option.map_eq_some_iff.mp e
      obtain ⟨vs, h1, h2⟩ := dt_at (i := i) (m.cell _ _ a hc ha)
      obtain ⟨b, hy, hb⟩ := keyT_ok hk rk
      obtain ⟨g1, g2⟩ := rpA_get (fun _ _ => kkL_inj) k' h2
      refine ⟨a, valV vs (k'.map kk), hx, .inr ⟨vs, k'.map kk, b, h1, hy, hb, rfl⟩, ?_, fun v hv => g1 v hv⟩
      cases hq : gA kvs k' with
      | none => rw [g2 hq]; rfl
      | some d => obtain ⟨w, hw, _⟩ := g1 d hq; rw [hw]; rfl
    · cases e
  | _ => cases e
/-- the memory behind d[k] = v -/
def dPut (M : Mem) (d k v : D) : Option Mem := match d with
  | .ref i => match M[i]? with
    | some (.dk false kvs) => match keyK k with
      | some k' => if kvs.length < 16777216 then some (M.set i (.dk false (pA kvs k' v))) else none
      | none => none
    | some (.dt false kvs) => match keyT k with
      | some k' => if kvs.length < 16777216 then some (M.set i (.dt false (pA kvs k' v))) else none
      | none => none
    | _ => none
  | _ => none
theorem dPut_ok (m : MemOk G W H M) {d k v : D} {x y u : V} (rd : Rp G W H d x) (rk : Rp G W H k y) (rv : Rp G W H v u) {M' : Mem} (e : dPut M d k v = some M') :
    ∃ a H', x = .ref a ∧ DPut H a y u H' ∧ Fut W H W H' ∧ MemOk G W H' M' := by
  cases d with
  | ref i =>
    obtain ⟨a, ha, hx⟩ := rd
    simp only [dPut] at e
    split at e
    · rename_i kvs hc
      split at e
      · rename_i k' hk
        split at e
        · rename_i hl
          cases e
          obtain ⟨vs, h1, h2⟩ := m.cell _ _ a hc ha
          have h1 : H a = some (.dK vs) := h1
          have f := Fut.wrote (W := W) (H := H) (o := .dK (putK vs (kk k') u)) ha h1 trivial
          refine ⟨a, _, hx, .inl ⟨vs, kk k', h1, keyK_ok hk rk, by rw [rpA_len h2, line_eq]; exact hl, rfl⟩, f, m.wrote ha ⟨_, upd_same, rpA_put (fun _ _ => kk_inj) (m.rp f rv) (h2.fut m f)⟩⟩
        · cases e
      · cases e
    · rename_i kvs hc
      split at e
      · rename_i k' hk
        split at e
        · rename_i hl
          cases e
          obtain ⟨vs, h1, h2⟩ := m.cell _ _ a hc ha
          have h1 : H a = some (.dT vs) := h1
          obtain ⟨b, hy, hb⟩ := keyT_ok hk rk
          have f := Fut.wrote (W := W) (H := H) (o := .dT (putK vs (k'.map kk) u)) ha h1 trivial
          refine ⟨a, _, hx, .inr ⟨vs, k'.map kk, b, h1, hy, hb, by rw [rpA_len h2, line_eq]; exact hl, rfl⟩, f, m.wrote ha ⟨_, upd_same, rpA_put (fun _ _ => kkL_inj) (m.rp f rv) (h2.fut m f)⟩⟩
        · cases e
      · cases e
    · cases e
  | _ => cases e
end
end Fn

set_option Elab.async false
set_option linter.all false
set_option maxRecDepth 100000
set_option maxHeartbeats 1000000
/-! FnDct: dicts in expressions and statements: one operation for lists, tuples, texts and dicts. -/
namespace Fn
open PySem PySem.Spec PyProof.Rows L2
section
variable {X : Cx} {G : Gx} {cl : Nat → Addr} {E : XK} {W : Wd} {H : Hp} {M : Mem} {a b c : Expr} {fa fb fc : FE} {pos : Pos}
/-! ### x[i] -/
def rGetD : R2 := fun x y H Q => ∃ a v, x = .ref a ∧ DGet H a y (some v) ∧ Q v H
theorem ix_dict (hu : X.A.units + 64 < cLine) : IxR X rGetD := by
  intro value slice pins s σ H x y v u Q I rx ry h hs
  obtain ⟨a, w, ex, g, q⟩ := h
  subst ex
  obtain rfl : v = Value.ref a := rx
  exact tail_any (dict_typeIs I g) PySem.F.slot_dict_getitem.lookup (d_getItem (by omega) I g ry fun w' s3 I3 rw' => ⟨w, H, I3, rw', q⟩) hs
def oIxA (a b : D) (M : Mem) : R D := match dFind M a b with
  | some (some v) => .ok v M
  | some none => .no
  | none => oIx a b M
theorem op2_ixA : Op2 G E (fun x y H Q => rIx G.K x y H Q ∨ rGetD x y H Q) oIxA := fun W H M a b u v Q m ra rb p => by
  unfold oIxA at p
  split at p
  · rename_i w e
    obtain ⟨a1, ov, ex, g, _, k⟩ := dFind_ok m ra rb e
    obtain ⟨z, hz, rz⟩ := k w rfl
    subst hz
    exact .inr ⟨a1, z, ex, g, p.here m _ rz⟩
  · exact p.elim
  · exact .inl (op2_ix W H M a b u v Q m ra rb p)
theorem sn_ixA (hu : X.A.units + 64 < cLine) (ha : PE X a (tE ⟨X.K, cl⟩ E fa)) (hb : PE X b (tE ⟨X.K, cl⟩ E fb)) (hs : PlainIx b := by intro _ _; rfl) : PE X (.Subscript a b pos) (tE ⟨X.K, cl⟩ E (mOp oIxA fa fb)) :=
  pe_imp (pe_ix (ix_seq.or (ix_dict hu)) ha hb hs) (tE_op op2_ixA)
/-! ### k in x -/
def rInK (neg : Bool) : R2 := fun y x H Q => ∃ a o, x = .ref a ∧ DGet H a y o ∧ Q (.bl (neg != o.isSome)) H
theorem op_inK (hu : X.A.units + 64 < cLine) : OpR X (compareOp .In) (rInK false) := by
  intro pins s σ H y x u v Q I ry rx h
  obtain ⟨a, o, ex, g, q⟩ := h
  subst ex
  obtain rfl : v = Value.ref a := rx
  exact d_in (by omega) I g ry fun s' I' => ⟨.bl o.isSome, H, I', rfl, by simpa using q⟩
theorem op_notInK (hu : X.A.units + 64 < cLine) : OpR X (compareOp .NotIn) (rInK true) := by
  intro pins s σ H y x u v Q I ry rx h
  obtain ⟨a, o, ex, g, q⟩ := h
  subst ex
  obtain rfl : v = Value.ref a := rx
  exact d_notIn (by omega) I g ry fun s' I' => ⟨.bl (!o.isSome), H, I', rfl, by simpa using q⟩
def oInA (neg : Bool) (k d : D) (M : Mem) : R D := match dFind M d k with
  | some o => .ok (.bl (neg != o.isSome)) M
  | none => match d with
    | .str _ => oInS neg k d M
    | _ => oInD neg k d M
theorem op2_inA0 {neg : Bool} {r : R2} (hs : Op2 G E r (oInS neg)) : Op2 G E (fun x y H Q => (r x y H Q ∨ rInP G.K neg x y H Q) ∨ rInK neg x y H Q) (oInA neg) := fun W H M a b u v Q m ra rb p => by
  unfold oInA at p
  split at p
  · rename_i o e
    obtain ⟨a1, ov, ex, g, hi, _⟩ := dFind_ok m rb ra e
    exact .inr ⟨a1, ov, ex, g, by rw [hi]; exact p.here m _ rfl⟩
  · split at p
    · exact .inl (.inl (hs W H M _ _ u v Q m ra rb p))
    · exact .inl (.inr (op2_inD W H M a b u v Q m ra rb p))
theorem op_inA (hu : X.A.units + 64 < cLine) : OpR X (compareOp .In) (fun x y H Q => ((∃ (c : Nat) (z : Str), x = .str ⟨#[c]⟩ ∧ y = .str z ∧ Q (.bl (decide (c ∈ z.cps.toList))) H) ∨ rInP X.K false x y H Q) ∨ rInK false x y H Q) := (op_in_sign.or (op_inP hu)).or (op_inK hu)
theorem op_notInA (hu : X.A.units + 64 < cLine) : OpR X (compareOp .NotIn) (fun x y H Q => ((∃ (c : Nat) (z : Str), x = .str ⟨#[c]⟩ ∧ y = .str z ∧ Q (.bl (!decide (c ∈ z.cps.toList))) H) ∨ rInP X.K true x y H Q) ∨ rInK true x y H Q) := (op_notIn_sign.or (op_notInP hu)).or (op_notInK hu)
theorem op2_inA : Op2 G E (fun x y H Q => ((∃ (c : Nat) (z : Str), x = .str ⟨#[c]⟩ ∧ y = .str z ∧ Q (.bl (decide (c ∈ z.cps.toList))) H) ∨ rInP G.K false x y H Q) ∨ rInK false x y H Q) (oInA false) := op2_inA0 op2_inS
theorem op2_notInA : Op2 G E (fun x y H Q => ((∃ (c : Nat) (z : Str), x = .str ⟨#[c]⟩ ∧ y = .str z ∧ Q (.bl (!decide (c ∈ z.cps.toList))) H) ∨ rInP G.K true x y H Q) ∨ rInK true x y H Q) (oInA true) := op2_inA0 op2_notInS
theorem sn_inA (hu : X.A.units + 64 < cLine) (ha : PE X a (tE ⟨X.K, cl⟩ E fa)) (hb : PE X b (tE ⟨X.K, cl⟩ E fb)) (hm : behindInMarks .In b = false := by rfl) : PE X (.Compare a [.In] [b] pos) (tE ⟨X.K, cl⟩ E (mOp (oInA false) fa fb)) := sn_cmp (op_inA hu) op2_inA hm ha hb
theorem sn_notInA (hu : X.A.units + 64 < cLine) (ha : PE X a (tE ⟨X.K, cl⟩ E fa)) (hb : PE X b (tE ⟨X.K, cl⟩ E fb)) (hm : behindInMarks .NotIn b = false := by rfl) : PE X (.Compare a [.NotIn] [b] pos) (tE ⟨X.K, cl⟩ E (mOp (oInA true) fa fb)) := sn_cmp (op_notInA hu) op2_notInA hm ha hb
/-! ### x[i] = v -/
def rSetD : V → V → V → Hp → (Hp → Prop) → Prop := fun o i v H Q => ∃ a H', o = .ref a ∧ DPut H a i v H' ∧ Q H'
theorem set_dict (hu : X.A.units + 64 < cLine) : PSet X rSetD := fun pins s σ H o i v ov iv u Q I ro ri rv h => by
  obtain ⟨a, H', eo, g, q⟩ := h
  subst eo
  obtain rfl : ov = Value.ref a := ro
  exact d_setItem (by omega) I g ri rv fun s' I' => ⟨H', I', q⟩
theorem set_any (hu : X.A.units + 64 < cLine) : PSet X (fun o i v H Q => rSetL o i v H Q ∨ rSetD o i v H Q) := fun pins s σ H o i v ov iv u Q I ro ri rv h => by
  rcases h with h | h
  · exact set_list pins s σ H o i v ov iv u Q I ro ri rv h
  · exact set_dict hu pins s σ H o i v ov iv u Q I ro ri rv h
/-- the memory behind x[i] = v of a list -/
def lPut (M : Mem) (o i d : D) : Option Mem := match o, i with
  | .ref j, .int k => match M[j]? with
    | some (.lst l) => match ixN l.length k with
      | some n => some (M.set j (.lst (l.set n d)))
      | none => none
    | _ => none
  | _, _ => none
def sPut (M : Mem) (o i d : D) : Option Mem := match dPut M o i d with
  | some m => some m
  | none => lPut M o i d
theorem sPut_ok (m : MemOk G W H M) {d k v : D} {x y u : V} (rd : Rp G W H d x) (rk : Rp G W H k y) (rv : Rp G W H v u) {M' : Mem} (e : sPut M d k v = some M') :
    ∃ H', Fut W H W H' ∧ MemOk G W H' M' ∧ ∀ Q : Hp → Prop, Q H' → rSetL x y u H Q ∨ rSetD x y u H Q := by
  unfold sPut at e
  split at e
  · rename_i m' e'
    cases e
    obtain ⟨a, H', e1, e2, f, k⟩ := dPut_ok m rd rk rv e'
    exact ⟨H', f, k, fun Q q => .inr ⟨a, H', e1, e2, q⟩⟩
  · unfold lPut at e
    split at e
    · rename_i j n
      split at e
      · rename_i l hc
        split at e
        · rename_i p hn
          cases e
          obtain ⟨a1, e1, e2⟩ := rd
          subst e2; cases rk
          obtain ⟨us, h1, h2⟩ := m.cell _ _ a1 hc e1
          have f := Fut.wrote (W := W) (H := H) (o := .lst (us.set p u)) e1 h1 trivial
          exact ⟨_, f, m.wrote e1 ⟨_, upd_same, m.rpL f (h2.set p rv)⟩, fun Q q => .inl ⟨a1, us, _, p, rfl, rfl, h1, by rw [h2.len]; exact hn, q⟩⟩
        · cases e
      · cases e
    · cases e
def gIxA (fo fi : FE) : FG := fun d env M => (fo env M).bind fun o m => (fi env m).bind fun i m' => match sPut m' o i d with
  | some m2 => .ok env m2
  | none => .no
theorem sg_ixA {sl : List Nat} (hu : X.A.units + 64 < cLine) (ha : PE X a (tE G E fa)) (hb : PE X b (tE G E fb)) (hs : ∀ v, assign (.Subscript a b pos) X.env v = (do
      let ov ← holding [v] (eval a X.env)
      let iv ← holding [v, ov] (eval b X.env)
      standAt pos
      holding [v, ov, iv] (setItem ov iv v)
      release [v, ov, iv] []) := by intro _; rfl) : PG X (.Subscript a b pos) (tGt G E sl (gIxA fa fb)) := pg_imp (pg_sub ha hb (set_any hu) hs) fun v σ H Q ⟨W, env, M, d, s, r, p⟩ => by
  refine tE.bind s p fun o m W1 H1 u1 f1 s1 r1 p1 => ?_
  refine tE.bind s1 p1 fun i m2 W2 H2 u2 f2 s2 r2 p2 => ?_
  split at p2
  · rename_i m3 e
    obtain ⟨H', f, k, q⟩ := sPut_ok s2.mem (s1.mem.rp f2 r1) r2 (s1.mem.rp f2 (s.mem.rp f1 r)) e
    exact q _ (p2 W2 H' f k _ (s2.env.fut s2.mem f) rfl)
  · exact p2.elim
/-! ### x[i] op= e -/
def rGetL (K : PySem.W.Frag) : R2 := fun x y H Q => ∃ p xs i v, x = .ref p ∧ y = .int i ∧ SqL K H p xs ∧ L2.atI xs i = some v ∧ Q v H
theorem get_any (hu : X.A.units + 64 < cLine) : PGet X (fun x y H Q => rGetL X.K x y H Q ∨ rGetD x y H Q) := fun pins s σ H x y v u Q I rx ry h => by
  rcases h with h | h
  · obtain ⟨p, xs, i, z, rfl, rfl, hq, he, q⟩ := h
    cases rx
    obtain ⟨t, rfl⟩ := ry
    obtain ⟨its, r, pl, hz⟩ := I.list hq
    obtain ⟨j, h1, h2, h3, h4, h5⟩ := atI_get he
    obtain ⟨w, ew, rw'⟩ := r.get h2
    have hl := r.length
    have hn := line63
    by_cases h0 : 0 ≤ i
    · have hj : i.toNat = j := by
        rw [seqIndex_of h0 h5] at h1
        exact Option.some.inj h1
      exact wpAny_getItem_list pl.isList h0 (by omega) (by rw [hj]; simpa using ew) ⟨z, H, I, rw', q⟩
    · have hj : (i + (its.toArray.size : Int)).toNat = j := by
        rw [seqIndex_neg (by omega) h4] at h1
        rw [List.size_toArray, ← hl]
        exact Option.some.inj h1
      exact wpAny_getItem_list_neg pl.isList (by omega) (by rw [List.size_toArray] <;> omega) (by omega) (by rw [hj]; simpa using ew) ⟨z, H, I, rw', q⟩
  · obtain ⟨a, w, ex, g, q⟩ := h
    subst ex
    obtain rfl : v = Value.ref a := rx
    exact d_getItem (by omega) I g ry fun w' s3 I3 rw' => ⟨w, H, I3, rw', q⟩
def lGet (M : Mem) (o i : D) : Option D := match dFind M o i with
  | some (some v) => some v
  | some none => none
  | none => match o, i with
    | .ref j, .int k => match M[j]? with
      | some (.lst l) => L2.atI l k
      | _ => none
    | _, _ => none
theorem lGet_ok (m : MemOk G W H M) {d k : D} {x y : V} (rd : Rp G W H d x) (rk : Rp G W H k y) {v : D} (e : lGet M d k = some v) : ∃ w, Rp G W H v w ∧ ∀ Q : VK, Q w H → rGetL G.K x y H Q ∨ rGetD x y H Q := by
  unfold lGet at e
  split at e
  · rename_i w e'
    cases e
    obtain ⟨a1, ov, ex, g, _, k⟩ := dFind_ok m rd rk e'
    obtain ⟨z, hz, rz⟩ := k v rfl
    subst hz
    exact ⟨z, rz, fun Q q => .inr ⟨a1, z, ex, g, q⟩⟩
  · cases e
  · split at e
    · rename_i j n
      split at e
      · rename_i l hc
        obtain ⟨a1, e1, e2⟩ := rd
        subst e2; cases rk
        obtain ⟨us, h1, h2⟩ := m.cell _ _ a1 hc e1
        obtain ⟨w, h4, h5⟩ := h2.atI e
        exact ⟨w, h5, fun Q q => .inl ⟨a1, us, _, w, rfl, rfl, .inl (.inl h1), h4, q⟩⟩
      · cases e
    · cases e
def mAugIx (o : D → D → Mem → R D) (fo fi fe : FE) : FS := fun env M => (fo env M).bind fun a m => (fi env m).bind fun i m1 => match lGet m1 a i with
  | some x => (fe env m1).bind fun y m2 => (o x y m2).bind fun z m3 => match sPut m3 a i z with
    | some m4 => .ok (.nx env) m4
    | none => .no
  | none => .no
theorem ss_augIx {op : Operator} {ti : TIp} {o : D → D → Mem → R D} {tpos : Pos} (hi2 : Ip2 ⟨X.K, cl⟩ E ti o) (hop : PIp X op ti) (hu : X.A.units + 64 < cLine) (ha : PE X a (tE ⟨X.K, cl⟩ E fa)) (hb : PE X b (tE ⟨X.K, cl⟩ E fb)) (he : PE X c (tE ⟨X.K, cl⟩ E fc))
    (hst : ∀ ov iv new, augStore b ov iv new = (do holding [new, ov, iv] (setItem ov iv new); release [new, ov, iv] []; pure .next) := by intros; rfl) : PS X (.AugAssign (.Subscript a b tpos) op c pos) (tS ⟨X.K, cl⟩ E (mAugIx o fa fb fc)) :=
  ps_imp (ps_augS ha hb (get_any hu) he hop (set_any hu) hst) fun D σ H ⟨W, env, M, s, p⟩ => by
  refine tE.bind s p fun d m W1 H1 u1 f1 s1 r1 p1 => ?_
  refine tE.bind s1 p1 fun i m2 W2 H2 u2 f2 s2 r2 p2 => ?_
  split at p2
  · rename_i x e
    have r1' := s1.mem.rp f2 r1
    obtain ⟨w, rw_, k⟩ := lGet_ok s2.mem r1' r2 e
    refine k _ ?_
    refine tE.bind s2 p2 fun y m3 W3 H3 u3 f3 s3 r3 p3 => ?_
    refine hi2 W3 H3 m3 x y w u3 _ s3.mem (s2.mem.rp f3 rw_) r3 (PR.bind p3 fun z m4 W4 H4 f4 k4 p4 => fun v rv => ?_)
    split at p4
    · rename_i m5 e5
      obtain ⟨H', f, k5, q⟩ := sPut_ok k4 (s3.mem.rp f4 (s2.mem.rp f3 r1')) (s3.mem.rp f4 (s2.mem.rp f3 r2)) rv e5
      exact q _ (p4 W4 H' f k5 _ (( s3.env.fut s3.mem f4).fut k4 f))
    · exact p4.elim
  · exact p2.elim
end
end Fn

set_option Elab.async false
set_option linter.all false
set_option maxRecDepth 100000
set_option maxHeartbeats 1000000
/-! FnDmt: {}, len, get, pop of dicts. -/
namespace Fn
open PySem PySem.Spec PyProof.Rows L2 L2.DX
section
variable {X : Cx} {G : Gx} {cl : Nat → Addr} {E : XK} {W : Wd} {H : Hp} {M : Mem} {a b c : Expr} {fa fb fc : FE} {pos : Pos}
/-! ### {} -/
def mDNewK : FE := fun _ M => .ok (.ref M.length) (M ++ [.dk false []])
def mDNewT : FE := fun _ M => .ok (.ref M.length) (M ++ [.dt false []])
theorem sn_dnewK : PE X (.Dict [] [] pos) (tE G E mDNewK) := pe_imp pe_dnewK fun σ H Q ⟨W, env, M, s, p⟩ q hq =>
  p ⟨W.as ++ [q], W.hd⟩ _ (Fut.added s.mem hq) (s.mem.added hq ⟨[], upd_same, .nil⟩) _ ⟨q, by rw [← s.mem.len]; simp, rfl⟩
theorem sn_dnewT : PE X (.Dict [] [] pos) (tE G E mDNewT) := pe_imp pe_dnewT fun σ H Q ⟨W, env, M, s, p⟩ q hq =>
  p ⟨W.as ++ [q], W.hd⟩ _ (Fut.added s.mem hq) (s.mem.added hq ⟨[], upd_same, .nil⟩) _ ⟨q, by rw [← s.mem.len]; simp, rfl⟩
/-! ### len(d) -/
def dLen (M : Mem) : D → Option Nat
  | .ref i => match M[i]? with
    | some (.dk false kvs) => some kvs.length
    | some (.dt false kvs) => some kvs.length
    | _ => none
  | _ => none
def rLenD : List V → Hp → VK → Prop := fun xs H Q => (∃ a kvs, xs = [V.ref a] ∧ H a = some (.dK kvs) ∧ Q (.int kvs.length) H) ∨ rLenT xs H Q
theorem call_lenDD : CallR X (.builtin "len") rLenD := call_lenD.or call_len_dT
theorem dLen_ok (m : MemOk G W H M) {d : D} {x : V} (rd : Rp G W H d x) {n : Nat} (e : dLen M d = some n) (Q : VK) (q : Q (.int n) H) : rLenD [x] H Q := by
  cases d with
  | ref i =>
    obtain ⟨a, ha, hx⟩ := rd
    subst hx
    simp only [dLen] at e
    split at e
    · rename_i kvs hc
      cases e
      obtain ⟨vs, h1, h2⟩ := m.cell _ _ a hc ha
      exact .inl ⟨a, vs, rfl, h1, by rw [rpA_len h2]; exact q⟩
    · rename_i kvs hc
      cases e
      obtain ⟨vs, h1, h2⟩ := m.cell _ _ a hc ha
      exact .inr ⟨a, vs, rfl, h1, by rw [rpA_len h2]; exact q⟩
    · cases e
  | _ => cases e
def oLenA (ds : List D) (M : Mem) : R D := match ds with
  | [d] => match dLen M d with
    | some n => .ok (.int n) M
    | none => oLen [d] M
  | _ => .no
theorem fn_lenA : Fn1 G E (fun xs H Q => ((∃ p ys, xs = [.ref p] ∧ (SqL G.K H p ys ∨ SqT G.K H p ys) ∧ Q (.int ys.length) H) ∨ ∃ z : Str, xs = [.str z] ∧ z.length ≤ sizeLine ∧ Q (.int z.length) H) ∨ rLenD xs H Q) oLenA := fun W H M ds us Q m r p => by
  match ds, r, p with
  | [d], r, p =>
    simp only [oLenA] at p
    split at p
    · rename_i n e
      obtain ⟨u, us', e1, r1, r2⟩ := r
      have : us' = [] := r2
      subst this e1
      exact .inr (dLen_ok m r1 e Q (p.here m _ rfl))
    · exact .inl (fn_len W H M [d] us Q m r p)
  | [], r, p => exact p.elim
  | _ :: _ :: _, r, p => exact p.elim
theorem call_lenAA : CallR X (.builtin "len") (fun xs H Q => ((∃ p ys, xs = [.ref p] ∧ (SqL X.K H p ys ∨ SqT X.K H p ys) ∧ Q (.int ys.length) H) ∨ ∃ z : Str, xs = [.str z] ∧ z.length ≤ sizeLine ∧ Q (.int z.length) H) ∨ rLenD xs H Q) := call_lenA.or call_lenDD
/-! ### d.get(k), d.get(k, x) -/
def rGetM : V → List V → Hp → VK → Prop := fun x vs H Q => (∃ a y o, x = .ref a ∧ vs = [y] ∧ DGet H a y o ∧ Q (o.getD .non) H) ∨ ∃ a y d o, x = .ref a ∧ vs = [y, d] ∧ DGet H a y o ∧ Q (o.getD d) H
theorem mt_dget (hu : X.A.units + 64 < cLine) : MtR X "dict.get" rGetM := by
  intro pins s σ H x xs v us Q I rx rxs h
  rcases h with ⟨a, y, o, rfl, rfl, g, q⟩ | ⟨a, y, d, o, rfl, rfl, g, q⟩
  · obtain ⟨u, rfl, ru⟩ := vals1 rxs
    obtain rfl : v = Value.ref a := rx
    exact d_get1 (by omega) I g ru fun w' s' I' rw' => ⟨_, H, I', rw', q⟩
  · obtain ⟨u1, u2, rfl, r1, r2⟩ := vals2 rxs
    obtain rfl : v = Value.ref a := rx
    exact d_get2 (by omega) I g r1 r2 fun w' s' I' rw' => ⟨_, H, I', rw', q⟩
def oGetM (d : D) (ks : List D) (M : Mem) : R D := match ks with
  | [k] => match dFind M d k with
    | some (some v) => .ok v M
    | some none => .ok .non M
    | none => .no
  | [k, z] => match dFind M d k with
    | some (some v) => .ok v M
    | some none => .ok z M
    | none => .no
  | _ => .no
theorem mt1_dget : Mt1 G E rGetM oGetM := fun W H M a u ds us Q m ra r p => by
  unfold oGetM at p
  split at p
  · rename_i k
    obtain ⟨v, us', e1, r1, r2⟩ := r
    have : us' = [] := r2
    subst this e1
    split at p
    · rename_i w e
      obtain ⟨a1, ov, ex, g, _, kk⟩ := dFind_ok m ra r1 e
      obtain ⟨z, hz, rz⟩ := kk w rfl
      subst hz
      exact .inl ⟨a1, v, _, ex, rfl, g, p.here m _ rz⟩
    · rename_i e
      obtain ⟨a1, ov, ex, g, hi, _⟩ := dFind_ok m ra r1 e
      cases ov with
      | none => exact .inl ⟨a1, v, _, ex, rfl, g, p.here m _ rfl⟩
      | some z => cases hi
    · exact p.elim
  · rename_i k z
    obtain ⟨v, us', e1, r1, v2, us2, e2, r2, r3⟩ := r
    have : us2 = [] := r3
    subst this e2 e1
    split at p
    · rename_i w e
      obtain ⟨a1, ov, ex, g, _, kk⟩ := dFind_ok m ra r1 e
      obtain ⟨z, hz, rz⟩ := kk w rfl
      subst hz
      exact .inr ⟨a1, v, v2, _, ex, rfl, g, p.here m _ rz⟩
    · rename_i e
      obtain ⟨a1, ov, ex, g, hi, _⟩ := dFind_ok m ra r1 e
      cases ov with
      | none => exact .inr ⟨a1, v, v2, _, ex, rfl, g, p.here m _ r2⟩
      | some z => cases hi
    · exact p.elim
  · exact p.elim
/-! ### d.pop(k), d.pop(k, x) -/
def rPopK : V → List V → Hp → VK → Prop := fun x vs H Q => ∃ a kvs k more, x = .ref a ∧ vs = kV k :: more ∧ H a = some (.dK kvs) ∧ ((∃ v, (more = [] ∨ ∃ z, more = [z]) ∧ valV kvs k = some v ∧ Q v (upd H a (.dK (dropK kvs k)))) ∨ ∃ z, more = [z] ∧ valV kvs k = none ∧ Q z H)
theorem mt_popK : MtR X "dict.pop" rPopK := by
  intro pins s σ H x xs v us Q I rx rxs h
  obtain ⟨a, kvs, k, more, rfl, rfl, ha, h⟩ := h
  obtain rfl : v = Value.ref a := rx
  cases rxs with
  | cons ru rm =>
    rcases h with ⟨w, hm, hv, q⟩ | ⟨z, rfl, hv, q⟩
    · refine d_pop I ha ru hv ?_ fun w' s' I' rw' => ⟨w, _, I', rw', q⟩
      rcases hm with rfl | ⟨z, rfl⟩
      · cases rm; exact .inl rfl
      · obtain ⟨u2, rfl, _⟩ := vals1 rm; exact .inr ⟨u2, rfl⟩
    · obtain ⟨u2, rfl, r2⟩ := vals1 rm
      exact d_popD I ha ru hv fun s' I' => ⟨z, H, I', r2, q⟩
theorem mt_popD (hu : X.A.units + 64 < cLine) : MtR X "dict.pop" (fun x xs H Q => rPopK x xs H Q ∨ rPopT x xs H Q) := mt_popK.or (mt_popT (by omega))
def oPopD (d : D) (ks : List D) (M : Mem) : R D := match d, ks with
  | .ref i, k :: more => match M[i]? with
    | some (.dk false kvs) => match keyK k with
      | some k' => match gA kvs k', more with
        | some v, [] => .ok v (M.set i (.dk false (dA kvs k')))
        | some v, [_] => .ok v (M.set i (.dk false (dA kvs k')))
        | none, [z] => .ok z M
        | _, _ => .no
      | none => .no
    | some (.dt false kvs) => match keyT k, more with
      | some k', [z] => match gA kvs k' with
        | some v => .ok v (M.set i (.dt false (dA kvs k')))
        | none => .ok z M
      | _, _ => .no
    | _ => .no
  | _, _ => .no
theorem mt1_popD : Mt1 G E (fun x xs H Q => rPopK x xs H Q ∨ rPopT x xs H Q) oPopD := fun W H M a u ds us Q m ra r p => by
  unfold oPopD at p
  split at p
  · rename_i i k more
    obtain ⟨a1, ha, hx⟩ := ra
    subst hx
    obtain ⟨v, us', e1, r1, r2⟩ := r
    subst e1
    split at p
    · rename_i kvs hc
      obtain ⟨vs, h1, h2⟩ := m.cell _ _ a1 hc ha
      have h1 : H a1 = some (.dK vs) := h1
      split at p
      · rename_i k' hk
        obtain ⟨g1, g2⟩ := rpA_get (fun _ _ => kk_inj) k' h2
        have hv := keyK_ok hk r1
        subst hv
        have f := Fut.wrote (W := W) (H := H) (o := .dK (dropK vs (kk k'))) ha h1 trivial
        have mk := m.wrote ha (o := .dK (dropK vs (kk k'))) (c := .dk false (dA kvs k')) ⟨_, upd_same, rpA_drop (fun _ _ => kk_inj) (h2.fut m f)⟩
        split at p
        · rename_i w hw
          obtain ⟨z, hz, rz⟩ := g1 w hw
          have : us' = [] := r2
          subst this
          exact .inl ⟨a1, vs, kk k', [], rfl, rfl, h1, .inl ⟨z, .inl rfl, hz, p W _ f mk _ (m.rp f rz)⟩⟩
        · rename_i w y hw
          obtain ⟨z, hz, rz⟩ := g1 w hw
          obtain ⟨v2, us2, e2, r3, r4⟩ := r2
          have : us2 = [] := r4
          subst this e2
          exact .inl ⟨a1, vs, kk k', [v2], rfl, rfl, h1, .inl ⟨z, .inr ⟨v2, rfl⟩, hz, p W _ f mk _ (m.rp f rz)⟩⟩
        · rename_i y hw
          obtain ⟨v2, us2, e2, r3, r4⟩ := r2
          have : us2 = [] := r4
          subst this e2
          exact .inl ⟨a1, vs, kk k', [v2], rfl, rfl, h1, .inr ⟨v2, rfl, g2 hw, p.here m _ r3⟩⟩
        · exact p.elim
      · exact p.elim
    · rename_i kvs hc
      obtain ⟨vs, h1, h2⟩ := m.cell _ _ a1 hc ha
      have h1 : H a1 = some (.dT vs) := h1
      split at p
      · rename_i k' y hk
        obtain ⟨g1, g2⟩ := rpA_get (fun _ _ => kkL_inj) k' h2
        obtain ⟨b, hv, hb⟩ := keyT_ok hk r1
        subst hv
        obtain ⟨v2, us2, e2, r3, r4⟩ := r2
        have : us2 = [] := r4
        subst this e2
        have f := Fut.wrote (W := W) (H := H) (o := .dT (dropK vs (k'.map kk))) ha h1 trivial
        have mk := m.wrote ha (o := .dT (dropK vs (k'.map kk))) (c := .dt false (dA kvs k')) ⟨_, upd_same, rpA_drop (fun _ _ => kkL_inj) (h2.fut m f)⟩
        refine .inr ⟨a1, vs, k'.map kk, b, v2, rfl, rfl, h1, hb, fun w hw => ?_, fun hw => ?_⟩
        · split at p
          · rename_i w' hw'
            obtain ⟨z, hz, rz⟩ := g1 w' hw'
            rw [hz] at hw; cases hw
            exact p W _ f mk _ (m.rp f rz)
          · rename_i hn
            rw [g2 hn] at hw; cases hw
        · split at p
          · rename_i w' hw'
            obtain ⟨z, hz, rz⟩ := g1 w' hw'
            rw [hz] at hw; cases hw
          · exact p.here m _ r3
      · exact p.elim
    · exact p.elim
  · exact p.elim
end
end Fn

set_option Elab.async false
set_option linter.all false
set_option maxRecDepth 100000
set_option maxHeartbeats 1000000
/-! FnWalk: dicts are walked: locked meanwhile. -/
namespace Fn
open PySem PySem.Spec PyProof.Rows L2
section
variable {X : Cx} {G : Gx} {cl : Nat → Addr} {E : XK} {W : Wd} {H : Hp} {M : Mem} {a b c : Expr} {fa fb fc : FE} {pos : Pos}
/-! ### locks -/
def unlk {α : Type} (i : Nat) (r : R α) : R α := match r with
  | .ok x m => match m[i]? with
    | some (.dk true kvs) => .ok x (m.set i (.dk false kvs))
    | some (.dt true kvs) => .ok x (m.set i (.dt false kvs))
    | _ => .no
  | _ => .no
def lockIn {α : Type} (fd : FE) (f : Env → Mem → R α) : Env → Mem → R α := fun env M => match fd env M with
  | .ok (.ref i) _ => match M[i]? with
    | some (.dk false kvs) => unlk i (f env (M.set i (.dk true kvs)))
    | some (.dt false kvs) => unlk i (f env (M.set i (.dt true kvs)))
    | _ => f env M
  | _ => f env M
def mLockS (fd : FE) (s : FS) : FS := lockIn fd s
def mLockE (fd : FE) (f : FE) : FE := lockIn fd f
/-- what a lock does, seen from inside -/
structure Lkd (G : Gx) (W : Wd) (H : Hp) (d : Addr) (u : HO) (od : Obj) : Prop where
  at_ : H d = some (.frz od u)
theorem rpK_kp {W' : Wd} {H' : Hp} (k : Kp W H W' H') {κ κ' : Type} {f : κ → κ'} {kvs : List (κ × D)} {vs : List (κ' × V)} (r : RpK G W H f kvs vs) : RpK G W' H' f kvs vs := Paired.mapP r fun _ _ z => ⟨z.1, Rp.kp k _ _ z.2⟩
theorem unlk_run {α : Type} {K K' : α → Mem → Wd → Hp → Prop} {i : Nat} {a1 : Addr} {u : HO} {od : Obj} {c1 : Cell} {r : R α} (m : MemOk G W H M) (ha : W.as[i]? = some a1) (h1 : H a1 = some u) (hn : Nf u)
    (hK : ∀ x m' W' H', Kp W' H' W' (upd H' a1 u) → H' a1 = some (.frz od u) → K x m' W' (upd H' a1 u) → ∀ m0, K' x m0 W' H')
    (hc : (∃ vs, u = .dK vs) ∨ ∃ vs, u = .dT vs) (p : PR G W H K E (unlk i r)) : PR G W (upd H a1 (.frz od u)) K' E r := by
  cases r with
  | ex c fs m' => exact p.elim
  | no => exact p.elim
  | ok x m' =>
    intro W' H' f2 k
    have hl : H' a1 = some (.frz od u) := f2.lk a1 od u upd_same
    have ha' : W'.as[i]? = some a1 := f2.get ha
    have f1 : Fut W H W (upd H a1 (.frz od u)) := Fut.wrote ha h1 hn
    have ff := f1.trans f2
    have hk : Kp W' H' W' (upd H' a1 u) := Kp.wrote k ha'
    have fut : Fut W H W' (upd H' a1 u) := ⟨ff.ext, ff.hd, fun b o e hb => by rw [upd_ne (fun z => hb (by rw [z]; exact List.mem_of_getElem? ha))]; exact ff.keep b o e hb, fun b o w e => by
      rw [upd_ne (fun z => by rw [z, h1] at e; cases e; exact hn)]; exact ff.lk b o w e⟩
    simp only [unlk] at p
    split at p
    · rename_i kvs' hc'
      obtain ⟨vs', ⟨o', q1⟩, q2⟩ := k.cell _ _ a1 hc' ha'
      rw [hl] at q1
      cases q1
      exact hK x _ W' H' hk hl (p W' _ fut (k.wrote ha' ⟨vs', upd_same, rpK_kp hk q2⟩)) m'
    · rename_i kvs' hc'
      obtain ⟨vs', ⟨o', q1⟩, q2⟩ := k.cell _ _ a1 hc' ha'
      rw [hl] at q1
      cases q1
      exact hK x _ W' H' hk hl (p W' _ fut (k.wrote ha' ⟨vs', upd_same, rpK_kp hk q2⟩)) m'
    · exact p.elim
theorem ss_lock {st : Stmt} {s : FS} (fd : FE) (h : PS X st (tS G E s)) : PS X st (tS G E (mLockS fd s)) := by
  have h2 : PS X st (fun D σ H => tS G E s D σ H ∨ tLock (tS G E s) D σ H) := ⟨fun pins s' σ H D I q => q.elim (h.run pins s' σ H D I) ((ps_lock h).run pins s' σ H D I)⟩
  refine ps_imp h2 fun D σ H ⟨W, env, M, s1, p⟩ => ?_
  unfold mLockS lockIn at p
  have hi : ∀ {i : Nat} {c : Cell}, M[i]? = some c → ∃ a1, W.as[i]? = some a1 := fun {i c} hc => by
    have : i < W.as.length := by rw [s1.mem.len]; exact (List.getElem?_eq_some_iff.mp hc).1
    exact ⟨_, List.getElem?_eq_getElem this⟩
  have hK : ∀ {a1 : Addr} {u : HO} {od : Obj} (x : Flow) (m' : Mem) (W' : Wd) (H' : Hp), Kp W' H' W' (upd H' a1 u) → H' a1 = some (.frz od u) → PFl G D x m' W' (upd H' a1 u) → ∀ m0, PFl G ⟨fun σ' H' => H' a1 = some (.frz od u) ∧ D.nx σ' (upd H' a1 u), fun v H' => H' a1 = some (.frz od u) ∧ D.rt v (upd H' a1 u), fun σ' H' => H' a1 = some (.frz od u) ∧ D.bk σ' (upd H' a1 u), fun σ' H' => H' a1 = some (.frz od u) ∧ D.ct σ' (upd H' a1 u)⟩ x m0 W' H' := by
    intro a1 u od x m' W' H' hk hl q m0
    cases x with
    | nx env' => exact fun σ' en => ⟨hl, q σ' (en.kp hk)⟩
    | ct env' => exact fun σ' en => ⟨hl, q σ' (en.kp hk)⟩
    | bk env' => exact fun σ' en => ⟨hl, q σ' (en.kp hk)⟩
    | rt d => exact fun v rv => ⟨hl, q v (Rp.kp hk _ _ rv)⟩
  split at p
  · rename_i i m0 hfd
    split at p
    · rename_i kvs hc
      obtain ⟨a1, ha⟩ := hi hc
      obtain ⟨vs, q1, q2⟩ := s1.mem.cell _ _ a1 hc ha
      have q1 : H a1 = some (.dK vs) := q1
      refine .inr ⟨a1, .dK vs, q1, True.intro, fun od => ?_⟩
      have f1 : Fut W H W (upd H a1 (.frz od (.dK vs))) := Fut.wrote ha q1 trivial
      exact ⟨W, env, M.set i (.dk true kvs), s1.fut f1 (s1.mem.wrote ha ⟨vs, ⟨od, upd_same⟩, q2.fut s1.mem f1⟩), unlk_run (c1 := .dk true kvs) s1.mem ha q1 trivial hK (.inl ⟨vs, rfl⟩) p⟩
    · rename_i kvs hc
      obtain ⟨a1, ha⟩ := hi hc
      obtain ⟨vs, q1, q2⟩ := s1.mem.cell _ _ a1 hc ha
      have q1 : H a1 = some (.dT vs) := q1
      refine .inr ⟨a1, .dT vs, q1, True.intro, fun od => ?_⟩
      have f1 : Fut W H W (upd H a1 (.frz od (.dT vs))) := Fut.wrote ha q1 trivial
      exact ⟨W, env, M.set i (.dt true kvs), s1.fut f1 (s1.mem.wrote ha ⟨vs, ⟨od, upd_same⟩, q2.fut s1.mem f1⟩), unlk_run (c1 := .dt true kvs) s1.mem ha q1 trivial hK (.inr ⟨vs, rfl⟩) p⟩
    · exact .inl ⟨W, env, M, s1, p⟩
  · exact .inl ⟨W, env, M, s1, p⟩
theorem sn_lock {e : Expr} {f : FE} (fd : FE) (h : PE X e (tE G E f)) : PE X e (tE G E (mLockE fd f)) := by
  have h2 : PE X e (fun σ H Q => tE G E f σ H Q ∨ tLockE (tE G E f) σ H Q) := ⟨fun pins s' σ H D I q => q.elim (h.run pins s' σ H D I) ((pe_lock h).run pins s' σ H D I)⟩
  refine pe_imp h2 fun σ H Q ⟨W, env, M, s1, p⟩ => ?_
  unfold mLockE lockIn at p
  have hi : ∀ {i : Nat} {c : Cell}, M[i]? = some c → ∃ a1, W.as[i]? = some a1 := fun {i c} hc => by
    have : i < W.as.length := by rw [s1.mem.len]; exact (List.getElem?_eq_some_iff.mp hc).1
    exact ⟨_, List.getElem?_eq_getElem this⟩
  have hK : ∀ {a1 : Addr} {u : HO} {od : Obj} (x : D) (m' : Mem) (W' : Wd) (H' : Hp), Kp W' H' W' (upd H' a1 u) → H' a1 = some (.frz od u) → PV G Q x m' W' (upd H' a1 u) → ∀ m0, PV G (fun v H' => H' a1 = some (.frz od u) ∧ Q v (upd H' a1 u)) x m0 W' H' :=
    fun x m' W' H' hk hl q m0 => fun v rv => ⟨hl, q v (Rp.kp hk _ _ rv)⟩
  split at p
  · rename_i i m0 hfd
    split at p
    · rename_i kvs hc
      obtain ⟨a1, ha⟩ := hi hc
      obtain ⟨vs, q1, q2⟩ := s1.mem.cell _ _ a1 hc ha
      have q1 : H a1 = some (.dK vs) := q1
      refine .inr ⟨a1, .dK vs, q1, True.intro, fun od => ?_⟩
      have f1 : Fut W H W (upd H a1 (.frz od (.dK vs))) := Fut.wrote ha q1 trivial
      exact ⟨W, env, M.set i (.dk true kvs), s1.fut f1 (s1.mem.wrote ha ⟨vs, ⟨od, upd_same⟩, q2.fut s1.mem f1⟩), unlk_run (c1 := .dk true kvs) s1.mem ha q1 trivial hK (.inl ⟨vs, rfl⟩) p⟩
    · rename_i kvs hc
      obtain ⟨a1, ha⟩ := hi hc
      obtain ⟨vs, q1, q2⟩ := s1.mem.cell _ _ a1 hc ha
      have q1 : H a1 = some (.dT vs) := q1
      refine .inr ⟨a1, .dT vs, q1, True.intro, fun od => ?_⟩
      have f1 : Fut W H W (upd H a1 (.frz od (.dT vs))) := Fut.wrote ha q1 trivial
      exact ⟨W, env, M.set i (.dt true kvs), s1.fut f1 (s1.mem.wrote ha ⟨vs, ⟨od, upd_same⟩, q2.fut s1.mem f1⟩), unlk_run (c1 := .dt true kvs) s1.mem ha q1 trivial hK (.inr ⟨vs, rfl⟩) p⟩
    · exact .inl ⟨W, env, M, s1, p⟩
  · exact .inl ⟨W, env, M, s1, p⟩
/-! ### what is walked -/
def keyD : KK → D
  | .inl i => .int i
  | .inr x => .str x
theorem keyD_rp (k : KK) : Rp G W H (keyD k) (kV (kk k)) := by cases k <;> rfl
theorem keysD_rp : ∀ (ks : List KK), RpL G W H (ks.map keyD) ((ks.map kk).map kV)
  | [] => rfl
  | k :: r => ⟨_, _, rfl, keyD_rp k, keysD_rp r⟩
theorem rpA_at {κ κ' : Type} {f : κ → κ'} : ∀ {kvs : List (κ × D)} {vs : List (κ' × V)} {i : Nat} {k : κ} {d : D}, RpK G W H f kvs vs → kvs[i]? = some (k, d) → ∃ v, vs[i]? = some (f k, v) ∧ Rp G W H d v
  | _, _, i, k, d, .nil, e => by simp at e
  | _, _, 0, k, d, .cons (a := p) (b := q) h t, e => by
    simp only [List.getElem?_cons_zero, Option.some.injEq] at e
    subst e
    refine ⟨q.2, ?_, h.2⟩
    have h1 : f k = q.1 := h.1
    simp [h1]
  | _, _, i + 1, k, d, .cons h t, e => by
    simp only [List.getElem?_cons_succ] at e ⊢
    exact rpA_at t e
def iKeysF (fd : FE) : FI := fun env M => (fd env M).bind fun d m => match d with
  | .ref i => match m[i]? with
    | some (.dk true kvs) => .ok ⟨kvs.map fun kv => keyD kv.1, fun _ => True⟩ m
    | some (.dt true kvs) => .ok ⟨kvs.map fun kv => .tup (kv.1.map keyD), fun _ => True⟩ m
    | _ => .no
  | _ => .no
def iValsF (fd : FE) : FI := fun env M => (fd env M).bind fun d m => match d with
  | .ref i => match m[i]? with
    | some (.dk true kvs) => .ok ⟨kvs.map (·.2), fun _ => True⟩ m
    | _ => .no
  | _ => .no
def iItemsF (fd : FE) : FI := fun env M => (fd env M).bind fun d m => match d with
  | .ref i => match m[i]? with
    | some (.dk true kvs) => .ok ⟨kvs.map fun kv => .tup [keyD kv.1, kv.2], fun _ => True⟩ m
    | _ => .no
  | _ => .no
theorem map_at {α : Type} {F : α → D} {l : List α} {i : Nat} {d : D} (e : (l.map F)[i]? = some d) : ∃ x, l[i]? = some x ∧ d = F x := by
  rw [List.getElem?_map] at e
  cases q : l[i]? with
  | none => rw [q] at e; cases e
  | some x => rw [q] at e; cases e; exact ⟨x, rfl, rfl⟩
theorem src_keys {a1 : Addr} {o : Obj} {kvs : List (KK × D)} {vs : List (Key × V)} (h : H a1 = some (.frz o (.dK vs))) (r : RpK G W H kk kvs vs) : SrcOk G W H ⟨kvs.map fun kv => keyD kv.1, fun _ => True⟩ (Itk a1 o vs) where
  item := fun W2 H2 M2 f lk m _ i d e => by
    obtain ⟨kv, hk, rfl⟩ := map_at e
    obtain ⟨v, hv, rv⟩ := rpA_at r hk
    refine ⟨⟨lk _ _ _ h, (List.getElem?_eq_some_iff.mp hv).1⟩, fun x H' y => ?_⟩
    obtain ⟨rfl, k', v', e1, rfl⟩ := y
    rw [hv] at e1; cases e1
    exact ⟨Fut.rfl', m, keyD_rp _⟩
  stop := fun W2 H2 M2 f lk m _ => ⟨lk _ _ _ h, by rw [List.length_map, rpA_len r]; exact Nat.le_refl _⟩
theorem src_keysT {a1 : Addr} {o : Obj} {kvs : List (List KK × D)} {vs : List (List Key × V)} (h : H a1 = some (.frz o (.dT vs))) (r : RpK G W H (List.map kk) kvs vs) : SrcOk G W H ⟨kvs.map fun kv => .tup (kv.1.map keyD), fun _ => True⟩ (Itkt a1 o vs) where
  item := fun W2 H2 M2 f lk m _ i d e => by
    obtain ⟨kv, hk, rfl⟩ := map_at e
    obtain ⟨v, hv, rv⟩ := rpA_at r hk
    refine ⟨⟨lk _ _ _ h, (List.getElem?_eq_some_iff.mp hv).1⟩, fun x H' y => ?_⟩
    obtain ⟨rfl, k', v', q, e1, rfl, hq⟩ := y
    rw [hv] at e1; cases e1
    exact ⟨Fut.rfl', m, q, _, rfl, .inl hq, keysD_rp _⟩
  stop := fun W2 H2 M2 f lk m _ => ⟨lk _ _ _ h, by rw [List.length_map, rpA_len r]; exact Nat.le_refl _⟩
theorem src_vals {a1 : Addr} {o : Obj} {kvs : List (KK × D)} {vs : List (Key × V)} (h : H a1 = some (.frz o (.dK vs))) (r : RpK G W H kk kvs vs) : SrcOk G W H ⟨kvs.map (·.2), fun _ => True⟩ (Itd a1 o vs) where
  item := fun W2 H2 M2 f lk m _ i d e => by
    obtain ⟨kv, hk, rfl⟩ := map_at e
    obtain ⟨v, hv, rv⟩ := rpA_at r hk
    refine ⟨⟨lk _ _ _ h, (List.getElem?_eq_some_iff.mp hv).1⟩, fun x H' y => ?_⟩
    obtain ⟨rfl, k', e1⟩ := y
    rw [hv] at e1; cases e1
    exact ⟨Fut.rfl', m, Rp.kp f _ _ rv⟩
  stop := fun W2 H2 M2 f lk m _ => ⟨lk _ _ _ h, by rw [List.length_map, rpA_len r]; exact Nat.le_refl _⟩
theorem src_items {a1 : Addr} {o : Obj} {kvs : List (KK × D)} {vs : List (Key × V)} (h : H a1 = some (.frz o (.dK vs))) (r : RpK G W H kk kvs vs) : SrcOk G W H ⟨kvs.map fun kv => .tup [keyD kv.1, kv.2], fun _ => True⟩ (Iti a1 o vs) where
  item := fun W2 H2 M2 f lk m _ i d e => by
    obtain ⟨kv, hk, rfl⟩ := map_at e
    obtain ⟨v, hv, rv⟩ := rpA_at r hk
    refine ⟨⟨lk _ _ _ h, (List.getElem?_eq_some_iff.mp hv).1⟩, fun x H' y => ?_⟩
    obtain ⟨T, k', v', e1, rfl, hT, rfl⟩ := y
    rw [hv] at e1; cases e1
    have ft : Fut W2 H2 W2 (upd H2 T (.tup [kV (kk kv.1), v])) := Fut.laid hT
    exact ⟨ft, m.laid hT, T, _, rfl, .inl upd_same, _, _, rfl, keyD_rp _, _, _, rfl, m.rp ft (Rp.kp f _ _ rv), rfl⟩
  stop := fun W2 H2 M2 f lk m _ => ⟨lk _ _ _ h, by rw [List.length_map, rpA_len r]; exact Nat.le_refl _⟩
theorem si_keys {tg : Expr} (ha : PE X a (tE G E fa)) : PI X tg a (tI G E (iKeysF fa)) := pi_imp (pi_keys ha) fun σ H Rr ⟨W, env, M, s, p⟩ => by
  refine tE.bind s p fun d m W1 H1 u f1 s1 r1 p1 => ?_
  split at p1
  · rename_i i
    obtain ⟨a1, h1, rfl⟩ := r1
    split at p1
    · rename_i kvs hc
      obtain ⟨vs, ⟨o, q1⟩, q2⟩ := s1.mem.cell _ _ a1 hc h1
      exact ⟨a1, o, rfl, .inl ⟨vs, q1, p1.here s1.mem _ (src_keys q1 q2) trivial⟩⟩
    · rename_i kvs hc
      obtain ⟨vs, ⟨o, q1⟩, q2⟩ := s1.mem.cell _ _ a1 hc h1
      exact ⟨a1, o, rfl, .inr ⟨vs, q1, p1.here s1.mem _ (src_keysT q1 q2) trivial⟩⟩
    · exact p1.elim
  · exact p1.elim
theorem si_values {tg : Expr} {apos cpos : Pos} (ha : PE X a (tE G E fa)) (hbase : attributeBase a "values" X.env (eval a X.env) = eval a X.env := by rfl) (hline : (apos.endLine == cpos.line) = true := by rfl) : PI X tg (.Call (.Attribute a "values" apos) [] [] cpos) (tI G E (iValsF fa)) := pi_imp (pi_values ha hbase hline) fun σ H Rr ⟨W, env, M, s, p⟩ => by
  refine tE.bind s p fun d m W1 H1 u f1 s1 r1 p1 => ?_
  split at p1
  · rename_i i
    obtain ⟨a1, h1, rfl⟩ := r1
    split at p1
    · rename_i kvs hc
      obtain ⟨vs, ⟨o, q1⟩, q2⟩ := s1.mem.cell _ _ a1 hc h1
      exact ⟨a1, o, vs, rfl, q1, p1.here s1.mem _ (src_vals q1 q2) trivial⟩
    · exact p1.elim
  · exact p1.elim
theorem si_items {elts : List Expr} {k0 : Nat} {tpos apos cpos : Pos} (ha : PE X a (tE G E fa)) (hbase : attributeBase a "items" X.env (eval a X.env) = eval a X.env := by rfl) (hline : (apos.endLine == cpos.line) = true := by rfl) : PI X (.Tuple elts k0 tpos) (.Call (.Attribute a "items" apos) [] [] cpos) (tI G E (iItemsF fa)) := pi_imp (pi_items ha hbase hline) fun σ H Rr ⟨W, env, M, s, p⟩ => by
  refine tE.bind s p fun d m W1 H1 u f1 s1 r1 p1 => ?_
  split at p1
  · rename_i i
    obtain ⟨a1, h1, rfl⟩ := r1
    split at p1
    · rename_i kvs hc
      obtain ⟨vs, ⟨o, q1⟩, q2⟩ := s1.mem.cell _ _ a1 hc h1
      exact ⟨a1, o, vs, rfl, q1, p1.here s1.mem _ (src_items q1 q2) trivial⟩
    · exact p1.elim
  · exact p1.elim
end
end Fn

set_option Elab.async false
set_option linter.all false
set_option maxRecDepth 100000
set_option maxHeartbeats 1000000
/-! FnLen: len(o) of an instance whose class has its own __len__. -/
namespace Fn
open PySem PySem.Spec PyProof.Rows L2
section
variable {X : Cx} {G : Gx} {cl : Nat → Addr} {E : XK} {W : Wd} {H : Hp} {M : Mem} {a b c : Expr} {fa fb fc : FE} {pos : Pos}
def rLenO (C : Addr) (sp : Sp) : List V → Hp → VK → Prop := fun xs H Q => ∃ a dx fs, xs = [.ref a] ∧ H a = some (.ins C dx fs) ∧ sp [.ref a] H (fun v H' => ∃ n : Int, v = .int n ∧ 0 ≤ n ∧ n < 2 ^ 63 ∧ Q (.int n) H') fun _ _ _ => False
theorem call_lenOwn {C f : Addr} {fd : FuncData} {ps : List Str} {sp : Sp} {k : Nat} (hm : Meth X.K C "__len__" f) (F : FnOk X.prog X.w X.K X.mg X.base CX0 k f fd ps sp) (hb : Binds X.K fd ps []) (hr : Room (k + 1) X.A) : CallR X (.builtin "len") (rLenO C sp) := by
  intro pins s σ H xs us Q I rv h
  obtain ⟨a, dx, fs, rfl, ha, hsp⟩ := h
  obtain ⟨u, rfl, ru⟩ := rv.one
  cases ru
  have sb : Sub X k X.A.in1 := Sub.in1 (⟨hr, rfl⟩ : Sub X (k + 1) X.A)
  obtain ⟨mA, J, _⟩ := ins_get I.hok ha
  obtain ⟨od, J, _⟩ := J.look
  have e0 : Env0 X.prog X.w X.K X.mg X.base X.A.in1 X.stack s H := I.env0.in1
  have hl := F.len _ _ _ _ hsp
  have r2 : Vals [V.ref a] [Value.ref a] := .cons rfl .nil
  obtain ⟨m0, hF⟩ := I.fr
  refine PySem.W.len_K hF I.ok.mod.kin J hm.at_ hm.fn ?_
  refine wpAny_call (codeAny_mono (F.run X.A.in1 X.stack s H ⟨[.ref a], []⟩ [.ref a] [.ref a] _ _ sb.room e0 (by
    have := hb s [.ref a] I.kIn (by simpa using hl)
    simpa using this) r2 hsp) fun r s' hq => ?_)
  cases r with
  | error e => exact hq.elim
  | ok fl =>
    cases fl with
    | next => exact False.elim hq
    | brk => exact False.elim hq
    | cont => exact False.elim hq
    | ret u =>
      obtain ⟨v, H', I', rv', n, rfl, h0, h1, q⟩ := I.after hq
      obtain ⟨t, rfl⟩ := rv'
      exact ⟨⟨h0, h1⟩, .int n, H', I'.tok _, ⟨_, rfl⟩, q⟩
def oLenO (c0 : Nat) (g : FD) (ds : List D) (M : Mem) : R D := match ds with
  | [d] => match insOf c0 M d with
    | some _ => match g [d] M with
      | .ok (.int n) m => if 0 ≤ n ∧ n < 2 ^ 63 then .ok (.int n) m else .no
      | _ => .no
    | none => .no
  | _ => .no
theorem fn_lenO {c0 : Nat} {g : FD} : Fn1 G E (rLenO (G.cl c0) (spOf G 1 g)) (oLenO c0 g) := fun W H M ds us Q m r p => by
  unfold oLenO at p
  split at p
  · rename_i d
    obtain ⟨u, us', e1, r1, r2⟩ := r
    have : us' = [] := r2
    subst this e1
    split at p
    · rename_i ifs e
      obtain ⟨i, fs⟩ := ifs
      obtain ⟨hd, a1, dx, vs, e2, e3, h1, h2⟩ := insOf_ok m r1 e
      subst e2
      refine ⟨a1, dx, vs, rfl, h1, W, M, [d], m, ⟨_, _, rfl, r1, rfl⟩, rfl, ?_⟩
      split at p
      · rename_i n m' hg
        rw [hg]
        split at p
        · rename_i hn
          intro W' H' f k v rv
          cases rv
          exact ⟨n, rfl, hn.1, hn.2, p W' H' f k _ rfl⟩
        · exact p.elim
      · exact p.elim
    · exact p.elim
  · exact p.elim
end
end Fn

set_option Elab.async false
set_option linter.all false
set_option maxRecDepth 100000
set_option maxHeartbeats 1000000
/-! FnIs: x is True, x is not True. -/
namespace Fn
open PySem PySem.Spec PyProof.Rows L2
section
variable {X : Cx} {G : Gx} {cl : Nat → Addr} {E : XK} {W : Wd} {H : Hp} {M : Mem} {a b c : Expr} {fa fb fc : FE} {pos : Pos}
def oIsB (neg : Bool) (a b : D) (M : Mem) : R D := match a, b with
  | .bl x, .bl y => .ok (.bl (if neg = true then !(x == y) else x == y)) M
  | _, _ => .no
theorem op2_isB : Op2 G E rIsB (oIsB false) := fun W H M a b u v Q m ra rb p => by
  cases a <;> cases b <;> first
    | exact p.elim
    | exact ⟨_, _, ra, rb, by rw [← Bool.beq_eq_decide_eq]; exact p.here m _ rfl⟩
theorem op2_notB : Op2 G E rNotB (oIsB true) := fun W H M a b u v Q m ra rb p => by
  cases a <;> cases b <;> first
    | exact p.elim
    | exact ⟨_, _, ra, rb, by rw [← Bool.beq_eq_decide_eq]; exact p.here m _ rfl⟩
theorem sn_isB (ha : PE X a (tE G E fa)) (hb : PE X b (tE G E fb)) : PE X (.Compare a [.Is] [b] pos) (tE G E (mOp (oIsB false) fa fb)) := sn_cmp op_isBl op2_isB (nomark _) ha hb
theorem sn_notB (ha : PE X a (tE G E fa)) (hb : PE X b (tE G E fb)) : PE X (.Compare a [.IsNot] [b] pos) (tE G E (mOp (oIsB true) fa fb)) := sn_cmp op_notBl op2_notB (nomark _) ha hb
end
end Fn

set_option Elab.async false
set_option linter.all false
set_option maxRecDepth 100000
set_option maxHeartbeats 1000000
/-! FnPop: d.pop(k) of a dict with tuple keys. -/
namespace Fn
open PySem PySem.Spec PyProof.Rows L2 L2.DX
section
variable {X : Cx} {G : Gx} {cl : Nat → Addr} {E : XK} {W : Wd} {H : Hp} {M : Mem} {a b c : Expr} {fa fb fc : FE} {pos : Pos}
theorem pop1_meets {prog : Program} {w : World} {κ : Type} [DecidableEq κ] {knd : HeapKind prog w κ} {d b : Addr} {k : κ} (hd : (d == sysModules) = false) :
    MeetsIn prog w (Builtin.«dict.pop» ⟨[.ref d, .ref b], []⟩) (fun A R s => ∃ xs p, knd.room A.in1 ∧ knd.is s.heap k b ∧ s.heap.DictOfH knd d xs ∧ xs.length ≤ sizeLine ∧ atKey xs k = some p ∧
      ∀ h' tk, h'.DictOfH knd d (DT.dropH xs k) → Heap.SameBut d s.heap h' → R (.ok (.ret p.2)) { s with heap := h', toks := tk }) :=
  .of_wp fun A R s ⟨xs, p, hu, hkey, hm, hsz, hat, hsome⟩ => by
    obtain ⟨o, es, ep, ho, hc, hdat, he, his, hn⟩ := id hm
    have hes : es.size = xs.length := size_of_entries he
    have hp0 : (keyPart (Value.ref b)).isSome = false := rfl
    unfold Builtin.«dict.pop»; refine wpAny_bind ?_; unfold Builtin.Dict.keyAndDefault
    refine wpAny_bind (wpAny_notOrdered_dict hm.typeIs ?_); show wpAny _ _ (pure (d, Value.ref b, none)) _ _ s
    refine wpAny_pure ?_; simp only [hp0, Bool.false_eq_true, if_false]
    refine wpAny_bind (wpAny_dictEntries ho hdat (wpAny_bind (wpAny_pure ?_)))
    cases hem : es.isEmpty with
    | true =>
      have z : es.size = 0 := by simpa using hem
      have h0 : xs = [] := List.length_eq_zero_iff.mp (by omega)
      rw [h0] at hat; cases hat
    | false =>
      simp only [Bool.false_eq_true, if_false]
      refine wpAny_bind (DT.takeH hu hkey hm hsz (fun hno => ?_) fun p' e hp hev h' hm' hs' => ?_)
      · rw [hno] at hat; cases hat
      · rw [hp] at hat; cases hat
        simp only [Option.isNone_some, Bool.false_eq_true, if_false]; exact wpAny_bind (wpAny_letGo (wpAny_pure ⟨e.val, rfl, by rw [hev]; exact hsome h' _ hm' hs'⟩))
def rPopT1 : V → List V → Hp → VK → Prop := fun x xs H Q => ∃ (a : Addr) (kvs : List (List L2.Key × V)) (k : List L2.Key) (b : Addr) (v : V), x = .ref a ∧ xs = [.ref b] ∧ H a = some (.dT kvs) ∧ H b = some (.tup (k.map kV)) ∧ valV kvs k = some v ∧ Q v (upd H a (.dT (dropK kvs k)))
theorem mt_popT1 (hu : X.A.units + 64 < cLine) : MtR X "dict.pop" rPopT1 := by
  intro pins s σ H x xs v us Q I rx rxs h
  obtain ⟨a, kvs, k, b, v0, rfl, rfl, ha, hb, hv, q1⟩ := h
  cases rx
  obtain ⟨u1, rfl, r1⟩ := vals1 rxs
  cases r1
  obtain ⟨z, hd, xs', rel, dd⟩ := dt_of I.hok ha
  have r := rel.val k
  rw [hv] at r
  obtain ⟨p, hp⟩ : ∃ p, atKey xs' k = some p := by
    cases e : atKey xs' k with
    | some p => exact ⟨p, rfl⟩
    | none => rw [e] at r; exact (show False from r).elim
  rw [hp] at r
  refine call_meetsIn PySem.F.slot_dict_pop dd.typeIs PySem.F.entry_dict_pop (PySem.F.args_dict_pop_2 _ _) (pop1_meets (knd := tupleKind (mixKind X.prog X.w)) (k := k) hd)
    ⟨xs', p, tupleKind_room_in1 (by omega), key_of I.hok hb, dd, by rw [← Paired.length rel]; exact z, hp, fun h' tk dd' hs => ?_⟩
  obtain ⟨o, es, ep, hq, h2, h3, h4, _, h5⟩ := dd'
  have I2 : Inv X pins σ (upd H a (.dT (dropK kvs k))) { s with heap := h', toks := tk } := d_write I (by rw [ha]; exact True.intro) hs ⟨o, hq⟩
    ⟨Nat.le_trans (dropK_le kvs k) z, hd, _, (KT_drop k rel).keeps (fun c ys ec => (by rw [upd_ne (ne_of ec ha (fun z => nomatch z))]; exact ec)), o, es, ep, hq, h2, h3, h4, h5⟩
  exact ⟨v0, _, I2, r, q1⟩
def popT (d : D) (ks : List D) (M : Mem) : Option (D × Mem) := match d, ks with
  | .ref i, [k] => match M[i]? with
    | some (.dt false kvs) => match keyT k with
      | some k' => match gA kvs k' with
        | some v => some (v, M.set i (.dt false (dA kvs k')))
        | none => none
      | none => none
    | _ => none
  | _, _ => none
def oPopE (d : D) (ks : List D) (M : Mem) : R D := match popT d ks M with
  | some (v, m) => .ok v m
  | none => oPopD d ks M
theorem mt_popE (hu : X.A.units + 64 < cLine) : MtR X "dict.pop" (fun x xs H Q => (rPopK x xs H Q ∨ rPopT x xs H Q) ∨ rPopT1 x xs H Q) := (mt_popD hu).or (mt_popT1 hu)
theorem mt1_popE : Mt1 G E (fun x xs H Q => (rPopK x xs H Q ∨ rPopT x xs H Q) ∨ rPopT1 x xs H Q) oPopE := fun W H M a u ds us Q m ra r p => by
  unfold oPopE at p
  split at p
  · rename_i v0 m0 e
    unfold popT at e
    split at e
    · rename_i i k
      obtain ⟨a1, ha, hx⟩ := ra
      subst hx
      obtain ⟨v, us', e1, r1, r2⟩ := r
      have : us' = [] := r2
      subst this e1
      split at e
      · rename_i kvs hc
        obtain ⟨vs, h1, h2⟩ := m.cell _ _ a1 hc ha
        have h1 : H a1 = some (.dT vs) := h1
        split at e
        · rename_i k' hk
          split at e
          · rename_i w hw
            cases e
            obtain ⟨b, hv, hb⟩ := keyT_ok hk r1
            subst hv
            obtain ⟨z, hz, rz⟩ := (rpA_get (fun _ _ => kkL_inj) k' h2).1 _ hw
            have f := Fut.wrote (W := W) (H := H) (o := .dT (dropK vs (k'.map kk))) ha h1 trivial
            have mk := m.wrote ha (o := .dT (dropK vs (k'.map kk))) (c := .dt false (dA kvs k')) ⟨_, upd_same, rpA_drop (fun _ _ => kkL_inj) (h2.fut m f)⟩
            exact .inr ⟨a1, vs, k'.map kk, b, z, rfl, rfl, h1, hb, hz, p W _ f mk _ (m.rp f rz)⟩
          · cases e
        · cases e
      · cases e
    · cases e
  · exact .inl (mt1_popD W H M a u ds us Q m ra r p)
end
end Fn

set_option Elab.async false
set_option linter.all false
set_option maxRecDepth 100000
set_option maxHeartbeats 1000000
/-! FnItT: d.items() of a dict with tuple keys, walked. -/
namespace Fn
open PySem PySem.Spec PyProof.Rows L2 L2.DX
section
variable {X : Cx} {pins : List (Addr × Obj)} {σ : L2.St} {H : Hp} {s : Shared} {d : Addr} {o : Obj}
/-- an entry of a locked dict with tuple keys: its key, its value -/
theorem frzT_at {kvs : List (List Key × V)} (I : Inv X pins σ H s) (h : H d = some (.frz o (.dT kvs))) {es : Array DictEntry} {ep : Nat} (hdt : o.data = .dict es ep) {i : Nat} {k : List Key} {v : V} (e : kvs[i]? = some (k, v)) :
    ∃ (en : DictEntry) (q : Addr), es[i]? = some en ∧ en.key = .ref q ∧ H q = some (.tup (k.map kV)) ∧ RelV v en.val := by
  obtain ⟨hd, z, hs, xs, pr, o', es', ep', ho, hx, hdt', he, _⟩ := I.hok d _ h
  rw [hd] at ho
  cases ho
  obtain ⟨rfl, rfl⟩ := dict_ep hdt hdt'
  obtain ⟨b, hb, e1, e2, e3⟩ := paired_get pr e
  have q := entry_at he i
  rw [hb] at q
  exact ⟨_, b.2.1, q, rfl, e2, e3⟩
end
/-- the pairs, each a new tuple with the key's own tuple -/
def Itit (d : Addr) (o : Obj) (kvs : List (List Key × V)) : It :=
  ⟨fun i H => H d = some (.frz o (.dT kvs)) ∧ i < kvs.length, fun i H x H' => ∃ T k v q, kvs[i]? = some (k, v) ∧ x = .ref T ∧ H T = none ∧ H q = some (.tup (k.map kV)) ∧ H' = upd H T (.tup [.ref q, v]), fun i H => H d = some (.frz o (.dT kvs)) ∧ kvs.length ≤ i⟩
section
variable {P : Program} {w : World} {K : PySem.W.Frag} {d : Addr} {o : Obj} {es : Array DictEntry} {ep : Nat}
theorem turn_itemsT {kvs : List (List Key × V)} {elts : List Expr} {k0 : Nat} {tpos : Pos} (it : Addr) (hod : o.data = .dict es ep) :
    Turn P w K (.Tuple elts k0 tpos) (Itit d o kvs) [it] it (fun i h => ∃ ok ov, IsItemIter h it d i kvs.length ep ok ov) where
  mem := by simp
  obj := fun i h st b hb => by
    have e : b = it := by simpa using hb
    subst e; obtain ⟨ok, ov, e⟩ := st; exact ⟨_, e, fun v z => nomatch z⟩
  keep := fun i h h' st k => let ⟨ok, ov, e⟩ := st; ⟨ok, ov, k it (by simp) _ e⟩
  item := by
    intro X hP hw hK hc i pins s σ H E I hf st hg
    subst hP hw hK; obtain ⟨hd, hi⟩ := hg
    obtain ⟨hs, hgd, hx, es', ep', hdt, hsz, _⟩ := I.frzT hd
    obtain ⟨rfl, rfl⟩ := dict_ep hod hdt
    obtain ⟨⟨k, v⟩, hkv⟩ : ∃ p, kvs[i]? = some p := ⟨kvs[i], List.getElem?_eq_getElem hi⟩
    obtain ⟨en, q, hen, hkey, hq, rv⟩ := frzT_at I hd hod hkv
    obtain ⟨ok, ov, he⟩ := st
    rw [← hsz] at he
    have hil : i < es'.size := by omega
    have hen2 : es'[i] = en := by rw [Array.getElem?_eq_getElem hil] at hen; exact Option.some.inj hen
    have hlt : it < s.heap.objs.size := Heap.lt_size he
    refine DT.nextI he (⟨o, hgd, hx, hdt⟩ : DT.Raw s.heap d es' ep') hil fun h' ho hT hz hk => ?_
    rw [hen2] at ho hT
    refine ⟨_, rfl, wpAny_letOwnedTupleGo_items (s := { s with heap := h' }) ho fun h'' he' sb => ?_⟩
    have hT2 : h''.get? s.heap.objs.size = some { cls := .type "tuple", data := .seq #[en.key, en.val] } := (sb.2 _ (Nat.ne_of_gt hlt)).trans hT
    have new : ObjOk X.prog X.w (upd H s.heap.objs.size (.tup [.ref q, v])) h'' s.heap.objs.size (.tup [.ref q, v]) :=
      ⟨by show 2 ≤ sizeLine; decide, [en.key, en.val], .cons hkey (.cons rv .nil), ⟨_, hT2, rfl, _, rfl⟩⟩
    have I1 : Inv X pins σ (upd H s.heap.objs.size (.tup [.ref q, v])) { s with heap := h'' } :=
      I.turnedNew (t' := s.toks) (ch := [it]) (fun b ob hb e => (sb.2 b (by simpa using hb)).trans (hk b ob (by simpa using hb) e)) hf (Nat.le_refl _) new
    refine ⟨.ref s.heap.objs.size, _, I1, rfl, ⟨_, k, v, q, hkv, rfl, I.hok.fresh (Nat.le_refl _), hq, rfl⟩, ⟨en.key, en.val, ?_⟩, fun b hb => ?_⟩
    · rw [← hsz]; exact he'
    · have e : b = it := by simpa using hb
      rw [e, upd_ne (Nat.ne_of_lt hlt)]; exact (hf it (by simp)).1
  done := by
    intro X hP hw hK hc i pins s σ H E I hf st hg
    subst hP hw hK; obtain ⟨hd, hi⟩ := hg
    obtain ⟨f0, f1, f2, f3, f4, f5⟩ := hf it (by simp)
    obtain ⟨hs, hgd, hx, es', ep', hdt, hsz, _⟩ := I.frzT hd
    obtain ⟨rfl, rfl⟩ := dict_ep hod hdt
    obtain ⟨ok, ov, he⟩ := st
    rw [← hsz] at he
    exact DT.endI (I.ok.hd hc) he (⟨o, hgd, hx, hdt⟩ : DT.Raw s.heap d es' ep') (by omega) fun h' eb => ⟨rfl, I.turned (t' := s.toks) (fun b ob hb e => eb b ob hb e) f0 f1 f3 f4 f5⟩
  self := fun A i s Q E st h => let ⟨_, _, e⟩ := st; PySem.W.kcp_self e h
end
def iItemsT (td : TE) : TI := fun σ H R => td σ H fun x H1 => ∃ d o, x = .ref d ∧ ((∃ kvs, H1 d = some (.frz o (.dK kvs)) ∧ R (Iti d o kvs) H1) ∨ ∃ kvs, H1 d = some (.frz o (.dT kvs)) ∧ R (Itit d o kvs) H1)
section
variable {X : Cx} {e : Expr} {td : TE} {apos cpos : Pos} {elts : List Expr} {k0 : Nat} {tpos : Pos}
theorem pi_itemsA (he : PE X e td) (hbase : attributeBase e "items" X.env (eval e X.env) = eval e X.env) (hline : (apos.endLine == cpos.line) = true) : PI X (.Tuple elts k0 tpos) (.Call (.Attribute e "items" apos) [] [] cpos) (iItemsT td) := by
  refine ⟨fun pins s σ H R I h => ?_⟩
  refine wpAny_Call_method (T := "dict") (id := "dict.items") hbase rfl hline F.plainAttrs_dict F.slot_dict_items F.type_dict_items (thn (he.run pins s σ H _ I h) fun u s1 ⟨x, H1, I1, rx, d, o, ex, q⟩ => ?_)
  subst ex
  obtain rfl : u = Value.ref d := rx
  have I2 : Inv X pins σ H1 { s1 with heap := s1.heap.push { cls := .type "dict_items", data := .fields #[.ref d] } } := I1.kept (t' := s1.toks) fun b ob q => Heap.get?_push_of_some _ q
  have vw : (s1.heap.push { cls := .type "dict_items", data := .fields #[.ref d] }).IsItemsView s1.heap.objs.size d := ⟨_, Heap.get?_push_size _ rfl, rfl, rfl⟩
  rcases q with ⟨kvs, hd, q⟩ | ⟨kvs, hd, q⟩
  · obtain ⟨hs, hgd, hx, es, ep, vs, hdt, hsz, kv, hm⟩ := I1.frzK hd
    have raw : DT.Raw s1.heap d es ep := ⟨o, hgd, hx, hdt⟩
    refine ⟨raw.typeIs, hm.dictOf.mapOf.noDict, ?_⟩
    show wpAny _ _ (callWith cpos (.builtin "dict.items") [.ref d] [] []) _ X.xe s1
    refine method_meetsIn F.slot_dict_items F.entry_dict_items rfl (PySem.evalArgs_none ⟨rfl, raw.typeIs, F.args_dict_items_1 _, _, DT.meetsItems (es := es) (ep := ep) hs, raw, ?_⟩)
    exact DT.iterI vw (raw.push _) (pi_one (tk := s1.toks) I2 _ (turn_items _ hdt) ⟨.none, .none, by rw [← hsz]; exact Heap.get?_push_size _ rfl⟩ q)
  · obtain ⟨hs, hgd, hx, es, ep, hdt, hsz, _⟩ := I1.frzT hd
    have raw : DT.Raw s1.heap d es ep := ⟨o, hgd, hx, hdt⟩
    refine ⟨raw.typeIs, fun b qq => ?_, ?_⟩
    · cases qq; exact ⟨o, hgd, hx.2.1⟩
    show wpAny _ _ (callWith cpos (.builtin "dict.items") [.ref d] [] []) _ X.xe s1
    refine method_meetsIn F.slot_dict_items F.entry_dict_items rfl (PySem.evalArgs_none ⟨rfl, raw.typeIs, F.args_dict_items_1 _, _, DT.meetsItems (es := es) (ep := ep) hs, raw, ?_⟩)
    exact DT.iterI vw (raw.push _) (pi_one (tk := s1.toks) I2 _ (turn_itemsT _ hdt) ⟨.none, .none, by rw [← hsz]; exact Heap.get?_push_size _ rfl⟩ q)
end
section
variable {X : Cx} {G : Gx} {cl : Nat → Addr} {E : XK} {W : Wd} {H : Hp} {M : Mem} {a b c : Expr} {fa fb fc : FE} {pos : Pos}
theorem src_itemsT {a1 : Addr} {o : Obj} {kvs : List (List KK × D)} {vs : List (List Key × V)} (h : H a1 = some (.frz o (.dT vs))) (r : RpK G W H (List.map kk) kvs vs) : SrcOk G W H ⟨kvs.map fun kv => .tup [.tup (kv.1.map keyD), kv.2], fun _ => True⟩ (Itit a1 o vs) where
  item := fun W2 H2 M2 f lk m _ i d e => by
    obtain ⟨kv, hk, rfl⟩ := map_at e
    obtain ⟨v, hv, rv⟩ := rpA_at r hk
    refine ⟨⟨lk _ _ _ h, (List.getElem?_eq_some_iff.mp hv).1⟩, fun x H' y => ?_⟩
    obtain ⟨T, k', v', q, e1, rfl, hT, hq, rfl⟩ := y
    rw [hv] at e1; cases e1
    have ft : Fut W2 H2 W2 (upd H2 T (.tup [.ref q, v])) := Fut.laid hT
    refine ⟨ft, m.laid hT, T, _, rfl, .inl upd_same, _, _, rfl, ⟨q, _, rfl, .inl ?_, keysD_rp _⟩, _, _, rfl, m.rp ft (Rp.kp f _ _ rv), rfl⟩
    rw [upd_ne (ne_of_none hq hT)]; exact hq
  stop := fun W2 H2 M2 f lk m _ => ⟨lk _ _ _ h, by rw [List.length_map, rpA_len r]; exact Nat.le_refl _⟩
def iItemsA (fd : FE) : FI := fun env M => (fd env M).bind fun d m => match d with
  | .ref i => match m[i]? with
    | some (.dk true kvs) => .ok ⟨kvs.map fun kv => .tup [keyD kv.1, kv.2], fun _ => True⟩ m
    | some (.dt true kvs) => .ok ⟨kvs.map fun kv => .tup [.tup (kv.1.map keyD), kv.2], fun _ => True⟩ m
    | _ => .no
  | _ => .no
theorem si_itemsA {elts : List Expr} {k0 : Nat} {tpos apos cpos : Pos} (ha : PE X a (tE G E fa)) (hbase : attributeBase a "items" X.env (eval a X.env) = eval a X.env := by rfl) (hline : (apos.endLine == cpos.line) = true := by rfl) : PI X (.Tuple elts k0 tpos) (.Call (.Attribute a "items" apos) [] [] cpos) (tI G E (iItemsA fa)) := pi_imp (pi_itemsA ha hbase hline) fun σ H Rr ⟨W, env, M, s, p⟩ => by
  refine tE.bind s p fun d m W1 H1 u f1 s1 r1 p1 => ?_
  split at p1
  · rename_i i
    obtain ⟨a1, h1, rfl⟩ := r1
    split at p1
    · rename_i kvs hc
      obtain ⟨vs, ⟨o, q1⟩, q2⟩ := s1.mem.cell _ _ a1 hc h1
      exact ⟨a1, o, rfl, .inl ⟨vs, q1, p1.here s1.mem _ (src_items q1 q2) trivial⟩⟩
    · rename_i kvs hc
      obtain ⟨vs, ⟨o, q1⟩, q2⟩ := s1.mem.cell _ _ a1 hc h1
      exact ⟨a1, o, rfl, .inr ⟨vs, q1, p1.here s1.mem _ (src_itemsT q1 q2) trivial⟩⟩
    · exact p1.elim
  · exact p1.elim
end
end Fn

set_option Elab.async false
set_option linter.all false
set_option maxRecDepth 100000
set_option maxHeartbeats 1000000
/-! FnSortT: sorted(d) of a dict with tuple keys. -/
namespace Fn
open PySem PySem.Spec PyProof.Rows L2 L2.DX
def atomP : PyData → Bool
  | .int _ => true
  | .str _ => true
  | _ => false
theorem reads_atom {h : Heap} {v : Value} {p : PyData} {as : List Addr} (r : Reads h v p as) (hp : atomP p = true) : as = [] := by
  cases r <;> first | rfl | cases hp
theorem reads_atoms {h : Heap} : ∀ {vs : List Value} {ps : List PyData} {as : List Addr}, ReadsAll h vs ps as → (∀ p ∈ ps, atomP p = true) → as = []
  | _, _, _, .nil, _ => rfl
  | _, _, _, .cons r t, hp => by rw [reads_atom r (hp _ (List.mem_cons_self ..)), reads_atoms t fun p h => hp p (List.mem_cons_of_mem _ h)]; rfl
theorem reads_tup {h : Heap} {v : Value} {ps : List PyData} {as : List Addr} (r : Reads h v (.tuple ps) as) (hp : ∀ p ∈ ps, atomP p = true) : as = [] := by
  cases r with
  | tuple h1 h2 h3 h4 => exact reads_atoms h4 hp
theorem keysP : ∀ (ks : List KK), ∃ ps, pyL (ks.map keyD) = some ps ∧ ∀ p ∈ ps, atomP p = true
  | [] => ⟨[], rfl, fun p h => by cases h⟩
  | k :: r => by
    obtain ⟨ps, h1, h2⟩ := keysP r
    cases k with
    | inl i => exact ⟨.int i :: ps, by simp only [List.map_cons, keyD, pyL, pyD, h1], fun p hp => by rcases List.mem_cons.mp hp with rfl | hp; rfl; exact h2 p hp⟩
    | inr x => exact ⟨.str (l2s x) :: ps, by simp only [List.map_cons, keyD, pyL, pyD, h1], fun p hp => by rcases List.mem_cons.mp hp with rfl | hp; rfl; exact h2 p hp⟩
def keyTup (ks : List KK) : D := .tup (ks.map keyD)
theorem keyTup_enc (ks : List KK) : ∃ ps, encD (keyTup ks) = .tuple ps ∧ ∀ p ∈ ps, atomP p = true := by
  obtain ⟨ps, h1, h2⟩ := keysP ks
  exact ⟨ps, by unfold encD keyTup; simp only [pyD, h1]; rfl, h2⟩
section
variable {X : Cx} {G : Gx} {cl : Nat → Addr} {E : XK} {W : Wd} {H : Hp} {M : Mem} {a b c : Expr} {fa fb fc : FE} {pos : Pos}
def rSortK (G : Gx) : List V → Hp → VK → Prop := fun vs H Q => ∃ (W : Wd) (a : Addr) (kvs : List (List KK × D)) (ws : List (List Key × V)), vs = [V.ref a] ∧ H a = some (.dT ws) ∧ RpK G W H (List.map kk) kvs ws ∧ sortOk (kvs.map fun kv => keyTup kv.1) ∧
  ∀ us' p, RpL G W H (sortD (kvs.map fun kv => keyTup kv.1)) us' → H p = none → Q (.ref p) (upd H p (.lst us'))
theorem rpL_keys : ∀ {kvs : List (List KK × D)} {ws : List (List Key × V)} {bs : List Addr}, RpK G W H (List.map kk) kvs ws → IsKeys H ws bs → RpL G W H (kvs.map fun kv => keyTup kv.1) (bs.map V.ref)
  | _, _, _, .nil, .nil => rfl
  | (ks, d) :: kvs, (k', v) :: ws, q :: bs, .cons h t, .cons h' t' => by
    have h1 : ks.map kk = k' := h.1
    have h2 : H q = some (.tup (k'.map kV)) := h'
    subst h1
    exact ⟨_, _, rfl, ⟨q, _, rfl, .inl h2, keysD_rp ks⟩, rpL_keys t t'⟩
theorem cr_sortK (hc : X.calm = true) (hu : X.A.units + 64 < cLine) : CallR X (.builtin "sorted") (rSortK ⟨X.K, cl⟩) := by
  intro pins s σ H vs us Q I r h
  obtain ⟨W, d, kvs, ws, rfl, hd, hr, hk, q⟩ := h
  obtain ⟨u, rfl, rx⟩ := r.one
  cases rx
  obtain ⟨z, hs, ks, pr, o, es, ep, ho, hx, hdt, he, hn⟩ := (show ObjOk X.prog X.w H s.heap d (.dT ws) from I.hok d _ hd)
  have l1 : es.size = ks.length := size_of_entries he
  have l2 : ws.length = ks.length := Paired.length pr
  refine Calls.call_function_entry PyProof.Rows.kind_sorted PyProof.Rows.plain_sorted PyProof.Rows.entry_sorted (PyProof.Rows.args_sorted1 _) ?_
  unfold Builtin.«sorted»; refine wpAny_bind (m := checkCount "sorted" 1 1 _) (wpAny_pure ?_)
  refine wpAny_bind (PySem.W.kdu_collect (A := X.A.in1) (kdl_raw hs hx hdt) (I.ok.hd hc) ho (by omega) fun h' tk acc' kp it => ?_)
  have eb : acc'.toList = (ks.map fun x => x.2.1).map Value.ref := by
    have hl : acc'.toList.length = ks.length := by rw [Array.length_toList, it.1]; exact l1
    apply List.ext_getElem?
    intro j; rw [List.map_map, List.getElem?_map]
    cases hj : acc'.toList[j]? with
    | none =>
      have h1 := List.getElem?_eq_none_iff.mp hj
      rw [List.getElem?_eq_none (by omega)]; rfl
    | some v =>
      obtain ⟨en, hen, hv⟩ := it.2 j v (by rw [← Array.getElem?_toList]; exact hj)
      have qe := entry_at he j
      rw [hen] at qe
      cases hb : ks[j]? with
      | none => rw [hb] at qe; exact nomatch (show some en = none from qe)
      | some b =>
        rw [hb] at qe
        have e2 : en = entryOfKey (tupleKind (mixKind X.prog X.w)) b := Option.some.inj qe
        rw [hv, e2]; rfl
  have rv : Vals ((ks.map fun x => x.2.1).map V.ref) acc'.toList := by rw [eb]; exact vals_refs _
  have rp := rpL_keys hr (isKeys_of pr)
  have e := eachIs_rp (h := s.heap) rp rv
  have hlen : acc'.toList.length = (kvs.map fun kv => keyTup kv.1).length := by rw [← rv.length, rp.len]
  have hL : (kvs.map fun kv => keyTup kv.1).length ≤ sizeLine := by rw [← rp.len, List.length_map, List.length_map]; omega
  refine wpAny_bind (wpAny_newList ?_ (by rw [hlen]; exact hL))
  have hoL : (h'.push (seqObj "list" acc'.toList.toArray 0)).get? h'.objs.size = some (seqObj "list" acc'.toList.toArray 0) := Heap.get?_push_size _ rfl
  have I1 : Inv X pins σ H { s with heap := h', toks := tk } := I.kept kp
  have er : PySem.W.EachIs (fun v d => ∃ as, Reads (h'.push (seqObj "list" acc'.toList.toArray 0)) v (encD d) as ∧ h'.objs.size ∉ as) acc'.toList (kvs.map fun kv => keyTup kv.1) := eachIs_mono e fun v d hd ⟨u, h1, h2⟩ => by
    obtain ⟨kv, _, rfl⟩ := List.mem_map.mp hd
    obtain ⟨ps, hps, hat⟩ := keyTup_enc kv.1
    have hpy : pyD (keyTup kv.1) = some (encD (keyTup kv.1)) := by
      obtain ⟨ps', h3, _⟩ := keysP kv.1
      unfold encD keyTup; simp only [pyD, h3]; rfl
    obtain ⟨as, ra⟩ := Dp.reads I _ u v (pyD_ok h1 hpy) h2
    have : as = [] := by rw [hps] at ra; exact reads_tup ra hat
    subst this
    exact ⟨[], Reads.keeps (fun b o q => Heap.get?_push_of_some _ (kp b o q)) ra, by simp⟩
  refine wpAny_bind (wpAny_holding (wpAny_mono (PySem.W.list_sort_data (s := { s with heap := h'.push (seqObj "list" acc'.toList.toArray 0), toks := tk }) (vs := acc'.toList) (n := 0) hoL e er (fun p hp p' hp' => ?_) (.inl fun p hp => ?_) hL (fun d hd => ?_) (Q := fun _ s' => EP X pins σ Q (.ref h'.objs.size) s') fun out ho' eo => ?_) (fun _ s' x => wpAny_pure ⟨_, rfl, x⟩) fun _ _ e => e))
  · obtain ⟨d, hd, rfl⟩ := List.mem_map.mp hp
    obtain ⟨d', hd', rfl⟩ := List.mem_map.mp hp'
    exact hk.2.1 d hd d' hd'
  · obtain ⟨d, hd, rfl⟩ := List.mem_map.mp hp
    obtain ⟨kv, hkv, rfl⟩ := List.mem_map.mp hd
    rcases hk.2.2 with z | z
    · have h1 := z _ hd
      obtain ⟨ks', dd⟩ := kv
      cases ks' with
      | nil => cases h1
      | cons k r =>
        obtain ⟨ps, h3, _⟩ := keysP (k :: r)
        have h4 : encD (keyTup (k :: r)) = .tuple ps := by unfold encD keyTup; simp only [pyD, h3]; rfl
        cases ps with
        | nil =>
          simp only [List.map_cons, pyL] at h3
          split at h3
          · cases h3
          · cases h3
        | cons x xs => exact ⟨x, xs, h4⟩
    · exact nomatch (show false = true from z _ hd)
  · have := (hk.1 d hd).2
    have h5 : X.A.in1.units = X.A.units + 1 := rfl
    rw [h5]; omega
  · obtain ⟨us', h1, h2⟩ := eachIs_back eo
    obtain ⟨e', he'⟩ := PyProof.Rows.sortedHeap_at (vs := acc'.toList) (out := out.toArray) hoL
    have hlen' : us'.length ≤ sizeLine := by rw [h2.length, ho']; exact hL
    refine ⟨.ref h'.objs.size, upd H h'.objs.size (.lst us'), I1.laid (t' := tk) (fun b u e => ?_) (Nat.le_refl _) ⟨hlen', out, e', h2, he'⟩, rfl, q us' _ h1 (I1.hok.fresh (Nat.le_refl _))⟩
    have hb : b < h'.objs.size := Heap.lt_size e
    rw [PyProof.Rows.sortedHeap_old (Nat.ne_of_lt hb) (by rw [size_push']; exact Nat.lt_succ_of_lt hb)]
    exact Heap.get?_push_of_some _ e
open Classical in
noncomputable def oSortK (c : Bool) : List D → Mem → R D
  | [.ref i], M => match M[i]? with
    | some (.dt false kvs) => if sortOk (kvs.map fun kv => keyTup kv.1) then mkL c (sortD (kvs.map fun kv => keyTup kv.1)) M else .no
    | _ => .no
  | _, _ => .no
theorem fn_sortK {c : Bool} : Fn1 G E (rSortK G) (oSortK c) := fun W H M ds us Q m r p => by
  unfold oSortK at p
  split at p
  · obtain ⟨u, e1, a1, h1, rfl⟩ := rp_one r
    subst e1
    split at p
    · rename_i kvs hc
      obtain ⟨ws, q1, q2⟩ := m.cell _ _ a1 hc h1
      have q1 : H a1 = some (.dT ws) := q1
      split at p
      · rename_i hk
        exact ⟨W, a1, kvs, ws, rfl, q1, q2, hk, fun us' p0 r' hp => mkL_new m p r' p0 hp⟩
      · exact p.elim
    · exact p.elim
  · exact p.elim
end
end Fn

set_option Elab.async false
set_option linter.all false
set_option maxRecDepth 100000
set_option maxHeartbeats 1000000
/-! FnDEv: what the dict operations answer on known cells. -/
namespace Fn
open PySem PySem.Spec PyProof.Rows L2
section
variable {M : Mem} {i : Nat} {lk : Bool} {kvs : List (KK × D)} {tvs : List (List KK × D)} {l : List D} {k v : D} {ks : List KK} {neg : Bool}
theorem dFind_dk (h : M[i]? = some (.dk lk kvs)) : dFind M (.ref i) k = (keyK k).map (gA kvs) := by simp only [dFind, h]
theorem dFind_dt (h : M[i]? = some (.dt lk tvs)) : dFind M (.ref i) k = (keyT k).map (gA tvs) := by simp only [dFind, h]
theorem dFind_lst (h : M[i]? = some (.lst l)) : dFind M (.ref i) k = none := by simp only [dFind, h]
theorem oIxA_tup (t : List D) : oIxA (.tup t) k M = oIx (.tup t) k M := rfl
theorem oIxA_lst (t : List D) : oIxA (.lst t) k M = oIx (.lst t) k M := rfl
theorem oIxA_fz (t : List D) : oIxA (.fz t) k M = oIx (.fz t) k M := rfl
theorem oIxA_str (x : List Nat) : oIxA (.str x) k M = oIx (.str x) k M := rfl
theorem oIxA_ref (h : M[i]? = some (.lst l)) : oIxA (.ref i) k M = oIx (.ref i) k M := by simp only [oIxA, dFind_lst h]
theorem oIxA_dk {j : Int} (h : M[i]? = some (.dk lk kvs)) (hv : gA kvs (.inl j) = some v) : oIxA (.ref i) (.int j) M = .ok v M := by simp only [oIxA, dFind_dk h, keyK, Option.map_some, hv]
theorem oIxA_dkS {x : List Nat} (h : M[i]? = some (.dk lk kvs)) (hv : gA kvs (.inr x) = some v) : oIxA (.ref i) (.str x) M = .ok v M := by simp only [oIxA, dFind_dk h, keyK, Option.map_some, hv]
theorem oIxA_dt (h : M[i]? = some (.dt lk tvs)) (hk : keyT k = some ks) (hv : gA tvs ks = some v) : oIxA (.ref i) k M = .ok v M := by simp only [oIxA, dFind_dt h, hk, Option.map_some, hv]
theorem oInA_dk {j : Int} (h : M[i]? = some (.dk lk kvs)) : oInA neg (.int j) (.ref i) M = .ok (.bl (neg != (gA kvs (.inl j)).isSome)) M := by simp only [oInA, dFind_dk h, keyK, Option.map_some]
theorem oInA_dkS {x : List Nat} (h : M[i]? = some (.dk lk kvs)) : oInA neg (.str x) (.ref i) M = .ok (.bl (neg != (gA kvs (.inr x)).isSome)) M := by simp only [oInA, dFind_dk h, keyK, Option.map_some]
theorem oInA_dt (h : M[i]? = some (.dt lk tvs)) (hk : keyT k = some ks) : oInA neg k (.ref i) M = .ok (.bl (neg != (gA tvs ks).isSome)) M := by simp only [oInA, dFind_dt h, hk, Option.map_some]
theorem oInA_lst (t : List D) : oInA neg k (.lst t) M = oInD neg k (.lst t) M := rfl
theorem oInA_tup (t : List D) : oInA neg k (.tup t) M = oInD neg k (.tup t) M := rfl
theorem oInA_ref (h : M[i]? = some (.lst l)) : oInA neg k (.ref i) M = oInD neg k (.ref i) M := by simp only [oInA, dFind_lst h]
theorem sPut_dk {j : Int} (h : M[i]? = some (.dk false kvs)) (hl : kvs.length < 16777216) : sPut M (.ref i) (.int j) v = some (M.set i (.dk false (pA kvs (.inl j) v))) := by simp only [sPut, dPut, h, keyK, if_pos hl]
theorem sPut_dkS {x : List Nat} (h : M[i]? = some (.dk false kvs)) (hl : kvs.length < 16777216) : sPut M (.ref i) (.str x) v = some (M.set i (.dk false (pA kvs (.inr x) v))) := by simp only [sPut, dPut, h, keyK, if_pos hl]
theorem sPut_dt (h : M[i]? = some (.dt false tvs)) (hk : keyT k = some ks) (hl : tvs.length < 16777216) : sPut M (.ref i) k v = some (M.set i (.dt false (pA tvs ks v))) := by simp only [sPut, dPut, h, hk, if_pos hl]
theorem sPut_lst {j : Int} {n : Nat} (h : M[i]? = some (.lst l)) (hn : ixN l.length j = some n) : sPut M (.ref i) (.int j) v = some (M.set i (.lst (l.set n v))) := by simp only [sPut, dPut, lPut, h, hn]
theorem lGet_dk {j : Int} (h : M[i]? = some (.dk lk kvs)) (hv : gA kvs (.inl j) = some v) : lGet M (.ref i) (.int j) = some v := by simp only [lGet, dFind_dk h, keyK, Option.map_some, hv]
theorem lGet_lst {j : Int} (h : M[i]? = some (.lst l)) (hv : L2.atI l j = some v) : lGet M (.ref i) (.int j) = some v := by simp only [lGet, dFind_lst h, h, hv]
theorem oLenA_dk (h : M[i]? = some (.dk false kvs)) : oLenA [.ref i] M = .ok (.int kvs.length) M := by simp only [oLenA, dLen, h]
theorem oLenA_dt (h : M[i]? = some (.dt false tvs)) : oLenA [.ref i] M = .ok (.int tvs.length) M := by simp only [oLenA, dLen, h]
theorem oLenA_ref (h : M[i]? = some (.lst l)) : oLenA [.ref i] M = oLen [.ref i] M := by simp only [oLenA, dLen, h]
theorem oLenA_lst (t : List D) : oLenA [.lst t] M = oLen [.lst t] M := rfl
theorem oLenA_tup (t : List D) : oLenA [.tup t] M = oLen [.tup t] M := rfl
theorem oLenA_fz (t : List D) : oLenA [.fz t] M = oLen [.fz t] M := rfl
theorem oLenA_str (x : List Nat) : oLenA [.str x] M = oLen [.str x] M := rfl
theorem oGetM_dk1 {j : Int} (h : M[i]? = some (.dk lk kvs)) : oGetM (.ref i) [.int j] M = .ok ((gA kvs (.inl j)).getD .non) M := by
  simp only [oGetM, dFind_dk h, keyK, Option.map_some]
  cases gA kvs (.inl j) <;> rfl
theorem oGetM_dk2 {j : Int} {z : D} (h : M[i]? = some (.dk lk kvs)) : oGetM (.ref i) [.int j, z] M = .ok ((gA kvs (.inl j)).getD z) M := by
  simp only [oGetM, dFind_dk h, keyK, Option.map_some]
  cases gA kvs (.inl j) <;> rfl
theorem oGetM_dt1 (h : M[i]? = some (.dt lk tvs)) (hk : keyT k = some ks) : oGetM (.ref i) [k] M = .ok ((gA tvs ks).getD .non) M := by
  simp only [oGetM, dFind_dt h, hk, Option.map_some]
  cases gA tvs ks <;> rfl
theorem oGetM_dt2 {z : D} (h : M[i]? = some (.dt lk tvs)) (hk : keyT k = some ks) : oGetM (.ref i) [k, z] M = .ok ((gA tvs ks).getD z) M := by
  simp only [oGetM, dFind_dt h, hk, Option.map_some]
  cases gA tvs ks <;> rfl
theorem oPopE_dk {j : Int} (h : M[i]? = some (.dk false kvs)) (hv : gA kvs (.inl j) = some v) : oPopE (.ref i) [.int j] M = .ok v (M.set i (.dk false (dA kvs (.inl j)))) := by
  simp only [oPopE, popT, h, oPopD, keyK, hv]
theorem oPopE_dt (h : M[i]? = some (.dt false tvs)) (hk : keyT k = some ks) (hv : gA tvs ks = some v) : oPopE (.ref i) [k] M = .ok v (M.set i (.dt false (dA tvs ks))) := by
  simp only [oPopE, popT, h, hk, hv]
theorem tyOk_dk (h : M[i]? = some (.dk false kvs)) : tyOk "dict" M (.ref i) = true := by simp only [tyOk, h]; decide
theorem tyOk_dt (h : M[i]? = some (.dt false tvs)) : tyOk "dict" M (.ref i) = true := by simp only [tyOk, h]; decide
theorem oIsB_eq (neg x y : Bool) : oIsB neg (.bl x) (.bl y) M = .ok (.bl (if neg = true then !(x == y) else x == y)) M := rfl
theorem mDNewK_eq {env : Fn.Env} : mDNewK env M = .ok (.ref M.length) (M ++ [.dk false []]) := rfl
theorem mDNewT_eq {env : Fn.Env} : mDNewT env M = .ok (.ref M.length) (M ++ [.dt false []]) := rfl
theorem gIxA_eq (fo fi : FE) (d : D) {env : Fn.Env} : gIxA fo fi d env M = (fo env M).bind fun o m => (fi env m).bind fun i m' => match sPut m' o i d with
  | some m2 => .ok env m2
  | none => .no := rfl
theorem mAugIx_eq (o : D → D → Mem → R D) (fo fi fe : FE) {env : Fn.Env} : mAugIx o fo fi fe env M = (fo env M).bind fun a m => (fi env m).bind fun i m1 => match lGet m1 a i with
  | some x => (fe env m1).bind fun y m2 => (o x y m2).bind fun z m3 => match sPut m3 a i z with
    | some m4 => .ok (.nx env) m4
    | none => .no
  | none => .no := rfl
/-- a dict is walked in an expression: what comes is told of the memory without the lock -/
theorem lock_dk {α : Type} {fd : FE} {f : Env → Mem → R α} {env : Fn.Env} {m0 m : Mem} {kvs' : List (KK × D)} {x : α} (hd : fd env M = .ok (.ref i) m0) (h : M[i]? = some (.dk false kvs)) (hf : f env (M.set i (.dk true kvs)) = .ok x m) (hm : m[i]? = some (.dk true kvs')) : lockIn fd f env M = .ok x (m.set i (.dk false kvs')) := by
  simp only [lockIn, hd, h, hf, unlk, hm]
theorem lock_dt {α : Type} {fd : FE} {f : Env → Mem → R α} {env : Fn.Env} {m0 m : Mem} {tvs' : List (List KK × D)} {x : α} (hd : fd env M = .ok (.ref i) m0) (h : M[i]? = some (.dt false tvs)) (hf : f env (M.set i (.dt true tvs)) = .ok x m) (hm : m[i]? = some (.dt true tvs')) : lockIn fd f env M = .ok x (m.set i (.dt false tvs')) := by
  simp only [lockIn, hd, h, hf, unlk, hm]
end
end Fn

set_option Elab.async false
set_option linter.all false
set_option maxRecDepth 100000
set_option maxHeartbeats 1000000
/-! FnValT: d.values() of a dict of either kind, walked; a == b == c == d; len(set(ints)). -/
namespace Fn
open PySem PySem.Spec PyProof.Rows L2 L2.DX
def Itdt (d : Addr) (o : Obj) (kvs : List (List Key × V)) : It :=
  ⟨fun i H => H d = some (.frz o (.dT kvs)) ∧ i < kvs.length, fun i H x H' => H' = H ∧ ∃ k, kvs[i]? = some (k, x), fun i H => H d = some (.frz o (.dT kvs)) ∧ kvs.length ≤ i⟩
section
variable {P : Program} {w : World} {K : PySem.W.Frag} {d : Addr} {o : Obj} {es : Array DictEntry} {ep : Nat} {tg : Expr}
theorem turn_valsT {kvs : List (List Key × V)} (it : Addr) (hod : o.data = .dict es ep) : Turn P w K tg (Itdt d o kvs) [it] it (fun i h => h.get? it = some (DVw.valOb d i kvs.length ep)) where
  mem := by simp
  obj := fun i h st b hb => by
    have e : b = it := by simpa using hb
    subst e
    exact ⟨_, st, fun v z => nomatch z⟩
  keep := fun i h h' st k => k it (by simp) _ st
  item := by
    intro X hP hw hK hc i pins s σ H E I hf st hg
    subst hP hw hK; obtain ⟨hd, hi⟩ := hg
    obtain ⟨f0, f1, f2, f3, f4, f5⟩ := hf it (by simp)
    obtain ⟨hs, hgd, hx, es', ep', hdt, hsz, _⟩ := I.frzT hd
    obtain ⟨rfl, rfl⟩ := dict_ep hod hdt
    obtain ⟨⟨k, v⟩, hkv⟩ : ∃ p, kvs[i]? = some p := ⟨kvs[i], List.getElem?_eq_getElem hi⟩
    obtain ⟨en, q, hen, hkey, hq, rv⟩ := frzT_at I hd hod hkv
    refine DVw.val_item st hgd hdt hsz hen fun h' st' sb => ?_
    have I1 : Inv X pins σ H { s with heap := h' } := I.turned (t' := s.toks) (fun b ob hb e => (sb.2 b hb).trans e) f0 f1 f3 f4 f5
    exact ⟨en.val, rfl, go_of (s := { s with heap := h' }) st' rfl rfl (by decide) ⟨v, H, I1, rv, ⟨rfl, k, hkv⟩, st', fun b hb => (hf b hb).1⟩⟩
  done := by
    intro X hP hw hK hc i pins s σ H E I hf st hg
    subst hP hw hK; obtain ⟨hd, hi⟩ := hg
    obtain ⟨f0, f1, f2, f3, f4, f5⟩ := hf it (by simp)
    obtain ⟨hs, hgd, hx, es', ep', hdt, hsz, _⟩ := I.frzT hd
    obtain ⟨rfl, rfl⟩ := dict_ep hod hdt
    exact DVw.val_end (I.ok.hd hc) st hgd hdt hsz (Array.getElem?_eq_none (by omega)) fun h' eb => ⟨rfl, I.turned (t' := s.toks) (fun b ob hb e => eb b ob hb e) f0 f1 f3 f4 f5⟩
  self := fun A i s Q E st h => wpAny_pyIter_valiter (d := d) (i := i) (n := kvs.length) (ep := ep) ⟨_, st, rfl, rfl⟩ h
end
section
variable {prog : Program} {w : World} {A : Around} {E : Value → Shared → Prop} {s : Shared}
theorem meetsVals {d : Addr} {es : Array DictEntry} {ep : Nat} (hd : (d == sysModules) = false) :
    MeetsIn prog w (Builtin.«dict.values» ⟨[.ref d], []⟩) (fun _ R s => DT.Raw s.heap d es ep ∧
      R (.ok (.ret (.ref s.heap.objs.size))) { s with heap := s.heap.push { cls := .type "dict_values", data := .fields #[.ref d] } }) :=
  .of_wp fun A R s ⟨hm, h⟩ => by
    unfold Builtin.«dict.values»
    refine wpAny_bind ?_
    unfold Builtin.Dict.noArgs
    refine wpAny_bind (wpAny_notOrdered_dict hm.typeIs ?_)
    show wpAny _ _ (pure d) _ _ s
    refine wpAny_pure ?_
    show wpAny _ _ (Builtin.Dict.showsAll d >>= _) _ _ s
    unfold Builtin.Dict.showsAll
    rw [if_neg (by rw [hd]; exact Bool.false_ne_true)]
    refine wpAny_bind (wpAny_pure ?_)
    exact wpAny_bind (wpAny_newObj_type (wpAny_pure ⟨_, rfl, h⟩))
end
def iValsT (td : TE) : TI := fun σ H R => td σ H fun x H1 => ∃ d o, x = .ref d ∧ ((∃ kvs, H1 d = some (.frz o (.dK kvs)) ∧ R (Itd d o kvs) H1) ∨ ∃ kvs, H1 d = some (.frz o (.dT kvs)) ∧ R (Itdt d o kvs) H1)
section
variable {X : Cx} {tg e : Expr} {td : TE} {apos cpos : Pos}
theorem pi_valuesA (he : PE X e td) (hbase : attributeBase e "values" X.env (eval e X.env) = eval e X.env) (hline : (apos.endLine == cpos.line) = true) : PI X tg (.Call (.Attribute e "values" apos) [] [] cpos) (iValsT td) := by
  refine ⟨fun pins s σ H R I h => ?_⟩
  refine wpAny_Call_method (T := "dict") (id := "dict.values") hbase rfl hline F.plainAttrs_dict F.slot_dict_values F.type_dict_values (thn (he.run pins s σ H _ I h) fun u s1 ⟨x, H1, I1, rx, d, o, ex, q⟩ => ?_)
  subst ex
  obtain rfl : u = Value.ref d := rx
  have I2 : Inv X pins σ H1 { s1 with heap := s1.heap.push { cls := .type "dict_values", data := .fields #[.ref d] } } := I1.kept (t' := s1.toks) fun b ob q => Heap.get?_push_of_some _ q
  have vw : (s1.heap.push { cls := .type "dict_values", data := .fields #[.ref d] }).get? s1.heap.objs.size = some (DSub.viewOb "dict_values" d) := Heap.get?_push_size _ rfl
  rcases q with ⟨kvs, hd, q⟩ | ⟨kvs, hd, q⟩
  · obtain ⟨hs, hgd, hx, es, ep, vs, hdt, hsz, kv, hm⟩ := I1.frzK hd
    have hl : kvs.length = vs.length := Paired.length kv
    refine ⟨hm.dictOf.typeIs, hm.dictOf.mapOf.noDict, ?_⟩
    have fin : wpAny (model X.prog X.w) X.A (pyIter (.ref s1.heap.objs.size)) (PIE X pins σ tg R) X.xe { s1 with heap := s1.heap.push { cls := .type "dict_values", data := .fields #[.ref d] } } := by
      refine wpAny_pyIter_values (d := d) (knd := mixKind X.prog X.w) ⟨_, Heap.get?_push_size _ rfl, rfl, rfl⟩ (hm.push _) (pi_one (tk := s1.toks) I2 _ (turn_vals _ hdt) ⟨_, Heap.get?_push_size _ rfl, rfl, ?_⟩ q)
      rw [hl] <;> rfl
    show wpAny _ _ (callWith cpos (.builtin "dict.values") [.ref d] [] []) _ X.xe s1
    exact method_meetsIn F.slot_dict_values F.entry_dict_values rfl (PySem.evalArgs_none ⟨rfl, hm.dictOf.typeIs, F.args_dict_values_1 _, _, meets_dict_values (mixKind X.prog X.w) d hs, ⟨vs, hm.dictOf⟩, fin⟩)
  · obtain ⟨hs, hgd, hx, es, ep, hdt, hsz, _⟩ := I1.frzT hd
    have raw : DT.Raw s1.heap d es ep := ⟨o, hgd, hx, hdt⟩
    refine ⟨raw.typeIs, fun b qq => ?_, ?_⟩
    · cases qq; exact ⟨o, hgd, hx.2.1⟩
    show wpAny _ _ (callWith cpos (.builtin "dict.values") [.ref d] [] []) _ X.xe s1
    refine method_meetsIn F.slot_dict_values F.entry_dict_values rfl (PySem.evalArgs_none ⟨rfl, raw.typeIs, F.args_dict_values_1 _, _, meetsVals (es := es) (ep := ep) hs, raw, ?_⟩)
    refine DSub.iter_vals vw (Heap.get?_push_of_some _ hgd) hdt (pi_one (tk := s1.toks) I2 _ (turn_valsT _ hdt) ?_ q)
    rw [hsz]; exact Heap.get?_push_size _ rfl
end
section
variable {X : Cx} {G : Gx} {cl : Nat → Addr} {E : XK} {W : Wd} {H : Hp} {M : Mem} {a b c d : Expr} {fa fb fc fd : FE} {pos : Pos}
theorem src_valsT {a1 : Addr} {o : Obj} {kvs : List (List KK × D)} {vs : List (List Key × V)} (h : H a1 = some (.frz o (.dT vs))) (r : RpK G W H (List.map kk) kvs vs) : SrcOk G W H ⟨kvs.map (·.2), fun _ => True⟩ (Itdt a1 o vs) where
  item := fun W2 H2 M2 f lk m _ i d e => by
    obtain ⟨kv, hk, rfl⟩ := map_at e
    obtain ⟨v, hv, rv⟩ := rpA_at r hk
    refine ⟨⟨lk _ _ _ h, (List.getElem?_eq_some_iff.mp hv).1⟩, fun x H' y => ?_⟩
    obtain ⟨rfl, k', e1⟩ := y
    rw [hv] at e1; cases e1
    exact ⟨Fut.rfl', m, Rp.kp f _ _ rv⟩
  stop := fun W2 H2 M2 f lk m _ => ⟨lk _ _ _ h, by rw [List.length_map, rpA_len r]; exact Nat.le_refl _⟩
def iValsA (fd : FE) : FI := fun env M => (fd env M).bind fun d m => match d with
  | .ref i => match m[i]? with
    | some (.dk true kvs) => .ok ⟨kvs.map (·.2), fun _ => True⟩ m
    | some (.dt true kvs) => .ok ⟨kvs.map (·.2), fun _ => True⟩ m
    | _ => .no
  | _ => .no
theorem si_valuesA {tg : Expr} {apos cpos : Pos} (ha : PE X a (tE G E fa)) (hbase : attributeBase a "values" X.env (eval a X.env) = eval a X.env := by rfl) (hline : (apos.endLine == cpos.line) = true := by rfl) : PI X tg (.Call (.Attribute a "values" apos) [] [] cpos) (tI G E (iValsA fa)) := pi_imp (pi_valuesA ha hbase hline) fun σ H Rr ⟨W, env, M, s, p⟩ => by
  refine tE.bind s p fun d m W1 H1 u f1 s1 r1 p1 => ?_
  split at p1
  · rename_i i
    obtain ⟨a1, h1, rfl⟩ := r1
    split at p1
    · rename_i kvs hc
      obtain ⟨vs, ⟨o, q1⟩, q2⟩ := s1.mem.cell _ _ a1 hc h1
      exact ⟨a1, o, rfl, .inl ⟨vs, q1, p1.here s1.mem _ (src_vals q1 q2) trivial⟩⟩
    · rename_i kvs hc
      obtain ⟨vs, ⟨o, q1⟩, q2⟩ := s1.mem.cell _ _ a1 hc h1
      exact ⟨a1, o, rfl, .inr ⟨vs, q1, p1.here s1.mem _ (src_valsT q1 q2) trivial⟩⟩
    · exact p1.elim
  · exact p1.elim
/-! ### a == b == c == d -/
def tChain4 (r r' r'' : R2) (ta tb tc td : TE) : TE := fun σ H Q => ta σ H fun x H1 => tb σ H1 fun y H2 => r x y H2 fun z H3 => ∃ k, z = .bl k ∧
  (if k = true then tc σ H3 fun w' H4 => r' y w' H4 fun z' H5 => ∃ k', z' = .bl k' ∧ (if k' = true then td σ H5 fun u H6 => r'' w' u H6 Q else Q (.bl false) H5) else Q (.bl false) H3)
theorem pe_chain4 {op op' op'' : CmpOp} {r r' r'' : R2} {ta tb tc td : TE} (ho : OpR X (compareOp op) r) (ho' : OpR X (compareOp op') r') (ho'' : OpR X (compareOp op'') r'') (ha : PE X a ta) (hb : PE X b tb) (hc : PE X c tc) (hd : PE X d td)
    (hm : lastMarks [op, op', op''] [b, c, d] = false) : PE X (.Compare a [op, op', op''] [b, c, d] pos) (tChain4 r r' r'' ta tb tc td) := by
  refine ⟨fun pins s σ H Q I h => ?_⟩
  refine Compare_chain (thn (ha.run pins s σ H _ I h) fun v s1 ⟨x, H1, I1, r1, q1⟩ => chain_link (thn (hb.run pins s1 σ H1 _ I1 q1) fun u s2 ⟨y, H2, I2, r2, q2⟩ =>
    thn (ho pins s2 σ H2 x y v u _ I2 r1 r2 q2) fun d s3 ⟨z, H3, I3, r3, k, e, q3⟩ => ?_)) hm
  subst e
  cases r3
  refine wpAny_truthy_bool ?_
  cases k with
  | false => exact ite_ff ⟨.bl false, H3, I3, rfl, q3⟩
  | true =>
    refine ite_tt (chain_link (thn (hc.run pins s3 σ H3 _ I3 q3) fun w' s4 ⟨z', H4, I4, r4, q4⟩ =>
      thn (ho' pins s4 σ H4 y z' u w' _ I4 r2 r4 q4) fun d5 s5 ⟨z5, H5, I5, r5, k5, e5, q5⟩ => ?_))
    subst e5
    cases r5
    refine wpAny_truthy_bool ?_
    cases k5 with
    | false => exact ite_ff ⟨.bl false, H5, I5, rfl, q5⟩
    | true => exact ite_tt (chain_last (thn (hd.run pins s5 σ H5 _ I5 q5) fun w6 s6 ⟨z6, H6, I6, r6, q6⟩ => ho'' pins s6 σ H6 z' z6 w' w6 Q I6 r4 r6 q6))
def mChain4 (o o' o'' : D → D → Mem → R D) (fa fb fc fd : FE) : FE := fun env M => (fa env M).bind fun x m => (fb env m).bind fun y m => (o x y m).bind fun z m => match z with
  | .bl true => (fc env m).bind fun w m => (o' y w m).bind fun z' m => match z' with
    | .bl true => (fd env m).bind fun u m => o'' w u m
    | .bl false => .ok (.bl false) m
    | _ => .no
  | .bl false => .ok (.bl false) m
  | _ => .no
theorem chain4_reads {r r' r'' : R2} {o o' o'' : D → D → Mem → R D} (hs : Op2 G E r o) (hs' : Op2 G E r' o') (hs'' : Op2 G E r'' o'') (σ : L2.St) (H : Hp) (Q : VK) (h : tE G E (mChain4 o o' o'' fa fb fc fd) σ H Q) : tChain4 r r' r'' (tE G E fa) (tE G E fb) (tE G E fc) (tE G E fd) σ H Q := by
  obtain ⟨W, env, M, s, p⟩ := h
  refine tE.bind s p fun d m W1 H1 u f1 s1 r1 p1 => ?_
  refine tE.bind s1 p1 fun d2 m2 W2 H2 u2 f2 s2 r2 p2 => ?_
  refine hs W2 H2 m2 d d2 u u2 _ s2.mem (s1.mem.rp f2 r1) r2 (PR.bind p2 fun z m3 W3 H3 f3 mk3 p3 => fun w rw_ => ?_)
  have s3 := s2.fut f3 mk3
  cases z with
  | bl k =>
    cases rw_
    cases k with
    | true =>
      refine ⟨true, rfl, ?_⟩
      rw [if_pos rfl]
      refine tE.bind s3 p3 fun d4 m4 W4 H4 u4 f4 s4 r4 p4 => ?_
      refine hs' W4 H4 m4 d2 d4 u2 u4 _ s4.mem (s3.mem.rp f4 (s2.mem.rp f3 r2)) r4 (PR.bind p4 fun z5 m5 W5 H5 f5 mk5 p5 => fun w5 rw5 => ?_)
      have s5 := s4.fut f5 mk5
      cases z5 with
      | bl k5 =>
        cases rw5
        cases k5 with
        | true =>
          refine ⟨true, rfl, ?_⟩
          rw [if_pos rfl]
          refine tE.bind s5 p5 fun d6 m6 W6 H6 u6 f6 s6 r6 p6 => ?_
          exact hs'' W6 H6 m6 d4 d6 u4 u6 Q s6.mem (s5.mem.rp f6 (s4.mem.rp f5 r4)) r6 p6
        | false =>
          refine ⟨false, rfl, ?_⟩
          rw [if_neg Bool.false_ne_true]
          exact p5.here mk5 _ rfl
      | _ => exact p5.elim
    | false =>
      refine ⟨false, rfl, ?_⟩
      rw [if_neg Bool.false_ne_true]
      exact p3.here mk3 _ rfl
  | _ => exact p3.elim
theorem sn_chain4 {op op' op'' : CmpOp} {r r' r'' : R2} {o o' o'' : D → D → Mem → R D} (ho : OpR X (compareOp op) r) (hs : Op2 G E r o) (ho' : OpR X (compareOp op') r') (hs' : Op2 G E r' o') (ho'' : OpR X (compareOp op'') r'') (hs'' : Op2 G E r'' o'') (ha : PE X a (tE G E fa)) (hb : PE X b (tE G E fb)) (hc : PE X c (tE G E fc)) (hd : PE X d (tE G E fd))
    (hm : lastMarks [op, op', op''] [b, c, d] = false := by rfl) : PE X (.Compare a [op, op', op''] [b, c, d] pos) (tE G E (mChain4 o o' o'' fa fb fc fd)) := pe_imp (pe_chain4 ho ho' ho'' ha hb hc hd hm) (chain4_reads hs hs' hs'')
def oLenSet : List D → Mem → R D
  | [d], M => match (lstOf M d).bind intsOf with
    | some ns => if ns.Nodup ∧ ns.length ≤ 4000 then .ok (.int ns.length) M else .no
    | none => .no
  | _, _ => .no
/-- len(set(e)) -/
theorem sn_lenSet {x y : Str} {e : Expr} {fe : FE} {p1 p2 q : Pos} (hc : X.calm = true) (hx : x = "len") (hy : y = "set") (hg : Gl X x) (hm : X.mg x = none) (hg2 : Gl X y) (hm2 : X.mg y = none) (ha : PE X e (tE ⟨X.K, cl⟩ E fe))
    (he2 : starEach [e] X.env = (false, eval e X.env) :: starEach [] X.env := by rfl) :
    PE X (.Call (.Name x p1) [.Call (.Name y p2) [e] [] q] [] pos) (tE ⟨X.K, cl⟩ E (mCall oLenSet (aCons fe aNil))) := by
  subst hx hy
  refine pe_imp (RZ.pe_lenSetI hg hm hg2 hm2 ha hc he2) fun σ H Q ⟨W, env, M, s, p⟩ => ?_
  have p' : PR ⟨X.K, cl⟩ W H (PV ⟨X.K, cl⟩ Q) E ((fe env M).bind fun d m => oLenSet [d] m) := by
    have : ((mCall oLenSet (aCons fe aNil)) env M) = (fe env M).bind fun d m => oLenSet [d] m := by
      show ((aCons fe aNil) env M).bind oLenSet = _
      exact aCons_bind
    rw [← this]; exact p
  refine tE.bind s p' fun d m1 W1 H1 u f1 s1 r1 p1 => ?_
  simp only [oLenSet] at p1
  split at p1
  · rename_i ns e1
    split at p1
    · rename_i hl
      cases q1 : lstOf m1 d with
      | none => rw [q1] at e1; cases e1
      | some l =>
        rw [q1] at e1
        obtain ⟨a1, vs, rfl, h2, h3⟩ := lstOf_ok s1.mem r1 q1
        have hv := intsOf_ok h3 e1
        subst hv
        exact ⟨a1, ns, rfl, h2, hl.1, hl.2, p1.here s1.mem _ rfl⟩
    · exact p1.elim
  · exact p1.elim
theorem mChain4_eq (o o' o'' : D → D → Mem → R D) (fa fb fc fd : FE) {env : Fn.Env} : mChain4 o o' o'' fa fb fc fd env M = (fa env M).bind fun x m => (fb env m).bind fun y m => (o x y m).bind fun z m => match z with
  | .bl true => (fc env m).bind fun w m => (o' y w m).bind fun z' m => match z' with
    | .bl true => (fd env m).bind fun u m => o'' w u m
    | .bl false => .ok (.bl false) m
    | _ => .no
  | .bl false => .ok (.bl false) m
  | _ => .no := rfl
end
end Fn

set_option Elab.async false
set_option linter.all false
set_option maxRecDepth 100000
set_option maxHeartbeats 1000000
/-! FnZip: zip of two lists or two tuples (by value), walked. -/
namespace Fn
open PySem PySem.Spec PyProof.Rows L2 L2.DX
def zipD (l m : List D) : List D := List.zipWith (fun x y => D.tup [x, y]) l m
theorem zipD_at {l m : List D} {i : Nat} {d : D} (e : (zipD l m)[i]? = some d) : ∃ x y, l[i]? = some x ∧ m[i]? = some y ∧ d = .tup [x, y] := by
  unfold zipD at e
  rw [List.getElem?_zipWith] at e
  cases h1 : l[i]? with
  | none => rw [h1] at e; cases e
  | some x =>
    cases h2 : m[i]? with
    | none => rw [h1, h2] at e; cases e
    | some y => rw [h1, h2] at e; cases e; exact ⟨x, y, rfl, rfl, rfl⟩
section
variable {X : Cx} {G : Gx} {cl : Nat → Addr} {E : XK} {W : Wd} {H : Hp} {M : Mem} {a b : Expr}
theorem src_zipT {l m : List D} {a1 b1 : Addr} {us vs : List V} (h1 : TupAt G H a1 l us) (r1 : RpL G W H l us) (h2 : TupAt G H b1 m vs) (r2 : RpL G W H m vs) : SrcOk G W H ⟨zipD l m, fun _ => True⟩ (RZ.ItzT G.K a1 b1) where
  item := fun W2 H2 M2 f lk mm _ i d e => by
    obtain ⟨x, y, e1, e2, rfl⟩ := zipD_at e
    obtain ⟨a', us', q1, s1, t1⟩ := Rp.kp f (.tup l) (.ref a1) ⟨a1, us, rfl, h1, r1⟩
    cases q1
    obtain ⟨b', vs', q2, s2, t2⟩ := Rp.kp f (.tup m) (.ref b1) ⟨b1, vs, rfl, h2, r2⟩
    cases q2
    obtain ⟨u, g1, k1⟩ := t1.get e1
    obtain ⟨v, g2, k2⟩ := t2.get e2
    refine ⟨⟨us', vs', u, v, s1.sq, s2.sq, g1, g2⟩, fun w H' z => ?_⟩
    obtain ⟨T, x', y', rfl, hT, rfl, z1, z2⟩ := z
    have z1 := z1 us' s1.sq
    have z2 := z2 vs' s2.sq
    rw [g1] at z1; cases z1
    rw [g2] at z2; cases z2
    have ft : Fut W2 H2 W2 (upd H2 T (.tup [u, v])) := Fut.laid hT
    exact ⟨ft, mm.laid hT, T, _, rfl, .inl upd_same, _, _, rfl, mm.rp ft k1, _, _, rfl, mm.rp ft k2, rfl⟩
  stop := fun W2 H2 M2 f lk mm _ => by
    obtain ⟨a', us', q1, s1, t1⟩ := Rp.kp f (.tup l) (.ref a1) ⟨a1, us, rfl, h1, r1⟩
    cases q1
    obtain ⟨b', vs', q2, s2, t2⟩ := Rp.kp f (.tup m) (.ref b1) ⟨b1, vs, rfl, h2, r2⟩
    cases q2
    refine ⟨us', vs', s1.sq, s2.sq, ?_⟩
    rw [t1.len, t2.len]
    have : (zipD l m).length = min l.length m.length := by unfold zipD; rw [List.length_zipWith]
    show l.length ≤ (zipD l m).length ∨ m.length ≤ (zipD l m).length
    omega
theorem src_zipL {l m : List D} {a1 b1 : Addr} {us vs : List V} (h1 : LstAt W H a1 us) (r1 : RpL G W H l us) (h2 : LstAt W H b1 vs) (r2 : RpL G W H m vs) : SrcOk G W H ⟨zipD l m, fun _ => True⟩ (Itz G.K a1 b1) where
  item := fun W2 H2 M2 f lk mm _ i d e => by
    obtain ⟨x, y, e1, e2, rfl⟩ := zipD_at e
    obtain ⟨a', us', q1, s1, t1⟩ := Rp.kp f (.lst l) (.ref a1) ⟨a1, us, rfl, h1, r1⟩
    cases q1
    obtain ⟨b', vs', q2, s2, t2⟩ := Rp.kp f (.lst m) (.ref b1) ⟨b1, vs, rfl, h2, r2⟩
    cases q2
    have s1 : SqL G.K H2 a1 us' := .inl (.inl s1.1)
    have s2 : SqL G.K H2 b1 vs' := .inl (.inl s2.1)
    obtain ⟨u, g1, k1⟩ := t1.get e1
    obtain ⟨v, g2, k2⟩ := t2.get e2
    refine ⟨⟨us', vs', u, v, s1, s2, g1, g2⟩, fun w H' z => ?_⟩
    obtain ⟨T, x', y', rfl, hT, rfl, z1, z2⟩ := z
    have z1 := z1 us' s1
    have z2 := z2 vs' s2
    rw [g1] at z1; cases z1
    rw [g2] at z2; cases z2
    have ft : Fut W2 H2 W2 (upd H2 T (.tup [u, v])) := Fut.laid hT
    exact ⟨ft, mm.laid hT, T, _, rfl, .inl upd_same, _, _, rfl, mm.rp ft k1, _, _, rfl, mm.rp ft k2, rfl⟩
  stop := fun W2 H2 M2 f lk mm _ => by
    obtain ⟨a', us', q1, s1, t1⟩ := Rp.kp f (.lst l) (.ref a1) ⟨a1, us, rfl, h1, r1⟩
    cases q1
    obtain ⟨b', vs', q2, s2, t2⟩ := Rp.kp f (.lst m) (.ref b1) ⟨b1, vs, rfl, h2, r2⟩
    cases q2
    refine ⟨us', vs', .inl (.inl s1.1), .inl (.inl s2.1), ?_⟩
    rw [t1.len, t2.len]
    have : (zipD l m).length = min l.length m.length := by unfold zipD; rw [List.length_zipWith]
    show l.length ≤ (zipD l m).length ∨ m.length ≤ (zipD l m).length
    omega
def iZip (fa : FA) : FI := fun env M => (fa env M).bind fun ds m => match ds with
  | [.lst l, .lst k] => .ok ⟨zipD l k, fun _ => True⟩ m
  | [.tup l, .tup k] => .ok ⟨zipD l k, fun _ => True⟩ m
  | _ => .no
theorem si_zip {g : FA} {p pos tpos : Pos} {elts : List Expr} {kk : Nat} (hg : Gl X "zip") (hm : X.mg "zip" = none) (ha : PA X [a, b] (tA G E g)) (hK : G.K = X.K := by rfl)
    (hs : starEach [a, b] X.env = (false, eval a X.env) :: starEach [b] X.env := by rfl) (hpl : (backTo pos (starEach [b] X.env)).any (·.1) = false := by rfl) :
    PI X (.Tuple elts kk tpos) (.Call (.Name "zip" p) [a, b] [] pos) (tI G E (iZip g)) := pi_imp (RZ.pi_zipA hg hm ha hs hpl) fun σ H Rr ⟨W, env, M, s, p⟩ => by
  refine tA.bind s p fun ds m W1 H1 us f1 s1 r1 p1 => ?_
  rw [← hK]
  split at p1
  · rename_i l k
    obtain ⟨u, us', rfl, ⟨a1, xs, rfl, q1, q2⟩, v, us2, rfl, ⟨b1, ys, rfl, q3, q4⟩, rfl⟩ := r1
    exact ⟨a1, b1, xs, ys, rfl, .inl ⟨.inl (.inl q1.1), .inl (.inl q3.1), p1.here s1.mem _ (src_zipL q1 q2 q3 q4) trivial⟩⟩
  · rename_i l k
    obtain ⟨u, us', rfl, ⟨a1, xs, rfl, q1, q2⟩, v, us2, rfl, ⟨b1, ys, rfl, q3, q4⟩, rfl⟩ := r1
    exact ⟨a1, b1, xs, ys, rfl, .inr ⟨q1.sq, q3.sq, p1.here s1.mem _ (src_zipT q1 q2 q3 q4) trivial⟩⟩
  · exact p1.elim
theorem iZip_eq (fa : FA) {env : Fn.Env} : iZip fa env M = (fa env M).bind fun ds m => match ds with
  | [.lst l, .lst k] => .ok ⟨zipD l k, fun _ => True⟩ m
  | [.tup l, .tup k] => .ok ⟨zipD l k, fun _ => True⟩ m
  | _ => .no := rfl
end
end Fn

set_option Elab.async false
set_option linter.all false
set_option maxRecDepth 100000
set_option maxHeartbeats 2000000
/-! FnG: defs that are called where no repr is under way (A.guards = some []). -/
namespace Fn
open PySem PySem.Spec PyProof.Rows L2
/-- what a def promises there -/
structure FnG (P : Program) (w : World) (K : PySem.W.Frag) (mg : Str → Option Value) (base : Heap) (CX : CXT) (k : Nat) (f : Addr) (fd : FuncData) (ps : List Str) (sp : Sp) : Prop where
  len : ∀ vs H Q E, sp vs H Q E → vs.length = ps.length
  run : ∀ (A : Around) (outer : List PySem.Env) (s : Shared) (H : Hp) (args : Args) (us : List Value) (vs : List V) (Q : VK) (E : XK), A.guards = some [] → Room k A → Env0 P w K mg base A outer s H → BindsTo s fd args (ps.zip us) → Vals vs us → sp vs H Q E →
    codeAny (model P w) A (.call (.ref f) args) (CR CX outer P w H s Q E) s
section
variable {P : Program} {w : World} {K : PySem.W.Frag} {mg : Str → Option Value} {base : Heap} {CX : CXT} {j k : Nat} {f : Addr} {fd : FuncData} {ps : List Str} {sp sp' : Sp}
theorem FnG.of (F : FnOk P w K mg base CX k f fd ps sp) : FnG P w K mg base CX k f fd ps sp := ⟨F.len, fun A outer s H args us vs Q E _ hr => F.run A outer s H args us vs Q E hr⟩
theorem FnG.imp (F : FnG P w K mg base CX k f fd ps sp) (h : ∀ vs H Q E, sp' vs H Q E → sp vs H Q E) : FnG P w K mg base CX k f fd ps sp' :=
  ⟨fun vs H Q E q => F.len vs H Q E (h _ _ _ _ q), fun A outer s H args us vs Q E hg hr he hb hv hs => F.run A outer s H args us vs Q E hg hr he hb hv (h _ _ _ _ hs)⟩
/-- a def by its body -/
theorem fn_ofG {name qual : Str} {params : Arguments} {body : List Stmt} {scope : Scope} {dV kV doc pm cdv ct oc : Value} {an od : Option Addr} {osl : Array (Option Value)} {N : List Str}
    (lk : K.lookup f = some ⟨oc, od, .func (PySem.W.fnOf name qual params body scope dV kV doc pm an cdv ct), osl⟩) (hcd : PySem.W.codeIn K cdv qual = true) (S : FnScope N ps scope)
    (len : ∀ vs H Q E, sp vs H Q E → vs.length = ps.length)
    (hbody : ∀ (A : Around) (outer : List PySem.Env) (s : Shared) (H : Hp) (vs : List V) (Q : VK) (E : XK), A.guards = some [] → Room k (A.deeper (envOfC qual scope s.heap.objs.size f cdv)) → sp vs H Q E →
      ∃ t, PSs (cxOf CX P w K mg base N qual scope f cdv A outer s H E) body t ∧ t { nx := fun _ H' => Q .non H', rt := Q } (L2.start N vs) H) :
    FnG P w K mg base CX (k + 1) f (PySem.W.fnOf name qual params body scope dV kV doc pm an cdv ct) ps sp := by
  refine ⟨len, fun A outer s H args us vs Q E hgd hr e0 hb r hsp => ?_⟩
  have sees : ∀ {b : Addr} {o : Obj}, base.get? b = some o → s.heap.get? b = some o := fun {b o} e => (e0.bs b o e).1
  have KX : K.In s.heap := e0.mod.kin.keeps fun b o e => sees e
  have lim : s.heap.NoLimit := e0.mod.nolimit.keeps fun b o e => sees e
  have place : ∀ y ∈ ps.zip us, scope.names.lookup y.1 = some .local ∨ (scope.names.lookup y.1 = some .cell ∧ ((cellsFrom (s.heap.objs.size + 1) scope.names []).lookup y.1).isSome = true) := fun y hy => by
    obtain ⟨n, v⟩ := y
    exact (S.par n (List.of_mem_zip hy).1).imp id fun q => ⟨q, PySem.W.cellsFrom_some _ _ _ (.inl q)⟩
  refine codeAny_call_function hr.depth (KX _ _ lk) rfl S.co S.gen rfl (PySem.W.codeRec_of KX hcd) (hb _ _ _ _ (wpAny_newFunctionEnv_cells S.kind place fun env he s1 x => ?_))
  subst he
  refine ⟨lim.keeps x.toInCall.keep, codeAny_func ?_⟩
  obtain ⟨t, ht, hq⟩ := hbody A outer s H vs Q E hgd (hr.deeper _) hsp
  refine wpAny_mono (ht.run [] s1 (L2.start N vs) H _ (inv_start S hr.hd e0 (len _ _ _ _ hsp) r x) hq) (fun fl s' hs => ?_) fun _ _ hs => hs
  cases fl with
  | ret u => obtain ⟨v, σ', H', J, rv, q⟩ := hs; exact ⟨v, H', J.os, J.bare, J.base, J.hok, rv, q⟩
  | next => obtain ⟨σ', H', J, q⟩ := hs; exact ⟨.non, H', J.os, J.bare, J.base, J.hok, rfl, q⟩
  | brk => obtain ⟨_, _, _, q⟩ := hs; exact q.elim
  | cont => obtain ⟨_, _, _, q⟩ := hs; exact q.elim
theorem fn_defG {x qual : Str} {st : Stmt} {N : List Str} {g : FD} {B : FS} {cl : Nat → Addr} (F : Fun K x qual st f fd) (S : FnScope N ps (defScope st))
    (hbody : ∀ (cdv : Value) (A : Around) (outer : List PySem.Env) (s : Shared) (H : Hp) (E : XK), A.guards = some [] → Room k (A.deeper (envOfC qual (defScope st) s.heap.objs.size f cdv)) →
      PSs (cxOf CX0 P w K mg base N qual (defScope st) f cdv A outer s H E).nox (defBody st) (tS ⟨K, cl⟩ E B))
    (href : ∀ ds M, ds.length = ps.length → Ref M (g ds M) (B (envStart N.length ds) M)) : FnG P w K mg base CX0 (k + 1) f fd ps (spOf ⟨K, cl⟩ ps.length g) := by
  obtain ⟨oc, od, kV, doc, pm, an, cdv, ct, osl, rfl, lk, hcd⟩ := F.ex
  refine fn_ofG lk hcd S (fun vs H Q E ⟨W, M, ds, m, r, hl, _⟩ => by rw [r.len, hl]) fun A outer s H vs Q E hgd hr ⟨W, M, ds, m, r, hl, p⟩ => ?_
  exact ⟨_, (hbody cdv A outer s H E hgd hr).nox, W, envStart N.length ds, M, ⟨m, envStart_ok r⟩, href ds M hl _ W H Q E m p⟩
end
section
variable {X : Cx} {CX : CXT} {cl : Nat → Addr} {k n : Nat} {f : Addr} {fd : FuncData} {ps : List Str} {g : FD} {sp : Sp} {dvs : List V} {dd : List D} {ds : List Value} {E : XK} {x : Str} {p pos : Pos} {e : Expr} {es : List Expr} {ga : FA} {t : TA}
theorem pe_callG (F : FnG X.prog X.w X.K X.mg X.base CX k f fd ps sp) (hgd : X.A.guards = some []) (hr : Room k X.A) (hg : Gl X x) (hm : X.mg x = some (.ref f)) (hk : PySem.W.keepIn X.K (.ref f) = true) (hb : Binds X.K fd ps ds) (hd : Vals dvs ds) (hx : Passes CX X E)
    (ha : PA X (e :: es) t) (hdb : (x == ("__debug__" : Str)) = false) (he : starEach (e :: es) X.env = (false, eval e X.env) :: starEach es X.env) (hpl : (backTo pos (starEach es X.env)).any (·.1) = false) :
    PE X (.Call (.Name x p) (e :: es) [] pos) (tCall sp dvs E t) := by
  refine ⟨fun pins s σ H Q I h => ?_⟩
  refine wpAny_Call_Name_kw (ld_glob I hg hm ?_ hdb)
  refine PySem.W.callWith_K (h₀ := X.base) I.ok.mod.kin hk (thn (ha.run pos pins s σ H _ I h) fun us s1 ⟨vs, H1, I1, r, q⟩ => ⟨I1.kIn, ?_⟩) he hpl
  have r2 : Vals (vs ++ dvs) (us ++ ds) := r.append hd
  have hl : (us ++ ds).length = ps.length := r2.length.symm.trans (F.len _ _ _ _ q)
  refine wpAny_call (codeAny_mono (F.run X.A X.stack s1 H1 ⟨us, []⟩ (us ++ ds) (vs ++ dvs) Q E hgd hr I1.env0 (hb s1 us I1.kIn hl) r2 q) fun z s' hq => ?_)
  cases z with
  | error z => exact hx pins σ H1 s1 z s' I1 hq
  | ok fl =>
    cases fl with
    | ret u => exact I1.after hq
    | next => exact hq.elim
    | brk => exact hq.elim
    | cont => exact hq.elim
theorem sn_callG (F : FnG X.prog X.w X.K X.mg X.base CX k f fd ps (spOf ⟨X.K, cl⟩ n g)) (hgd : X.A.guards = some []) (hr : Room k X.A) (hg : Gl X x) (hm : X.mg x = some (.ref f)) (hk : PySem.W.keepIn X.K (.ref f) = true) (hb : Binds X.K fd ps ds) (hd : Vals dvs ds) (hc : Closed dd dvs) (hx : Passes CX X E)
    (ha : PA X (e :: es) (tA ⟨X.K, cl⟩ E ga)) (hdb : (x == ("__debug__" : Str)) = false := by decide) (he : starEach (e :: es) X.env = (false, eval e X.env) :: starEach es X.env := by rfl) (hpl : (backTo pos (starEach es X.env)).any (·.1) = false := by rfl) :
    PE X (.Call (.Name x p) (e :: es) [] pos) (tE ⟨X.K, cl⟩ E (mFun n g dd ga)) := pe_imp (pe_callG F hgd hr hg hm hk hb hd hx ha hdb he hpl) (fun_reads (E' := E) hc)
end
end Fn

set_option Elab.async false
set_option linter.all false
set_option maxRecDepth 100000
set_option maxHeartbeats 2000000
/-! FnGE: the end of a law whose def is promised where no repr is under way. -/
namespace Fn
open PySem PySem.Spec PyProof.Rows L2
/-- the law's call at the top: no guards there -/
theorem law_callG {P : Program} {w : World} {K : PySem.W.Frag} {mg mb : Str → Option Value} {CX : CXT} {k : Nat} {fa a : Addr} {fd : FuncData} {x : Str} {sp : Sp} {s₁ : Shared} {vs : List Value} {ns : List Int}
    (KX : K.In s₁.heap) (hns : s₁.heap.Ns mainGlobals mg) (hb : s₁.heap.Ns builtinsNs mb) (hbb : ∀ x : Str, x ≠ "__name__" → mb x = bootBuiltins x) (hlim : s₁.heap.NoLimit) (hg : s₁.gens = #[])
    (ha : s₁.heap.get? a = some { cls := .type "list", data := .seq vs.toArray }) (hi : IntsAre vs ns) (hl : ns.length ≤ sizeLine) (hr : Room k callerA)
    (F : ∀ base : Heap, K.In base → base.Ns mainGlobals mg → FnG P w K mg base CX k fa fd [x] sp) (hbind : ∀ (s : Shared) (u : Value), BindsTo s fd ⟨[u], []⟩ [(x, u)])
    (hsp : ∀ H : Hp, Only H → SqL K H a (ns.map V.int) → sp [.ref a] H (fun v _ => v = .bl true) fun _ _ _ => False)
    (hCX : ∀ H e s', CX [] H s₁ (fun _ _ _ => False) e s' → False) :
    codeAny (model P w) callerA (.call (.ref fa) ⟨[.ref a], []⟩) (fun r s' => r = .ok (.ret (.bool true)) ∧ OldK s₁.heap s'.heap ∧ s'.os = s₁.os ∧ AllBare s'.gens) s₁ := by
  -- what is tracked: the script alone, if it is none of the module's own
  obtain ⟨H, hO, hS, hok, hA, hK⟩ : ∃ H : Hp, Only H ∧ SqL K H a (ns.map V.int) ∧ HOk P w H s₁.heap ∧ (∀ b, H b ≠ none → b = a) ∧ (H a ≠ none → K.lookup a = none) := by
    cases hk : K.lookup a with
    | some o =>
      have e := KX a o hk
      rw [ha] at e
      cases e
      exact ⟨fun _ => none, fun _ => .inl rfl, .inr ⟨_, vs.toArray, _, hk, rfl, rfl, rfl, by rw [List.size_toArray, hi.length]; exact hl, by simpa using vals_ints hi⟩, fun b u z => (by cases z), fun b z => absurd rfl z, fun z => absurd rfl z⟩
    | none =>
      refine ⟨fun b => if b = a then some (.frz { cls := .type "list", data := .seq vs.toArray } (.lst (ns.map V.int))) else none, fun b => ?_, .inl (.inr ⟨_, if_pos rfl⟩), fun b u z => ?_, fun b z => ?_, fun _ => rfl⟩
      · by_cases h : b = a
        · exact .inr ⟨_, _, if_pos h⟩
        · exact .inl (if_neg h)
      · by_cases h : b = a
        · have z' := (if_pos h).symm.trans z
          cases z'
          subst h
          exact ⟨ha, by rw [List.length_map]; exact hl, vs, _, vals_ints hi, ha⟩
        · cases (if_neg h).symm.trans z
      · exact Classical.byContradiction fun h => z (if_neg h)
  have dictNone : ∀ {b : Addr} {o : Obj} {es : Array DictEntry} {ep : Nat}, s₁.heap.get? b = some o → o.data = .dict es ep → H b = none := fun {b o es ep} e d => Classical.byContradiction fun q => by
    rw [hA b q, ha] at e
    cases e
    cases d
  have ns' : ∀ {b : Addr} {m : Str → Option Value}, s₁.heap.Ns b m → (hidT s₁.heap H).Ns b m := fun {b m} ⟨o, es, ep, e, d, r⟩ => ⟨o, es, ep, hidT_get e (dictNone e d), d, r⟩
  have kin : K.In (hidT s₁.heap H) := fun b o e => hidT_get (KX b o e) (Classical.byContradiction fun q => by
    have h := hA b q
    subst h
    rw [hK q] at e
    cases e)
  obtain ⟨mc, m1, m2⟩ := hlim
  have e0 : Env0 P w K mg (hidT s₁.heap H) callerA [] s₁ H :=
    ⟨rfl, ⟨kin, ns' hns, ⟨mb, ns' hb, hbb⟩, mc, ns' m1, m2⟩, fun b o e => of_hidT e, Nat.le_of_eq (hidT_size _ _), trivial, fun b hb => absurd (show b ∈ ([] : List Addr) from hb) (by simp), hok, .of_eq hg⟩
  refine codeAny_mono ((F _ kin (ns' hns)).run callerA [] s₁ H ⟨[.ref a], []⟩ [.ref a] [.ref a] _ _ rfl hr e0 (hbind s₁ (.ref a)) (.cons rfl .nil) (hsp H hO hS)) fun r s' h => ?_
  cases r with
  | error e => exact (hCX H e s' h).elim
  | ok fl =>
    cases fl with
    | next => exact h.elim
    | brk => exact h.elim
    | cont => exact h.elim
    | ret u =>
      obtain ⟨v, H', os, bare, un, hok', r', q⟩ := h
      have q' : v = .bl true := q
      subst q'
      obtain rfl : u = Value.bool true := r'
      refine ⟨rfl, OldK.of_keep fun b o e => ?_, os, bare⟩
      rcases hO b with z | ⟨ob, xs, z⟩
      · exact un.keep b o e z (by intro y; exact absurd (show b ∈ ([] : List Addr) from y) (by simp)) (by simp)
      · have e1 := (hok b _ z).1
        rw [e] at e1
        cases e1
        exact (hok' b _ (un.frzs b _ _ z)).1
theorem walk_ofG {l : PySem.W.OpenLaw} {n k : Nat} {q : Program} {loose : List Str} {XP : (Str → Option Value) → Heap → Prop} {YP : World → Heap → Prop} {d : DefRec} {K : Params → PySem.W.Frag} {CX : World → CXT} {sp : World → Sp} {x : Str}
    (hn : l.most = some n) (hn2 : n ≤ sizeLine) (hdf : d.params.defaults = []) (hr : Room k callerA)
    (hY : ∀ (w : World) (h : Heap), YP w h → (K w.params).In h)
    (F : ∀ (w : World) (mg : Str → Option Value) (fa : Addr) (h : Heap), (K w.params).In h → h.Ns mainGlobals mg → mg d.name = some (.ref fa) →
      ∃ fd : FuncData, (∀ (s : Shared) (u : Value), BindsTo s fd ⟨[u], []⟩ [(x, u)]) ∧
        ∀ base : Heap, (K w.params).In base → base.Ns mainGlobals mg → FnG l.prog w (K w.params) mg base (CX w) k fa fd [x] (sp w))
    (hsp : ∀ (w : World) (H : Hp) (a : Addr) (ns : List Int), ns.length ≤ n → Only H → SqL (K w.params) H a (ns.map V.int) → sp w [.ref a] H (fun v _ => v = .bl true) fun _ _ _ => False)
    (hCX : ∀ (w : World) (H : Hp) (s : Shared) (e : Value) (s' : Shared), CX w [] H s (fun _ _ _ => False) e s' → False) :
    PySem.W.WalkO q loose XP YP l.row.toRowW d [] (fun f vs => PySem.call f vs) := by
  refine Att.attach_call hn hdf fun w s₀ s₁ mg mb fa o pm cd doc a vs ns G Y ho hd hcd hmg hobj hints hlen hg => ?_
  have KX := hY w _ Y
  obtain ⟨fd, hb, hF⟩ := F w mg fa _ KX G.T.g hmg
  exact law_callG KX G.T.g G.T.b G.T.builtins G.T.nolimit hg hobj hints (Nat.le_trans hlen hn2) hr hF hb (fun H hO hS => hsp w H a ns hlen hO hS) fun H e s' => hCX w H s₁ e s'
end Fn

set_option Elab.async false
set_option linter.all false
set_option maxRecDepth 100000
set_option maxHeartbeats 1000000
/-! FnRep: repr of plain data, through lists and dicts in cells. -/
namespace Fn
open PySem PySem.Spec PyProof.Rows L2
/-! ### what repr reads -/
def keyP : Key → PyData
  | .inl i => .int i
  | .inr x => .str x
mutual
inductive Dq (K : PySem.W.Frag) (H : Hp) : V → PyData → Prop
  | non : Dq K H .non .none
  | bl (b : Bool) : Dq K H (.bl b) (.bool b)
  | int (i : Int) : Dq K H (.int i) (.int i)
  | str (x : Str) : Dq K H (.str x) (.str x)
  | lst {a : Addr} {xs : List V} {ds : List PyData} : SqL K H a xs → DqAll K H xs ds → Dq K H (.ref a) (.list ds)
  | tup {a : Addr} {xs : List V} {ds : List PyData} : SqT K H a xs → DqAll K H xs ds → Dq K H (.ref a) (.tuple ds)
  | dct {a : Addr} {kvs : List (Key × V)} {ds : List (PyData × PyData)} : H a = some (.dK kvs) → DqKv K H kvs ds → Dq K H (.ref a) (.dict ds)
inductive DqAll (K : PySem.W.Frag) (H : Hp) : List V → List PyData → Prop
  | nil : DqAll K H [] []
  | cons {v : V} {vs : List V} {d : PyData} {ds : List PyData} : Dq K H v d → DqAll K H vs ds → DqAll K H (v :: vs) (d :: ds)
inductive DqKv (K : PySem.W.Frag) (H : Hp) : List (Key × V) → List (PyData × PyData) → Prop
  | nil : DqKv K H [] []
  | cons {k : Key} {v : V} {vs : List (Key × V)} {d : PyData} {ds : List (PyData × PyData)} : Dq K H v d → DqKv K H vs ds → DqKv K H ((k, v) :: vs) ((keyP k, d) :: ds)
end
mutual
/-- no list in it -/
def noL : PyData → Bool
  | .list _ => false
  | .tuple xs => noLAll xs
  | .dict kvs => noLKv kvs
  | _ => true
def noLAll : List PyData → Bool
  | [] => true
  | x :: xs => noL x && noLAll xs
def noLKv : List (PyData × PyData) → Bool
  | [] => true
  | (_, v) :: r => noL v && noLKv r
end
section
variable {X : Cx} {pins : List (Addr × Obj)} {σ : L2.St} {H : Hp} {s : Shared}
theorem pairs_reads {P : Program} {w : World} {h : Heap} : ∀ {es : List DictEntry} {ws : List (Key × Value)}, Pairs (mixKind P w) es ws → ReadsAll h (es.map (·.key)) (ws.map fun kv => keyP kv.1) [] ∧ es.map (·.val) = ws.map (·.2)
  | [], _, .nil => ⟨.nil, rfl⟩
  | e :: es, (k, v) :: ws, .cons h1 h2 h3 => by
    obtain ⟨i1, i2⟩ := pairs_reads h3
    have h1 : keyIs k e.key = true := h1
    refine ⟨?_, by rw [List.map_cons, List.map_cons, i2, h2]⟩
    rcases keyIs_shape h1 with ⟨i, t, e1, e2⟩ | ⟨x, t, e1, e2⟩
    · subst e1
      rw [List.map_cons, e2]
      exact ReadsAll.cons (as := []) (bs := []) (.int i t) i1
    · subst e1
      rw [List.map_cons, e2]
      exact ReadsAll.cons (as := []) (bs := []) (.str x t) i1
mutual
theorem Dq.reads (I : Inv X pins σ H s) : ∀ (d : PyData) (v : V) (u : Value), Dq X.K H v d → RelV v u → ∃ as, Reads s.heap u d as ∧ (noL d = true → sysModules ∉ as)
  | .none, _, _, h, r => by cases h; cases r; exact ⟨_, .none, fun _ => by simp⟩
  | .bool b, _, _, h, r => by cases h; cases r; exact ⟨_, .bool b, fun _ => by simp⟩
  | .int i, _, _, h, r => by cases h; obtain ⟨t, rfl⟩ := r; exact ⟨_, .int i t, fun _ => by simp⟩
  | .str x, _, _, h, r => by cases h; obtain ⟨t, rfl⟩ := r; exact ⟨_, .str x t, fun _ => by simp⟩
  | .list ds, _, _, h, r => by
    cases h with
    | lst hs ha =>
      cases r
      obtain ⟨its, rv, ⟨o, n, ho, hc, _, hd⟩, _⟩ := I.list hs
      obtain ⟨as, hr, _⟩ := Dq.readsAll I ds _ its ha rv
      exact ⟨_, .list ho hc hd hr, fun z => by simp [noL] at z⟩
  | .tuple ds, _, _, h, r => by
    cases h with
    | tup hs ha =>
      cases r
      obtain ⟨its, rv, ⟨o, ho, hc, n, hd⟩, _⟩ := I.tuple hs
      obtain ⟨as, hr, hm⟩ := Dq.readsAll I ds _ its ha rv
      exact ⟨_, .tuple ho hc hd hr, fun z => hm (by simpa only [noL] using z)⟩
  | .dict ds, _, _, h, r => by
    cases h with
    | dct hs ha =>
      cases r
      obtain ⟨_, hsys, ws, kv, o, es, ep, ho, hx, hdt, _, hp, _⟩ := I.hok _ _ hs
      obtain ⟨p1, p2⟩ := pairs_reads (h := s.heap) hp
      obtain ⟨as, hr, hm, hk⟩ := Dq.readsKv I ds _ ws ha kv
      rw [hk] at p1
      rw [← p2] at hr
      refine ⟨_, .dict ho hx.1 hdt p1 hr, fun z => ?_⟩
      have hm := hm (by simpa only [noL] using z)
      simp only [List.append_nil, List.cons_append, List.nil_append, List.mem_cons, not_or]
      exact ⟨fun e => by rw [← e] at hsys; simp at hsys, hm⟩
theorem Dq.readsAll (I : Inv X pins σ H s) : ∀ (ds : List PyData) (vs : List V) (us : List Value), DqAll X.K H vs ds → Vals vs us → ∃ as, ReadsAll s.heap us ds as ∧ (noLAll ds = true → sysModules ∉ as)
  | [], _, _, h, r => by cases h; cases r; exact ⟨_, .nil, fun _ => by simp⟩
  | d :: ds, _, _, h, r => by
    cases h with
    | cons h1 h2 =>
      cases r with
      | cons r1 r2 =>
        obtain ⟨as, q1, m1⟩ := Dq.reads I d _ _ h1 r1
        obtain ⟨bs, q2, m2⟩ := Dq.readsAll I ds _ _ h2 r2
        refine ⟨_, .cons q1 q2, fun z => ?_⟩
        simp only [noLAll, Bool.and_eq_true] at z
        rw [List.mem_append, not_or]
        exact ⟨m1 z.1, m2 z.2⟩
theorem Dq.readsKv (I : Inv X pins σ H s) : ∀ (ds : List (PyData × PyData)) (vs : List (Key × V)) (us : List (Key × Value)), DqKv X.K H vs ds → KV vs us → ∃ as, ReadsAll s.heap (us.map (·.2)) (ds.map (·.2)) as ∧ (noLKv ds = true → sysModules ∉ as) ∧ (us.map fun kv => keyP kv.1) = ds.map (·.1)
  | [], _, _, h, r => by cases h; cases r; exact ⟨_, .nil, fun _ => by simp, rfl⟩
  | (_, d) :: ds, _, _, h, r => by
    cases h with
    | cons h1 h2 =>
      cases r with
      | cons r1 r2 =>
        obtain ⟨as, q1, m1⟩ := Dq.reads I d _ _ h1 r1.2
        obtain ⟨bs, q2, m2, k2⟩ := Dq.readsKv I ds _ _ h2 r2
        refine ⟨_, .cons q1 q2, fun z => ?_, by rw [List.map_cons, List.map_cons, k2, ← r1.1]⟩
        simp only [noLKv, Bool.and_eq_true] at z
        rw [List.mem_append, not_or]
        exact ⟨m1 z.1, m2 z.2⟩
end
end
/-- what may be shown -/
def showOk (p : PyData) : Prop := p.showable = true ∧ p.leavesShort 13 = true ∧ p.weight ≤ 2 ^ 20 ∧ p.depth ≤ 60 ∧ (p.hasDict = true → noL p = true)
instance (p : PyData) : Decidable (showOk p) := by unfold showOk; infer_instance
def rRepr (K : PySem.W.Frag) : List V → Hp → VK → Prop := fun xs H Q => ∃ x d, xs = [x] ∧ Dq K H x d ∧ showOk d ∧ Q (.str d.shown) H
theorem cr_repr {X : Cx} (hgd : X.A.guards = some []) (hu : X.A.units + 64 < cLine) : CallR X (.builtin "repr") (rRepr X.K) := by
  intro pins s σ H xs us Q I r h
  obtain ⟨x, d, rfl, hd, ⟨hs, hl, hw, hdp, hn⟩, q⟩ := h
  obtain ⟨u, rfl, ru⟩ := vals1 r
  have hz := PyData.shown_fits (B := 13) (by omega) (by omega) hl hw
  cases hd with
  | non =>
    cases ru
    exact PySem.P.repr_of_none ⟨.str _, H, I.tok _, ⟨_, rfl⟩, q⟩
  | bl b =>
    cases ru
    exact PySem.P.repr_of_bool ⟨.str _, H, I.tok _, ⟨_, rfl⟩, q⟩
  | int i =>
    obtain ⟨t, rfl⟩ := ru
    exact PySem.P.repr_of_int (by simpa [PyData.showable] using hs) ⟨.str _, H, I.tok _, ⟨_, rfl⟩, q⟩
  | str y =>
    obtain ⟨t, rfl⟩ := ru
    exact PySem.P.repr_of_str ⟨.str _, H, I.tok _, ⟨_, rfl⟩, q⟩ hz
  | lst h1 h2 =>
    cases ru
    obtain ⟨as, hr, hm⟩ := Dq.reads I _ _ _ (.lst h1 h2) rfl
    exact repr_of_reads' hr hs (fun z => hm (hn z)) hgd (by omega) (fun _ _ e => e) (fun h' t tk k => ⟨.str _, H, I.kept (t' := tk) k, ⟨t, rfl⟩, q⟩) hz
  | tup h1 h2 =>
    cases ru
    obtain ⟨as, hr, hm⟩ := Dq.reads I _ _ _ (.tup h1 h2) rfl
    exact repr_of_reads' hr hs (fun z => hm (hn z)) hgd (by omega) (fun _ _ e => e) (fun h' t tk k => ⟨.str _, H, I.kept (t' := tk) k, ⟨t, rfl⟩, q⟩) hz
  | dct h1 h2 =>
    cases ru
    obtain ⟨as, hr, hm⟩ := Dq.reads I _ _ _ (.dct h1 h2) rfl
    exact repr_of_reads' hr hs (fun z => hm (hn z)) hgd (by omega) (fun _ _ e => e) (fun h' t tk k => ⟨.str _, H, I.kept (t' := tk) k, ⟨t, rfl⟩, q⟩) hz
/-! ### the model -/
def keyPK : KK → PyData
  | .inl i => .int i
  | .inr x => .str (l2s x)
def kvGo (k : Nat → Option PyData) : List (KK × D) → Option (List (PyData × PyData))
  | [] => some []
  | (c, d) :: r => match pyGo k d, kvGo k r with
    | some a, some b => some ((keyPK c, a) :: b)
    | _, _ => none
/-- a cell that holds a list or a dict, to the depth n -/
def kR (M : Mem) : Nat → Nat → Option PyData
  | 0, _ => none
  | n + 1, i => match M[i]? with
    | some (.lst l) => (pyGoL (kR M n) l).map .list
    | some (.dk false kvs) => (kvGo (kR M n) kvs).map .dict
    | _ => none
def pyR (M : Mem) (d : D) : Option PyData := pyGo (kR M 4) d
section
variable {G : Gx} {W : Wd} {H : Hp} {M : Mem} {E : XK}
mutual
theorem pyGo_q {k : Nat → Option PyData} (hk : ∀ i a p, W.as[i]? = some a → k i = some p → Dq G.K H (.ref a) p) : ∀ {d : D} {u : V} {p : PyData}, Rp G W H d u → pyGo k d = some p → Dq G.K H u p
  | .non, u, p, r, e => by cases r; cases e; exact .non
  | .bl b, u, p, r, e => by cases r; cases e; exact .bl b
  | .int i, u, p, r, e => by cases r; cases e; exact .int i
  | .str x, u, p, r, e => by cases r; cases e; exact .str _
  | .tup l, u, p, r, e => by
    obtain ⟨a, us, e1, s1, r1⟩ := r
    subst e1
    simp only [pyGo] at e
    cases q : pyGoL k l with
    | none => rw [q] at e; cases e
    | some ps => rw [q] at e; cases e; exact .tup s1.sq (pyGoL_q hk r1 q)
  | .lst l, u, p, r, e => by
    obtain ⟨a, us, e1, s1, r1⟩ := r
    subst e1
    simp only [pyGo] at e
    cases q : pyGoL k l with
    | none => rw [q] at e; cases e
    | some ps => rw [q] at e; cases e; exact .lst (.inl (.inl s1.1)) (pyGoL_q hk r1 q)
  | .fz l, u, p, r, e => by
    obtain ⟨a, us, e1, s1, r1⟩ := r
    subst e1
    simp only [pyGo] at e
    cases q : pyGoL k l with
    | none => rw [q] at e; cases e
    | some ps =>
      rw [q] at e; cases e
      exact .lst (s1.elim (fun z => .inl (.inr z)) .inr) (pyGoL_q hk r1 q)
  | .ref i, u, p, r, e => by
    obtain ⟨a, h1, rfl⟩ := r
    exact hk i a p h1 e
theorem pyGoL_q {k : Nat → Option PyData} (hk : ∀ i a p, W.as[i]? = some a → k i = some p → Dq G.K H (.ref a) p) : ∀ {l : List D} {us : List V} {ps : List PyData}, RpL G W H l us → pyGoL k l = some ps → DqAll G.K H us ps
  | [], us, ps, r, e => by have : us = [] := r; subst this; cases e; exact .nil
  | d :: l, us, ps, r, e => by
    obtain ⟨u, us', e1, r1, r2⟩ := r
    subst e1
    simp only [pyGoL] at e
    split at e
    · rename_i a b h1 h2
      cases e
      exact .cons (pyGo_q hk r1 h1) (pyGoL_q hk r2 h2)
    · cases e
end
theorem kvGo_q {k : Nat → Option PyData} (hk : ∀ i a p, W.as[i]? = some a → k i = some p → Dq G.K H (.ref a) p) : ∀ {kvs : List (KK × D)} {vs : List (Key × V)} {ps : List (PyData × PyData)}, RpK G W H kk kvs vs → kvGo k kvs = some ps → DqKv G.K H vs ps
  | [], _, ps, .nil, e => by cases e; exact .nil
  | (c, d) :: l, (c', v) :: vs, ps, .cons h t, e => by
    simp only [kvGo] at e
    split at e
    · rename_i a b h1 h2
      cases e
      have hc : kk c = c' := h.1
      have : keyPK c = keyP c' := by rw [← hc]; cases c <;> rfl
      rw [this]
      exact .cons (pyGo_q hk h.2 h1) (kvGo_q hk t h2)
    · cases e
theorem kR_q (m : MemOk G W H M) : ∀ (n i : Nat) (a : Addr) (p : PyData), W.as[i]? = some a → kR M n i = some p → Dq G.K H (.ref a) p
  | 0, i, a, p, e1, e => by cases e
  | n + 1, i, a, p, e1, e => by
    simp only [kR] at e
    split at e
    · rename_i l hc
      obtain ⟨us, h1, h2⟩ := m.cell i _ a hc e1
      cases q : pyGoL (kR M n) l with
      | none => rw [q] at e; cases e
      | some ps => rw [q] at e; cases e; exact .lst (.inl (.inl h1)) (pyGoL_q (kR_q m n) h2 q)
    · rename_i kvs hc
      obtain ⟨vs, h1, h2⟩ := m.cell i _ a hc e1
      have h1 : H a = some (.dK vs) := h1
      cases q : kvGo (kR M n) kvs with
      | none => rw [q] at e; cases e
      | some ps => rw [q] at e; cases e; exact .dct h1 (kvGo_q (kR_q m n) h2 q)
    · cases e
def oRepr : List D → Mem → R D
  | [d], M => match pyR M d with
    | some p => if showOk p then .ok (.str p.shown.cps.toList) M else .no
    | none => .no
  | _, _ => .no
theorem fn_repr : Fn1 G E (rRepr G.K) oRepr := fun W H M ds us Q m r p => by
  unfold oRepr at p
  split at p
  · rename_i d
    obtain ⟨u, e1, r1⟩ := rp_one r
    subst e1
    split at p
    · rename_i q e
      split at p
      · rename_i hs
        refine ⟨u, q, rfl, pyGo_q (kR_q m 4) r1 e, hs, p.here m _ ?_⟩
        show V.str q.shown = V.str (l2s q.shown.cps.toList)
        rfl
      · exact p.elim
    · exact p.elim
  · exact p.elim
end
end Fn

set_option Elab.async false
set_option linter.all false
set_option maxRecDepth 100000
set_option maxHeartbeats 1000000
/-! FnDcv: list(d.items()), dict(a list of pairs). -/
namespace Fn
open PySem PySem.Spec PyProof.Rows L2 L2.DX
section
variable {X : Cx} {G : Gx} {cl : Nat → Addr} {E : XK} {W : Wd} {H H' : Hp} {M : Mem} {e : Expr} {fe : FE}
theorem Fut.more (h : ∀ b o, H b = some o → H' b = some o) : Fut W H W H' := ⟨⟨[], by simp, by simp⟩, rfl, fun a u e _ => h a u e, fun a od u e => h a _ e⟩
theorem MemOk.more (m : MemOk G W H M) (h : ∀ b o, H b = some o → H' b = some o) : MemOk G W H' M :=
  ⟨m.len, m.nd, fun i c a e1 e2 => by
    have k := m.cell i c a e1 e2
    obtain ⟨u, hu, _⟩ := k.there
    exact k.fut m (Fut.more h) (by rw [h a u hu, hu]), m.apart, fun a ha => by
    obtain ⟨u, hu⟩ := m.hid a ha
    exact ⟨u, h a u hu⟩⟩
/-! ### list(d.items()) -/
def itemsD (kvs : List (KK × D)) : List D := kvs.map fun kv => .tup [keyD kv.1, kv.2]
def oItems : List D → Mem → R D
  | [.ref i], M => match M[i]? with
    | some (.dk false kvs) => .ok (.lst (itemsD kvs)) M
    | _ => .no
  | _, _ => .no
theorem items_rp {kvs : List (KK × D)} {vs : List (Key × V)} {ts : List Addr} (m : MemOk G W H M) (f : Fut W H W H') (r : RpK G W H kk kvs vs) (h : Paired (fun (t : Addr) (q : Key × V) => H' t = some (.tup [kV q.1, q.2])) ts vs) : RpL G W H' (itemsD kvs) (ts.map V.ref) := by
  induction r generalizing ts with
  | nil => cases h; exact (rfl : ([] : List V) = [])
  | cons r1 r2 ih =>
    rename_i p q ps qs
    cases h with
    | cons h1 h2 =>
      refine ⟨_, _, rfl, ⟨_, _, rfl, .inl h1, _, _, rfl, ?_, _, _, rfl, m.rp f r1.2, rfl⟩, ih h2⟩
      rw [← r1.1]; exact keyD_rp _
theorem sn_listItems {x : Str} {p apos cpos pos : Pos} (hc : X.calm = true) (hx : x = "list") (hg : Gl X x) (hm : X.mg x = none) (ha : PE X e (tE ⟨X.K, cl⟩ E fe)) (hbase : attributeBase e "items" X.env (eval e X.env) = eval e X.env := by rfl) (hline : (apos.endLine == cpos.line) = true := by rfl)
    (hs : starEach [.Call (.Attribute e "items" apos) [] [] cpos] X.env = (false, eval (.Call (.Attribute e "items" apos) [] [] cpos) X.env) :: starEach [] X.env := by rfl) :
    PE X (.Call (.Name x p) [.Call (.Attribute e "items" apos) [] [] cpos] [] pos) (tE ⟨X.K, cl⟩ E (mCall oItems (aCons fe aNil))) := by
  subst hx
  refine pe_imp (LiI.pe_listItems hc ha hg hm (by decide +kernel) hbase hline hs) fun σ H Q ⟨W, env, M, s, p⟩ => ?_
  have p' : PR ⟨X.K, cl⟩ W H (PV ⟨X.K, cl⟩ Q) E ((fe env M).bind fun d m => oItems [d] m) := by
    have : ((mCall oItems (aCons fe aNil)) env M) = (fe env M).bind fun d m => oItems [d] m := by
      show ((aCons fe aNil) env M).bind oItems = _
      exact aCons_bind
    rw [← this]; exact p
  refine tE.bind s p' fun d m1 W1 H1 u f1 s1 r1 p1 => ?_
  unfold oItems at p1
  split at p1
  · rename_i i heq
    cases heq
    obtain ⟨a1, h1, rfl⟩ := r1
    split at p1
    · rename_i kvs hcell
      obtain ⟨vs, q1, q2⟩ := s1.mem.cell _ _ a1 hcell h1
      have q1 : H1 a1 = some (.dK vs) := q1
      refine ⟨a1, vs, rfl, q1, fun H' q ts k1 k2 k3 k4 k5 k6 => ?_⟩
      have f : Fut W1 H1 W1 H' := Fut.more k1
      refine p1 W1 H' f (s1.mem.more k1) _ ⟨q, _, rfl, ⟨k5, (s1.mem.fresh k2).1, (s1.mem.fresh k2).2⟩, items_rp s1.mem f q2 k6⟩
    · exact p1.elim
  · exact p1.elim
/-! ### dict(xs) -/
def prsOf : List D → Option (List (KK × D))
  | [] => some []
  | .tup [k, v] :: r => match keyK k, prsOf r with
    | some c, some ps => some ((c, v) :: ps)
    | _, _ => none
  | _ => none
theorem keyK_kV {k : D} {c : KK} {u : V} (h : keyK k = some c) (r : Rp G W H k u) : u = kV (kk c) := by
  cases k <;> first
    | (cases h; done)
    | (cases h; exact r)
theorem prs_ok : ∀ {l : List D} {us : List V} {ps : List (KK × D)}, RpL G W H l us → prsOf l = some ps → ∃ (as : List Addr) (vs : List (Key × V)), us = as.map V.ref ∧ Paired (fun p kv => SqT G.K H p [kV kv.1, kv.2]) as vs ∧ RpK G W H kk ps vs
  | [], us, ps, r, e => by have : us = [] := r; subst this; cases e; exact ⟨[], [], rfl, .nil, .nil⟩
  | .tup [k, v] :: l, us, ps, r, e => by
    obtain ⟨u, us', rfl, r1, r2⟩ := r
    simp only [prsOf] at e
    split at e
    · rename_i c ps' h1 h2
      cases e
      obtain ⟨as, vs, rfl, q1, q2⟩ := prs_ok r2 h2
      obtain ⟨a, ws, rfl, t1, ⟨w1, ws1, rfl, g1, w2, ws2, rfl, g2, rfl⟩⟩ := r1
      have ek := keyK_kV h1 g1
      subst ek
      exact ⟨a :: as, (kk c, w2) :: vs, rfl, .cons t1.sq q1, .cons ⟨rfl, g2⟩ q2⟩
    · cases e
  | .non :: _, _, _, _, e => by cases e
  | .bl _ :: _, _, _, _, e => by cases e
  | .int _ :: _, _, _, _, e => by cases e
  | .str _ :: _, _, _, _, e => by cases e
  | .lst _ :: _, _, _, _, e => by cases e
  | .fz _ :: _, _, _, _, e => by cases e
  | .ref _ :: _, _, _, _, e => by cases e
  | .tup [] :: _, _, _, _, e => by cases e
  | .tup [_] :: _, _, _, _, e => by cases e
  | .tup (_ :: _ :: _ :: _) :: _, _, _, _, e => by cases e
def mrgA (acc ps : List (KK × D)) : List (KK × D) := ps.foldl (fun acc kv => pA acc kv.1 kv.2) acc
theorem mrg_ok : ∀ {ps : List (KK × D)} {vs : List (Key × V)} {acc : List (KK × D)} {acc' : List (Key × V)}, RpK G W H kk ps vs → RpK G W H kk acc acc' → RpK G W H kk (mrgA acc ps) (mergeK acc' vs)
  | [], _, _, _, .nil, r => r
  | p :: ps, q :: vs, acc, acc', .cons h t, r => by
    have h2 := rpA_put (fun a b e => kk_inj e) (k := p.1) h.2 r
    rw [h.1] at h2
    show RpK G W H kk (mrgA (pA acc p.1 p.2) ps) (mergeK (putK acc' q.1 q.2) vs)
    exact mrg_ok (ps := ps) (vs := vs) t h2
def oDictP : List D → Mem → R D
  | [d], M => match (lstOf M d).bind prsOf with
    | some ps => .ok (.ref M.length) (M ++ [.dk false (mrgA [] ps)])
    | none => .no
  | _, _ => .no
theorem fn_dictP : Fn1 G E (fun xs H Q => ∃ (a : Addr) (ps : List Addr) (kvs : List (Key × V)), xs = [.ref a] ∧ SqL G.K H a (ps.map V.ref) ∧ Paired (fun p kv => SqT G.K H p [kV kv.1, kv.2]) ps kvs ∧ ∀ p, H p = none → Q (.ref p) (upd H p (.dK (mergeK [] kvs)))) oDictP := fun W H M ds us Q m r p => by
  unfold oDictP at p
  split at p
  · rename_i d
    obtain ⟨u, e1, r1⟩ := rp_one r
    subst e1
    split at p
    · rename_i ps e
      cases q : lstOf M d with
      | none => rw [q] at e; cases e
      | some l =>
        rw [q] at e
        obtain ⟨a1, vs, rfl, h2, h3⟩ := lstOf_ok m r1 q
        obtain ⟨as, kvs, rfl, q1, q2⟩ := prs_ok h3 e
        refine ⟨a1, as, kvs, rfl, h2, q1, fun x hx => ?_⟩
        refine p ⟨W.as ++ [x], W.hd⟩ _ (Fut.added m hx) (m.added hx ⟨_, upd_same, (mrg_ok q2 .nil).fut m (Fut.added m hx)⟩) _ ⟨x, ?_, rfl⟩
        rw [← m.len]
        simp
    · exact p.elim
  · exact p.elim
end
end Fn

set_option Elab.async false
set_option linter.all false
set_option maxRecDepth 100000
set_option maxHeartbeats 1000000
/-! FnRec: a def that calls itself: its model is by fuel; of no fuel nothing is promised. -/
namespace Fn
open PySem PySem.Spec PyProof.Rows L2
section
variable {P : Program} {w : World} {K : PySem.W.Frag} {mg : Str → Option Value} {base : Heap} {CX : CXT} {k : Nat} {f : Addr} {fd : FuncData} {ps : List Str} {cl : Nat → Addr} {n : Nat}
theorem fn_no (hl : ps.length = n) : FnOk P w K mg base CX k f fd ps (spOf ⟨K, cl⟩ n fun _ _ => .no) :=
  ⟨fun vs H Q E ⟨W, M, ds, m, r, h, _⟩ => by rw [r.len, h, hl], fun A outer s H args us vs Q E _ _ _ _ ⟨W, M, ds, m, r, h, p⟩ => p.elim⟩
theorem fnG_no (hl : ps.length = n) : FnG P w K mg base CX k f fd ps (spOf ⟨K, cl⟩ n fun _ _ => .no) := .of (fn_no hl)
end
end Fn

set_option Elab.async false
set_option linter.all false
set_option maxRecDepth 100000
set_option maxHeartbeats 2000000
/-! FnEnumT: enumerate of a tuple, walked. -/
namespace Fn
open PySem PySem.Spec PyProof.Rows L2 L2.DX
section
open Sem (wp)
theorem meets_enum1 {v : Value} {o : Obj} {H : Heap → Prop} (B : Begins v o H) :
    Meets (Builtin.«enumerate.__new__» ⟨[.type "enumerate", v], []⟩) (fun _ R s => H s.heap ∧
      R (.ok (.ret (.ref (s.heap.push o).objs.size))) { s with heap := (s.heap.push o).push { cls := .type "enumerate", data := .fields #[.none, .bool false, .ref s.heap.objs.size, rawInt 0, .none, .none] } }) :=
  .of_wp fun prog w A R s h => by
    obtain ⟨hp, g, d, tk, os⟩ := s
    obtain ⟨h1, h⟩ := h
    have hsub := sub_enumerate
    have q1 : ∀ {A' : Around} {E : Value → Shared → Prop} {Q : Value → Shared → Prop}, Q (.ref hp.objs.size) ⟨hp.push o, g, d, tk, os⟩ → wpAny (model prog w) A' (pyIter v) Q E ⟨hp, g, d, tk, os⟩ :=
      fun q => B.iter prog w _ _ ⟨hp, g, d, tk, os⟩ _ h1 q
    wp_walk using q1
    refine wpAny_stack_any fun st => wpAny_pure ?_
    split
    · rename_i c _ _ _ _ _
      cases (c == Value.type "enumerate")
      · wp_walk using q1
        exact ⟨_, rfl, h⟩
      · wp_walk using q1
        exact ⟨_, rfl, h⟩
    · wp_walk using q1
      exact ⟨_, rfl, h⟩
end
section
variable {prog : Program} {w : World} {A : Around} {E : Value → Shared → Prop} {s : Shared}
theorem enum_begin1 {v : Value} {o : Obj} {H : Heap → Prop} {Q : Value → Shared → Prop} (B : Begins v o H) (h1 : H s.heap)
    (h : ∀ h', IsEnum h' (s.heap.objs.size + 1) s.heap.objs.size 0 .none → h'.get? s.heap.objs.size = some o → (∀ b o, s.heap.get? b = some o → h'.get? b = some o) → Q (.ref (s.heap.objs.size + 1)) { s with heap := h' }) :
    wpAny (model prog w) A (call (.type "enumerate") [v]) Q E s := by
  refine callType_new F.called_enumerate (by decide) (F.typeCall_enumerate_1 _) (F.newCall_enumerate_1 _) (fun obj => F.args_object_init_2 obj _) F.entry_enumerate_new (meets_enum1 B) ⟨h1, ?_⟩
  have hz : (s.heap.push o).objs.size = s.heap.objs.size + 1 := Heap.size_push ..
  show _ ∧ _
  rw [hz]
  have he := Heap.get?_push_size (s.heap.push o) (o := { cls := .type "enumerate", data := .fields #[.none, .bool false, .ref s.heap.objs.size, rawInt 0, .none, .none] }) rfl
  rw [hz] at he
  exact ⟨⟨_, he, rfl⟩, h _ he (Heap.get?_push_of_some _ (Heap.get?_push_size _ B.free)) fun b o x => Heap.get?_push_of_some _ (Heap.get?_push_of_some _ x)⟩
end
/-- the tuple at a, each item in a new pair -/
def IteT (K : PySem.W.Frag) (a : Addr) : It :=
  ⟨fun i H => ∃ (xs : List V) (x : V), SqT K H a xs ∧ xs[i]? = some x, fun i H v H' => ∃ T x, v = .ref T ∧ H T = none ∧ H' = upd H T (.tup [.int (i : Nat), x]) ∧ ∀ xs, SqT K H a xs → xs[i]? = some x, fun i H => ∃ xs : List V, SqT K H a xs ∧ xs.length ≤ i⟩
theorem turn_enumT {P : Program} {w : World} {K : PySem.W.Frag} {elts : List Expr} {kk : Nat} {tpos : Pos} (a e it : Addr) (hai : a ≠ it) (hae : a ≠ e) :
    Turn P w K (.Tuple elts kk tpos) (IteT K a) [e, it] e (fun i h => (∃ old, IsEnum h e it ((i : Nat) : Int) old) ∧ h.IsTupleIter it a i ∧ e ≠ it) where
  mem := by simp
  obj := fun i h st b hb => by
    obtain ⟨⟨old, he⟩, ⟨o, ho, hc, hd⟩, _⟩ := st
    rcases (show b = e ∨ b = it by simpa using hb) with z | z
    · rw [z]; exact ⟨_, he, fun v q => nomatch q⟩
    · rw [z]; exact ⟨o, ho, fun v q => by rw [hd] at q; cases q⟩
  keep := fun i h h' st k => let ⟨⟨old, he⟩, hi, hne⟩ := st; ⟨⟨old, k e (by simp) _ he⟩, hi.at fun o q => k it (by simp) o q, hne⟩
  item := by
    intro X hP hw hK hc i pins s σ H E I hf st hg
    subst hP hw hK
    obtain ⟨⟨old, he⟩, hit, hne⟩ := st
    obtain ⟨xs, x, hq, hx⟩ := hg
    obtain ⟨its, rv, p, hz⟩ := I.tuple hq
    obtain ⟨u, hu, ru⟩ := rv.get hx
    have hel : e < s.heap.objs.size := Heap.lt_size he
    have hil : it < s.heap.objs.size := by obtain ⟨_, q, _⟩ := hit; exact Heap.lt_size q
    have hi : i < its.toArray.size := by
      rw [List.size_toArray]
      exact (List.getElem?_eq_some_iff.mp hu).1
    have D := Draws.tuple (prog := X.prog) (w := X.w) (A := X.A.in1) (I.ok.hd hc) it a hai its.toArray
    refine wpAny_pyNext_enum_itemD D he ⟨hit, p⟩ hi hne (by simp; exact ⟨hne, Ne.symm hae⟩) fun x' h' tk hP ho hst' hT hsz hk => ?_
    have hx' : x' = u := by
      have hP : its.toArray[i]? = some x' := hP
      rw [List.getElem?_toArray, hu] at hP
      cases hP; rfl
    subst hx'
    refine ⟨_, rfl, wpAny_letOwnedTupleGo_enum (s := { s with heap := h', toks := tk + 1 }) ho fun h'' he' sb => ?_⟩
    have hT2 : h''.get? s.heap.objs.size = some { cls := .type "tuple", data := .seq #[.int i tk, x'] } := (sb.2 _ (Nat.ne_of_gt hel)).trans hT
    have new : ObjOk X.prog X.w (upd H s.heap.objs.size (.tup [.int (i : Nat), x])) h'' s.heap.objs.size (.tup [.int (i : Nat), x]) :=
      ⟨by show 2 ≤ sizeLine; decide, [.int i tk, x'], .cons ⟨_, rfl⟩ (.cons ru .nil), ⟨_, hT2, rfl, _, rfl⟩⟩
    have I1 : Inv X pins σ (upd H s.heap.objs.size (.tup [.int (i : Nat), x])) { s with heap := h'', toks := tk + 1 } :=
      I.turnedNew (ch := [e, it]) (fun b ob hb q => (sb.2 b (fun z => hb (by simp [z]))).trans (hk b ob (fun z => hb (by simp [z])) (fun z => hb (by simp [z])) q)) hf (Nat.le_refl _) new
    refine ⟨.ref s.heap.objs.size, _, I1, rfl, ⟨_, x, rfl, I.hok.fresh (Nat.le_refl _), rfl, fun ys hy => by rw [I.tuple_inj hy hq]; exact hx⟩, ⟨⟨x', ?_⟩, hst'.1.at fun o q => (sb.2 it (Ne.symm hne)).trans q, hne⟩, fun b hb => ?_⟩
    · rw [show ((i + 1 : Nat) : Int) = (i : Int) + 1 by omega]; exact he'
    · have hb' : b < s.heap.objs.size := by
        rcases (show b = e ∨ b = it by simpa using hb) with z | z
        · rw [z]; exact hel
        · rw [z]; exact hil
      rw [upd_ne (Nat.ne_of_lt hb')]
      exact (hf b hb).1
  done := by
    intro X hP hw hK hc i pins s σ H E I hf st hg
    subst hP hw hK
    obtain ⟨⟨old, he⟩, hit, hne⟩ := st
    obtain ⟨xs, hq, hx⟩ := hg
    obtain ⟨its, rv, p, hz⟩ := I.tuple hq
    obtain ⟨f0, f1, f2, f3, f4, f5⟩ := hf it (by simp)
    have hl := rv.length
    have hd : (X.A.in1).handled = none := I.ok.hd hc
    unfold pyNext
    have hTT : s.TypeIs (.ref e) "enumerate" := ⟨_, he, rfl⟩
    refine wpAny_bind (wpAny_attempt (wpAny_callSpecial?_slot (name := Str.ofString "__next__") hTT F.slot_enumerate_next
      (wpAny_call_entry F.slot_enumerate_next hTT F.entry_enumerate_next ?_ (F.args_enumerate_next_1 _))))
    show wpAny _ _ (field (.ref e) 2 >>= _) _ _ _
    refine wpAny_bind (wpAny_field he rfl (x := .ref it) rfl ?_)
    refine wpAny_bind (RZ.nextOf_tuple_end hd hit (show s.heap.IsTuple a its.toArray from p) (by simp; omega) fun h' x he' hx' => ?_)
    obtain ⟨o, ho, hcl⟩ := hx'
    refine wpAny_bind (wpAny_isInstance (T := "StopIteration") (b := true) ⟨o, ho, hcl⟩ isSubtype_stop ?_)
    exact wpAny_pure ⟨rfl, I.turned (t' := s.toks) (fun b o hb q => he' b o hb q) f0 f1 f3 f4 f5⟩
  self := fun A i s Q E st h => let ⟨⟨_, he⟩, _⟩ := st; wpAny_pyIter_enum he h
def iEnumT (K : PySem.W.Frag) (ta : TA) : TI := fun σ H R => ta σ H fun vs H1 => ∃ a xs, vs = [.ref a] ∧ ((SqL K H1 a xs ∧ R (Ite K a) H1) ∨ (SqT K H1 a xs ∧ R (IteT K a) H1))
theorem pi_enumA {X : Cx} {e : Expr} {ta : TA} {p pos tpos : Pos} {elts : List Expr} {kk : Nat} (hg : Gl X "enumerate") (hm : X.mg "enumerate" = none) (ha : PA X [e] ta) (hs : starEach [e] X.env = [(false, eval e X.env)] := by rfl) :
    PI X (.Tuple elts kk tpos) (.Call (.Name "enumerate" p) [e] [] pos) (iEnumT X.K ta) := by
  refine ⟨fun pins s σ H R I h => ?_⟩
  refine Call_ (ld_blt I hg hm boot_enumerate (PyProof.Rows.callWith_type1 (thn (ha.run pos pins s σ H _ I h) fun us s1 ⟨vs, H1, I1, r1, q1⟩ => ?_) hs rfl))
  obtain ⟨a, xs, ex, q⟩ := q1
  subst ex
  cases r1 with
  | cons r rr =>
    cases rr
    cases r
    have hge : ∀ b, b ∈ [s1.heap.objs.size + 1, s1.heap.objs.size] → s1.heap.objs.size ≤ b := fun b hb => by
      rcases (show b = s1.heap.objs.size + 1 ∨ b = s1.heap.objs.size by simpa using hb) with z | z
      · rw [z]; exact Nat.le_add_right _ _
      · rw [z]; exact Nat.le_refl _
    rcases q with ⟨hq, q⟩ | ⟨hq, q⟩
    · obtain ⟨its, rv, p', hz⟩ := I1.list hq
      refine enum_begin1 (begins_list a its.toArray) p'.isList fun h' he hit hk => wpAny_pyIter_enum he ?_
      have I2 : Inv X pins σ H1 { s1 with heap := h' } := I1.kept (t' := s1.toks) hk
      exact ⟨s1.heap.objs.size + 1, [s1.heap.objs.size + 1, s1.heap.objs.size], _, _, H1, rfl, I2, turn_enum a (s1.heap.objs.size + 1) s1.heap.objs.size, ⟨⟨.none, he⟩, ⟨_, hit, rfl, rfl⟩, Nat.succ_ne_self _⟩, fun b hb => I1.fpOk (hge b hb) (I1.hok.fresh (hge b hb)), q⟩
    · obtain ⟨its, rv, p', hz⟩ := I1.tuple hq
      have hal : a < s1.heap.objs.size := by obtain ⟨_, e0, _⟩ := p'; exact Heap.lt_size e0
      refine enum_begin1 (begins_tuple a its.toArray) p' fun h' he hit hk => wpAny_pyIter_enum he ?_
      have I2 : Inv X pins σ H1 { s1 with heap := h' } := I1.kept (t' := s1.toks) hk
      exact ⟨s1.heap.objs.size + 1, [s1.heap.objs.size + 1, s1.heap.objs.size], _, _, H1, rfl, I2, turn_enumT a (s1.heap.objs.size + 1) s1.heap.objs.size (Nat.ne_of_lt hal) (Nat.ne_of_lt (Nat.lt_succ_of_lt hal)), ⟨⟨.none, he⟩, ⟨_, hit, rfl, rfl⟩, Nat.succ_ne_self _⟩, fun b hb => I1.fpOk (hge b hb) (I1.hok.fresh (hge b hb)), q⟩
section
variable {X : Cx} {G : Gx} {cl : Nat → Addr} {E : XK} {W : Wd} {H : Hp} {M : Mem} {a b c : Expr} {fa fb fc : FE} {pos : Pos}
theorem src_enumT {W0 : Wd} {H0 : Hp} {l : List D} {a : Addr} (h : ∀ W H M, Kp W0 H0 W H → MemOk G W H M → ∃ us, SqT G.K H a us ∧ RpL G W H l us) : SrcOk G W0 H0 ⟨numb l, fun _ => True⟩ (IteT G.K a) where
  item := fun W H M f _ m st i d e => by
    obtain ⟨us, h1, h2⟩ := h W H M f m
    obtain ⟨y, e1, rfl⟩ := numb_get e
    obtain ⟨u, e2, r2⟩ := h2.get e1
    refine ⟨⟨us, u, h1, e2⟩, fun x H' z => ?_⟩
    obtain ⟨T, x', rfl, hT, rfl, hx⟩ := z
    have := hx us h1
    rw [e2] at this; cases this
    exact ⟨Fut.laid hT, m.laid hT, T, _, rfl, .inl upd_same, _, _, rfl, rfl, _, _, rfl, m.rp (Fut.laid hT) r2, rfl⟩
  stop := fun W H M f _ m st => by
    obtain ⟨us, h1, h2⟩ := h W H M f m
    exact ⟨us, h1, by rw [numb_len, h2.len]; exact Nat.le_refl _⟩
/-- enumerate of a tuple by value -/
def iEnumA (f : FE) : FI := fun env M => (f env M).bind fun d m => match d with
  | .tup l => .ok ⟨numb l, fun _ => True⟩ m
  | _ => .no
theorem iEnumA_eq {env : Fn.Env} : iEnumA fa env M = (fa env M).bind fun d m => match d with
  | .tup l => .ok ⟨numb l, fun _ => True⟩ m
  | _ => .no := rfl
theorem si_enumA {p tpos : Pos} {elts : List Expr} {kk : Nat} (hg : Gl X "enumerate") (hm : X.mg "enumerate" = none) (ha : PE X a (tE ⟨X.K, cl⟩ E fa)) (hs : starEach [a] X.env = (false, eval a X.env) :: starEach [] X.env := by rfl) (hs1 : starEach [a] X.env = [(false, eval a X.env)] := by rfl) :
    PI X (.Tuple elts kk tpos) (.Call (.Name "enumerate" p) [a] [] pos) (tI ⟨X.K, cl⟩ E (iEnumA fa)) := pi_imp (pi_enumA hg hm (sa_cons ha sa_nil hs) hs1) fun σ H Rr ⟨W, env, M, s, p⟩ => by
  refine tA.bind (K := PI' ⟨X.K, cl⟩ Rr) (f := aCons fa aNil) (k := fun ds m => match ds with | [d] => (match d with | .tup l => R.ok (⟨numb l, fun _ => True⟩ : Src) m | _ => .no) | _ => .no) s ?_ fun ds m W1 H1 us f1 s1 r1 p1 => ?_
  · rw [aCons_bind]
    exact p
  · split at p1
    · rename_i d
      split at p1
      · rename_i l
        obtain ⟨u, rfl, r2⟩ := rp_one r1
        have k := p1.here s1.mem
        obtain ⟨a1, us, rfl, h2, h3⟩ := id r2
        refine ⟨a1, us, rfl, .inr ⟨h2.sq, k _ (src_enumT fun W2 H2 M2 f2 m2 => ?_) trivial⟩⟩
        obtain ⟨a', us', q1, q2, q3⟩ := Rp.kp f2 _ _ r2
        cases q1
        exact ⟨us', q2.sq, q3⟩
      · exact p1.elim
    · exact p1.elim
end
end Fn

set_option Elab.async false
set_option linter.all false
set_option maxRecDepth 100000
set_option maxHeartbeats 2000000
/-! FnDisp: dict displays with keys ints or texts; the words of a text; what is never reached. -/
namespace Fn
open PySem PySem.Spec PyProof.Rows L2 L2.DX
section
variable {X : Cx} {G : Gx} {cl : Nat → Addr} {E : XK} {W : Wd} {H : Hp} {M : Mem} {a b c : Expr} {fa fb fc : FE} {pos : Pos}
/-! ### {k: v, ..} -/
def mPairs : List (FE × FE) → Fn.Env → Mem → R (List (D × D))
  | [], _, M => .ok [] M
  | (fk, fv) :: r, env, M => (fk env M).bind fun k m1 => (fv env m1).bind fun v m2 => (mPairs r env m2).bind fun ps m3 => .ok ((k, v) :: ps) m3
def prsK : List (D × D) → Option (List (KK × D))
  | [] => some []
  | (k, v) :: r => match keyK k, prsK r with
    | some c, some ps => some ((c, v) :: ps)
    | _, _ => none
def mDisp (fs : List (FE × FE)) : FE := fun env M => (mPairs fs env (M ++ [.dk false []])).bind fun ps m => match m[M.length]?, prsK ps with
  | some (.dk false []), some kvs => if kvs.length ≤ 15 then .ok (.ref M.length) (m.set M.length (.dk false (mrgA [] kvs))) else .no
  | _, _ => .no
/-- pairs related -/
inductive RpP (G : Gx) (W : Wd) (H : Hp) : List (D × D) → List (V × V) → Prop
  | nil : RpP G W H [] []
  | cons {k v : D} {x y : V} {ps : List (D × D)} {qs : List (V × V)} : Rp G W H k x → Rp G W H v y → RpP G W H ps qs → RpP G W H ((k, v) :: ps) ((x, y) :: qs)
theorem tPairs_of : ∀ (fs : List (FE × FE)) {α : Type} {k : List (D × D) → Mem → R α} {W : Wd} {env : Fn.Env} {M : Mem} {σ : L2.St} {H : Hp} {K : α → Mem → Wd → Hp → Prop} {Q : List (V × V) → Hp → Prop}, Sta G W env M σ H → PR G W H K E ((mPairs fs env M).bind k) →
    (∀ ps m W1 H1 qs, Fut W H W1 H1 → Sta G W1 env m σ H1 → RpP G W1 H1 ps qs → PR G W1 H1 K E (k ps m) → Q qs H1) → tPairs (fs.map fun f => (tE G E f.1, tE G E f.2)) σ H Q
  | [], α, k, W, env, M, σ, H, K, Q, s, p, hq => hq [] M W H [] Fut.rfl' s .nil p
  | (fk, fv) :: r, α, k, W, env, M, σ, H, K, Q, s, p, hq => by
    have p1 : PR G W H K E ((fk env M).bind fun d m1 => (fv env m1).bind fun v m2 => (mPairs r env m2).bind fun ps m3 => k ((d, v) :: ps) m3) := by
      have e : (mPairs ((fk, fv) :: r) env M).bind k = (fk env M).bind fun d m1 => (fv env m1).bind fun v m2 => (mPairs r env m2).bind fun ps m3 => k ((d, v) :: ps) m3 := by
        simp only [mPairs]
        cases fk env M with
        | ok d m1 =>
          simp only [R.bind_ok]
          cases fv env m1 with
          | ok v m2 =>
            simp only [R.bind_ok]
            cases mPairs r env m2 <;> rfl
          | ex c fs m => rfl
          | no => rfl
        | ex c fs m => rfl
        | no => rfl
      rw [← e]; exact p
    refine tE.bind s p1 fun d m1 W1 H1 u f1 s1 r1 p2 => ?_
    refine tE.bind s1 p2 fun v m2 W2 H2 u2 f2 s2 r2 p3 => ?_
    exact tPairs_of r s2 p3 fun ps m W3 H3 qs f3 s3 r3 p4 => hq _ _ W3 H3 _ ((f1.trans f2).trans f3) s3 (.cons (s2.mem.rp f3 (s1.mem.rp f2 r1)) (s2.mem.rp f3 r2) r3) p4
theorem prsK_ok : ∀ {ps : List (D × D)} {qs : List (V × V)} {kvs : List (KK × D)}, RpP G W H ps qs → prsK ps = some kvs → ∃ ws : List (Key × V), qs = ws.map (fun kv => (kV kv.1, kv.2)) ∧ RpK G W H kk kvs ws
  | [], _, kvs, .nil, e => by cases e; exact ⟨[], rfl, .nil⟩
  | (k, v) :: ps, _, kvs, .cons r1 r2 r3, e => by
    simp only [prsK] at e
    split at e
    · rename_i c ps' h1 h2
      cases e
      obtain ⟨ws, rfl, q⟩ := prsK_ok r3 h2
      have ek := keyK_kV h1 r1
      exact ⟨(kk c, _) :: ws, by rw [List.map_cons, ← ek], .cons ⟨rfl, r2⟩ q⟩
    · cases e
theorem sn_disp {keys : List (Option Expr)} {values : List Expr} {fs : List (FE × FE)} (h : PPs X pos keys values (fs.map fun f => (tE G E f.1, tE G E f.2))) (hall : keys.all (·.isSome) = true := by rfl) (hl : keys.length = values.length := by rfl) (h0 : keys ≠ [] := by simp)
    (h15 : keys.length ≤ 15 := by decide) : PE X (.Dict keys values pos) (tE G E (mDisp fs)) := pe_imp (pe_disp h hall hl h0 h15) fun σ H Q ⟨W, env, M, s, p⟩ => by
  intro x hx
  have f0 : Fut W H ⟨W.as ++ [x], W.hd⟩ (upd H x (.dK [])) := Fut.added s.mem hx
  have m0 : MemOk G ⟨W.as ++ [x], W.hd⟩ (upd H x (.dK [])) (M ++ [.dk false []]) := s.mem.added hx ⟨[], upd_same, .nil⟩
  have p' : PR G ⟨W.as ++ [x], W.hd⟩ (upd H x (.dK [])) (PV G Q) E ((mPairs fs env (M ++ [.dk false []])).bind fun ps m => match m[M.length]?, prsK ps with
    | some (.dk false []), some kvs => if kvs.length ≤ 15 then .ok (.ref M.length) (m.set M.length (.dk false (mrgA [] kvs))) else .no
    | _, _ => .no) := PR.fut f0 p
  refine tPairs_of fs (s.fut f0 m0) p' fun ps m W1 H1 qs f1 s1 r1 p1 => ?_
  have hi0 : (W.as ++ [x])[M.length]? = some x := by rw [← s.mem.len]; simp
  have hi : W1.as[M.length]? = some x := by
    obtain ⟨l, hl, _⟩ := f1.1
    rw [hl, List.getElem?_append_left (List.getElem?_eq_some_iff.mp hi0).1]
    exact hi0
  split at p1
  · rename_i kvs hc hk
    split at p1
    · rename_i hn
      obtain ⟨us, c1, c2⟩ := s1.mem.cell _ _ x hc hi
      have c1 : H1 x = some (.dK us) := c1
      cases c2
      obtain ⟨ws, rfl, rk⟩ := prsK_ok r1 hk
      have wl : ws.length ≤ 15 := by rw [rpA_len rk]; exact hn
      refine ⟨c1, ws, rfl, wl, ?_⟩
      have fw : Fut W1 H1 W1 (upd H1 x (.dK (mergeK [] ws))) := Fut.wrote hi c1 trivial
      exact p1 W1 _ fw (s1.mem.wrote hi ⟨_, upd_same, (mrg_ok rk .nil).fut s1.mem fw⟩) _ ⟨x, hi, rfl⟩
    · exact p1.elim
  · exact p1.elim
/-! ### text.split() -/
def wordsL (x : List Nat) : List (List Nat) := (Txt.words (l2s x)).map fun y => y.cps.toList
def oWords : D → List D → Mem → R D
  | .str x, [], M => if x.length + 2 ≤ 16777216 then .ok (.lst ((wordsL x).map .str)) M else .no
  | _, _, _ => .no
theorem rpL_words : ∀ ys : List Str, RpL G W H ((ys.map fun y => y.cps.toList).map D.str) (ys.map V.str)
  | [] => rfl
  | y :: ys => ⟨_, _, rfl, (by show V.str y = V.str (l2s y.cps.toList); rfl), rpL_words ys⟩
theorem mt1_words : Mt1 G E (fun x xs H Q => ∃ a, x = .str a ∧ xs = [] ∧ a.length + 2 ≤ sizeLine ∧ rNewStrs (Txt.words a) H Q) oWords := fun W H M a u ds us Q m ra r p => by
  unfold oWords at p
  split at p
  · rename_i x
    split at p
    · rename_i hz
      cases ra
      have : us = [] := r
      subst this
      refine ⟨l2s x, rfl, rfl, by rw [l2s_len, line_eq]; exact hz, fun q hq => ?_⟩
      exact mkL_new (c := false) m p (rpL_words _) q hq
    · exact p.elim
  · exact p.elim
/-! ### what is never reached -/
def mNoS : FS := fun _ _ => .no
def mNoE : FE := fun _ _ => .no
theorem ss_no {st : Stmt} {t : TS} (h : PS X st t) : PS X st (tS G E mNoS) := ps_imp h fun D σ H ⟨W, env, M, s, p⟩ => p.elim
end
end Fn

set_option Elab.async false
set_option linter.all false
set_option maxRecDepth 100000
set_option maxHeartbeats 2000000
/-! FnSortS: sorted(d) of a dict with keys ints or texts. -/
namespace Fn
open PySem PySem.Spec PyProof.Rows L2 L2.DX
section
variable {X : Cx} {G : Gx} {cl : Nat → Addr} {E : XK} {W : Wd} {H : Hp} {M : Mem} {a b c : Expr} {fa fb fc : FE} {pos : Pos}
def rSortS (G : Gx) : List V → Hp → VK → Prop := fun vs H Q => ∃ (W : Wd) (a : Addr) (kvs : List (KK × D)) (ws : List (Key × V)), vs = [V.ref a] ∧ H a = some (.dK ws) ∧ RpK G W H kk kvs ws ∧ sortOk (kvs.map fun kv => keyD kv.1) ∧
  ∀ us' p, RpL G W H (sortD (kvs.map fun kv => keyD kv.1)) us' → H p = none → Q (.ref p) (upd H p (.lst us'))
theorem rpL_keysS : ∀ {kvs : List (KK × D)} {ws : List (Key × V)}, RpK G W H kk kvs ws → RpL G W H (kvs.map fun kv => keyD kv.1) (ws.map fun q => kV q.1)
  | _, _, .nil => rfl
  | (k, d) :: kvs, (k', v) :: ws, .cons h t => by
    have h1 : kk k = k' := h.1
    subst h1
    exact ⟨_, _, rfl, keyD_rp _, rpL_keysS t⟩
theorem pairs_keys {P : Program} {w : World} : ∀ {es : List DictEntry} {ws : List (Key × Value)} {vs : List (Key × V)}, Pairs (mixKind P w) es ws → KV vs ws → Vals (vs.map fun q => kV q.1) (es.map (·.key))
  | [], _, _, .nil, .nil => .nil
  | e :: es, (k, v) :: ws, _ :: vs, .cons h1 h2 h3, .cons r1 r2 => by
    have hk : keyIs k e.key = true := h1
    have e1 := r1.1
    refine .cons ?_ (pairs_keys h3 r2)
    show L2.RelV (kV _) e.key
    rw [e1]
    rcases keyIs_shape hk with ⟨i, t, q1, q2⟩ | ⟨x, t, q1, q2⟩
    · subst q1; rw [q2]; exact ⟨t, rfl⟩
    · subst q1; rw [q2]; exact ⟨t, rfl⟩
theorem cr_sortS (hc : X.calm = true) (hu : X.A.units + 64 < cLine) : CallR X (.builtin "sorted") (rSortS ⟨X.K, cl⟩) := by
  intro pins s σ H vs us Q I r h
  obtain ⟨W, d, kvs, ws, rfl, hd, hr, hk, q⟩ := h
  obtain ⟨u, rfl, rx⟩ := r.one
  cases rx
  obtain ⟨hz, hs, vs', kv, o, es, ep, ho, hx, hdt, hn, hp, hnd⟩ := I.hok _ _ hd
  have l1 : es.size = ws.length := by
    have := (pairs_keys hp kv).length
    rw [List.length_map, List.length_map, Array.length_toList] at this
    exact this.symm
  refine Calls.call_function_entry PyProof.Rows.kind_sorted PyProof.Rows.plain_sorted PyProof.Rows.entry_sorted (PyProof.Rows.args_sorted1 _) ?_
  unfold Builtin.«sorted»; refine wpAny_bind (m := checkCount "sorted" 1 1 _) (wpAny_pure ?_)
  refine wpAny_bind (PySem.W.kdu_collect (A := X.A.in1) (kdl_raw hs hx hdt) (I.ok.hd hc) ho (by omega) fun h' tk acc' kp it => ?_)
  have eb : acc'.toList = es.toList.map (·.key) := by
    have hl : acc'.toList.length = es.toList.length := by rw [Array.length_toList, Array.length_toList, it.1]
    apply List.ext_getElem?
    intro j; rw [List.getElem?_map]
    cases hj : acc'.toList[j]? with
    | none =>
      have h1 := List.getElem?_eq_none_iff.mp hj
      rw [List.getElem?_eq_none (by omega)]; rfl
    | some v =>
      obtain ⟨en, hen, hv⟩ := it.2 j v (by rw [← Array.getElem?_toList]; exact hj)
      rw [Array.getElem?_toList, hen, hv]; rfl
  have rv : Vals (ws.map fun q => kV q.1) acc'.toList := by rw [eb]; exact pairs_keys hp kv
  have rp := rpL_keysS hr
  have e := eachIs_rp (h := s.heap) rp rv
  have hlen : acc'.toList.length = (kvs.map fun kv => keyD kv.1).length := by rw [← rv.length, rp.len]
  have hL : (kvs.map fun kv => keyD kv.1).length ≤ sizeLine := by rw [← rp.len, List.length_map]; omega
  refine wpAny_bind (wpAny_newList ?_ (by rw [hlen]; exact hL))
  have hoL : (h'.push (seqObj "list" acc'.toList.toArray 0)).get? h'.objs.size = some (seqObj "list" acc'.toList.toArray 0) := Heap.get?_push_size _ rfl
  have I1 : Inv X pins σ H { s with heap := h', toks := tk } := I.kept kp
  have er : PySem.W.EachIs (fun v d => ∃ as, Reads (h'.push (seqObj "list" acc'.toList.toArray 0)) v (encD d) as ∧ h'.objs.size ∉ as) acc'.toList (kvs.map fun kv => keyD kv.1) := eachIs_mono e fun v d hd ⟨u, h1, h2⟩ => by
    obtain ⟨kv, _, rfl⟩ := List.mem_map.mp hd
    have hpy : pyD (keyD kv.1) = some (encD (keyD kv.1)) := by cases kv.1 <;> rfl
    have hat : atomP (encD (keyD kv.1)) = true := by cases kv.1 <;> rfl
    obtain ⟨as, ra⟩ := Dp.reads I _ u v (pyD_ok h1 hpy) h2
    have : as = [] := reads_atom ra hat
    subst this
    exact ⟨[], Reads.keeps (fun b o q => Heap.get?_push_of_some _ (kp b o q)) ra, by simp⟩
  refine wpAny_bind (wpAny_holding (wpAny_mono (PySem.W.list_sort_data (s := { s with heap := h'.push (seqObj "list" acc'.toList.toArray 0), toks := tk }) (vs := acc'.toList) (n := 0) hoL e er (fun p hp p' hp' => ?_) (.inr fun p hp => ?_) hL (fun d hd => ?_) (Q := fun _ s' => EP X pins σ Q (.ref h'.objs.size) s') fun out ho' eo => ?_) (fun _ s' x => wpAny_pure ⟨_, rfl, x⟩) fun _ _ e => e))
  · obtain ⟨d, hd, rfl⟩ := List.mem_map.mp hp
    obtain ⟨d', hd', rfl⟩ := List.mem_map.mp hp'
    exact hk.2.1 d hd d' hd'
  · obtain ⟨d, hd, rfl⟩ := List.mem_map.mp hp
    obtain ⟨kv, hkv, rfl⟩ := List.mem_map.mp hd
    cases kv.1 with
    | inl i => exact ⟨(by intro z; cases z), (by intro xs z; cases z)⟩
    | inr x => exact ⟨(by intro z; cases z), (by intro xs z; cases z)⟩
  · have := (hk.1 d hd).2
    have h5 : X.A.in1.units = X.A.units + 1 := rfl
    rw [h5]; omega
  · obtain ⟨us', h1, h2⟩ := eachIs_back eo
    obtain ⟨e', he'⟩ := PyProof.Rows.sortedHeap_at (vs := acc'.toList) (out := out.toArray) hoL
    have hlen' : us'.length ≤ sizeLine := by rw [h2.length, ho']; exact hL
    refine ⟨.ref h'.objs.size, upd H h'.objs.size (.lst us'), I1.laid (t' := tk) (fun b u e => ?_) (Nat.le_refl _) ⟨hlen', out, e', h2, he'⟩, rfl, q us' _ h1 (I1.hok.fresh (Nat.le_refl _))⟩
    have hb : b < h'.objs.size := Heap.lt_size e
    rw [PyProof.Rows.sortedHeap_old (Nat.ne_of_lt hb) (by rw [size_push']; exact Nat.lt_succ_of_lt hb)]
    exact Heap.get?_push_of_some _ e
open Classical in
noncomputable def oSortS (c : Bool) : List D → Mem → R D
  | [.ref i], M => match M[i]? with
    | some (.dk false kvs) => if sortOk (kvs.map fun kv => keyD kv.1) then mkL c (sortD (kvs.map fun kv => keyD kv.1)) M else .no
    | _ => .no
  | _, _ => .no
theorem fn_sortS {c : Bool} : Fn1 G E (rSortS G) (oSortS c) := fun W H M ds us Q m r p => by
  unfold oSortS at p
  split at p
  · rename_i i
    obtain ⟨u, e1, r1⟩ := rp_one r
    subst e1
    obtain ⟨a1, h1, rfl⟩ := r1
    split at p
    · rename_i kvs hc
      split at p
      · rename_i hs
        obtain ⟨vs, c1, c2⟩ := m.cell _ _ a1 hc h1
        have c1 : H a1 = some (.dK vs) := c1
        exact ⟨W, a1, kvs, vs, rfl, c1, c2, hs, fun us' p' r' hp => mkL_new m p r' p' hp⟩
      · exact p.elim
    · exact p.elim
  · exact p.elim
end
end Fn

set_option Elab.async false
set_option linter.all false
set_option maxRecDepth 100000
set_option maxHeartbeats 2000000
/-! FnDV: defs with positional defaults. -/
namespace Fn
open PySem PySem.Spec PyProof.Rows L2
/-- a def of the text, its defaults any -/
structure FunV (K : PySem.W.Frag) (x qual : Str) (st : Stmt) (f : Addr) (fd : FuncData) : Prop where
  ex : ∃ (oc : Value) (od : Option Addr) (dV kV doc pm : Value) (an : Option Addr) (cdv ct : Value) (osl : Array (Option Value)),
    fd = PySem.W.fnOf x qual (defArgs st) (defBody st) (defScope st) dV kV doc pm an cdv ct ∧ K.lookup f = some ⟨oc, od, .func fd, osl⟩ ∧ PySem.W.codeIn K cdv qual = true
  kp : PySem.W.keepIn K (.ref f) = true
section
variable {P : Program} {w : World} {K : PySem.W.Frag} {mg : Str → Option Value} {base : Heap} {x qual : Str} {st : Stmt} {f : Addr} {fd : FuncData} {N ps : List Str} {k : Nat} {g : FD} {B : FS} {cl : Nat → Addr}
theorem funV_mk {oc : Value} {od an : Option Addr} {osl : Array (Option Value)} {dV kV doc pm cdv ct : Value} (l : K.lookup f = some ⟨oc, od, .func (PySem.W.fnOf x qual (defArgs st) (defBody st) (defScope st) dV kV doc pm an cdv ct), osl⟩)
    (c : PySem.W.codeIn K cdv qual = true) (k : PySem.W.keepIn K (.ref f) = true) : FunV K x qual st f (PySem.W.fnOf x qual (defArgs st) (defBody st) (defScope st) dV kV doc pm an cdv ct) := ⟨⟨oc, od, dV, kV, doc, pm, an, cdv, ct, osl, rfl, l, c⟩, k⟩
theorem fn_defV (F : FunV K x qual st f fd) (S : FnScope N ps (defScope st))
    (hbody : ∀ (cdv : Value) (A : Around) (outer : List PySem.Env) (s : Shared) (H : Hp) (E : XK), Room k (A.deeper (envOfC qual (defScope st) s.heap.objs.size f cdv)) →
      PSs (cxOf CX0 P w K mg base N qual (defScope st) f cdv A outer s H E).nox (defBody st) (tS ⟨K, cl⟩ E B))
    (href : ∀ ds M, ds.length = ps.length → Ref M (g ds M) (B (envStart N.length ds) M)) : FnOk P w K mg base CX0 (k + 1) f fd ps (spOf ⟨K, cl⟩ ps.length g) := by
  obtain ⟨oc, od, dV, kV, doc, pm, an, cdv, ct, osl, rfl, lk, hcd⟩ := F.ex
  refine fn_of lk hcd S (fun vs H Q E ⟨W, M, ds, m, r, hl, _⟩ => by rw [r.len, hl]) fun A outer s H vs Q E hr ⟨W, M, ds, m, r, hl, p⟩ => ?_
  exact ⟨_, (hbody cdv A outer s H E hr).nox, W, envStart N.length ds, M, ⟨m, envStart_ok r⟩, href ds M hl _ W H Q E m p⟩
theorem fn_defVG (F : FunV K x qual st f fd) (S : FnScope N ps (defScope st))
    (hbody : ∀ (cdv : Value) (A : Around) (outer : List PySem.Env) (s : Shared) (H : Hp) (E : XK), A.guards = some [] → Room k (A.deeper (envOfC qual (defScope st) s.heap.objs.size f cdv)) →
      PSs (cxOf CX0 P w K mg base N qual (defScope st) f cdv A outer s H E).nox (defBody st) (tS ⟨K, cl⟩ E B))
    (href : ∀ ds M, ds.length = ps.length → Ref M (g ds M) (B (envStart N.length ds) M)) : FnG P w K mg base CX0 (k + 1) f fd ps (spOf ⟨K, cl⟩ ps.length g) := by
  obtain ⟨oc, od, dV, kV, doc, pm, an, cdv, ct, osl, rfl, lk, hcd⟩ := F.ex
  refine fn_ofG lk hcd S (fun vs H Q E ⟨W, M, ds, m, r, hl, _⟩ => by rw [r.len, hl]) fun A outer s H vs Q E hgd hr ⟨W, M, ds, m, r, hl, p⟩ => ?_
  exact ⟨_, (hbody cdv A outer s H E hgd hr).nox, W, envStart N.length ds, M, ⟨m, envStart_ok r⟩, href ds M hl _ W H Q E m p⟩
end
end Fn

set_option Elab.async false
set_option linter.all false
set_option maxRecDepth 100000
set_option maxHeartbeats 1000000
/-! FnLZ0: list(zip(t, u)) of two tuples, at the library's level. -/
namespace LZ
open PySem PyProof.Rows
open PySem.Sem (wp)
section
variable {prog : Program} {w : World} {A : Around} {E : Value → Shared → Prop} {s : Shared}
theorem zipT_next_item_held {z TI TO T i1 i2 l1 l2 : Addr} {f : Bool} {oT : Obj} {k1 k2 : Nat} {xs ys : Array Value} {x y : Value} {Q : Value → Shared → Prop} (D : ZipApart z TI TO i1 i2 l1 l2)
    (hz : IsZipHeld s.heap z TI TO T f) (hT : s.heap.get? T = some oT) (hTI : IsPair s.heap TI (.ref i1) (.ref i2))
    (h1 : s.heap.IsTupleIter i1 l1 k1) (h2 : s.heap.IsTupleIter i2 l2 k2) (hl1 : s.heap.IsTuple l1 xs) (hl2 : s.heap.IsTuple l2 ys) (hx : xs[k1]? = some x) (hy : ys[k2]? = some y)
    (hQ : ∀ h', IsZipHeld h' z TI TO T true → h'.IsTupleIter i1 l1 (k1 + 1) → h'.IsTupleIter i2 l2 (k2 + 1) → IsPair h' s.heap.objs.size x y → h'.objs.size = s.heap.objs.size + 1 →
      (∀ c o, c ≠ z → c ≠ i1 → c ≠ i2 → s.heap.get? c = some o → h'.get? c = some o) → Q (.ref s.heap.objs.size) { s with heap := h' }) :
    wpAny (model prog w) A (Builtin.«zip.__next__» ⟨[.ref z], []⟩) (fun fin s' => ∃ v, fin = .done (.ret v) ∧ Q v s') E s := by
  show wpAny _ _ (field (.ref z) 2 >>= _) _ _ _
  refine wpAny_bind (wpAny_field hz rfl (x := .bool false) rfl ?_)
  show wpAny _ _ (field (.ref z) 3 >>= _) _ _ _
  refine wpAny_bind (wpAny_field hz rfl (x := .ref TI) rfl ?_)
  refine wpAny_bind (wpAny_seqItems hTI rfl ?_)
  show wpAny _ _ (Builtin.SmallTypes.ownedTupleIsFree (.ref z) >>= _) _ _ _
  refine wpAny_bind (wpAny_tupleHeld_zip hz hT fun h₁ hz₁ hs₁ => ?_)
  simp only [Bool.false_eq_true, if_false]
  refine wpAny_bind ?_
  rw [← Array.forIn_toList]
  simp only [List.forIn_cons, List.forIn_nil]
  refine wpAny_bind (wpAny_bind (wpAny_holding ?_))
  show wpAny _ _ (Builtin.SmallTypes.nextOf (.ref i1) >>= _) _ _ _
  refine wpAny_bind (RZ.nextOf_tuple_item (s := { s with heap := h₁ }) (h1.extBut hs₁.extBut D.i1z) (hl1.extBut hs₁.extBut D.l1z) hx fun h₂ h1₂ hs₂ => wpAny_pure ?_)
  refine wpAny_pure ?_
  refine wpAny_bind (wpAny_bind (wpAny_holding ?_))
  show wpAny _ _ (Builtin.SmallTypes.nextOf (.ref i2) >>= _) _ _ _
  refine wpAny_bind (RZ.nextOf_tuple_item (s := { s with heap := h₂ }) ((h2.extBut hs₁.extBut D.i2z).extBut hs₂.extBut D.i12.symm) ((hl2.extBut hs₁.extBut D.l2z).extBut hs₂.extBut D.l2i1) hy fun h₃ h2₃ hs₃ => wpAny_pure ?_)
  refine wpAny_pure (wpAny_pure ?_)
  show wpAny _ _ (newTuple [x, y] >>= _) _ _ _
  refine wpAny_bind (wpAny_newTuple ?_)
  have hsz : h₃.objs.size = s.heap.objs.size := by rw [hs₃.1, hs₂.1, hs₁.1]
  have hz₃ : IsZipHeld h₃ z TI TO T true := hs₃.extBut _ _ D.i2z.symm (hs₂.extBut _ _ D.i1z.symm hz₁)
  have hk : ∀ c o, c ≠ z → c ≠ i1 → c ≠ i2 → s.heap.get? c = some o → h₃.get? c = some o := fun c o c1 c2 c3 e => hs₃.extBut _ _ c3 (hs₂.extBut _ _ c2 (hs₁.extBut _ _ c1 e))
  have h1₃ : h₃.IsTupleIter i1 l1 (k1 + 1) := h1₂.extBut hs₃.extBut D.i12
  refine wpAny_pure ⟨_, rfl, ?_⟩
  show Q (.ref h₃.objs.size) _
  have hp : IsPair (h₃.push { cls := .type "tuple", data := .seq #[x, y] }) h₃.objs.size x y := Heap.get?_push_size _ rfl
  have hz4 : (h₃.push { cls := .type "tuple", data := .seq #[x, y] }).objs.size = h₃.objs.size + 1 := Heap.size_push ..
  rw [hsz] at hp hz4 ⊢
  exact hQ _ (Heap.get?_push_of_some _ hz₃) (h1₃.at fun o e => Heap.get?_push_of_some _ e) (h2₃.at fun o e => Heap.get?_push_of_some _ e) hp hz4 fun c o c1 c2 c3 e => Heap.get?_push_of_some _ (hk c o c1 c2 c3 e)
theorem zipT_next_end_held {z TI TO T i1 i2 l1 l2 : Addr} {f : Bool} {oT : Obj} {k1 k2 : Nat} {xs ys : Array Value} {Q : Fin → Shared → Prop} (hh : A.handled = none) (D : ZipApart z TI TO i1 i2 l1 l2)
    (hz : IsZipHeld s.heap z TI TO T f) (hT : s.heap.get? T = some oT) (hTI : IsPair s.heap TI (.ref i1) (.ref i2))
    (h1 : s.heap.IsTupleIter i1 l1 k1) (h2 : s.heap.IsTupleIter i2 l2 k2) (hl1 : s.heap.IsTuple l1 xs) (hl2 : s.heap.IsTuple l2 ys) (hend : xs[k1]? = none ∨ ys[k2]? = none)
    (hE : ∀ h' e, (∀ c o, c ≠ z → c ≠ i1 → c ≠ i2 → s.heap.get? c = some o → h'.get? c = some o) → (∃ o, h'.get? e = some o ∧ o.cls = .type "StopIteration") → E (.ref e) { s with heap := h' }) :
    wpAny (model prog w) A (Builtin.«zip.__next__» ⟨[.ref z], []⟩) Q E s := by
  show wpAny _ _ (field (.ref z) 2 >>= _) _ _ _
  refine wpAny_bind (wpAny_field hz rfl (x := .bool false) rfl ?_)
  show wpAny _ _ (field (.ref z) 3 >>= _) _ _ _
  refine wpAny_bind (wpAny_field hz rfl (x := .ref TI) rfl ?_)
  refine wpAny_bind (wpAny_seqItems hTI rfl ?_)
  show wpAny _ _ (Builtin.SmallTypes.ownedTupleIsFree (.ref z) >>= _) _ _ _
  refine wpAny_bind (wpAny_tupleHeld_zip hz hT fun h₁ hz₁ hs₁ => ?_)
  simp only [Bool.false_eq_true, if_false]
  refine wpAny_bind ?_
  rw [← Array.forIn_toList]
  simp only [List.forIn_cons, List.forIn_nil]
  refine wpAny_bind (wpAny_bind (wpAny_holding ?_))
  show wpAny _ _ (Builtin.SmallTypes.nextOf (.ref i1) >>= _) _ _ _
  cases hx : xs[k1]? with
  | none =>
    refine wpAny_bind (RZ.nextOf_tuple_end (s := { s with heap := h₁ }) hh (h1.extBut hs₁.extBut D.i1z) (hl1.extBut hs₁.extBut D.l1z) hx fun h₂ e hs₂ he => ?_)
    exact hE h₂ e (fun c o c1 c2 _ x => hs₂ _ _ c2 (hs₁.extBut _ _ c1 x)) he
  | some x =>
    have hy : ys[k2]? = none := by rcases hend with h | h; rw [hx] at h; cases h; exact h
    refine wpAny_bind (RZ.nextOf_tuple_item (s := { s with heap := h₁ }) (h1.extBut hs₁.extBut D.i1z) (hl1.extBut hs₁.extBut D.l1z) hx fun h₂ h1₂ hs₂ => wpAny_pure ?_)
    refine wpAny_pure ?_
    refine wpAny_bind (wpAny_bind (wpAny_holding ?_))
    show wpAny _ _ (Builtin.SmallTypes.nextOf (.ref i2) >>= _) _ _ _
    refine wpAny_bind (RZ.nextOf_tuple_end (s := { s with heap := h₂ }) hh ((h2.extBut hs₁.extBut D.i2z).extBut hs₂.extBut D.i12.symm) ((hl2.extBut hs₁.extBut D.l2z).extBut hs₂.extBut D.l2i1) hy fun h₃ e hs₃ he => ?_)
    exact hE h₃ e (fun c o c1 c2 c3 x => hs₃ _ _ c3 (hs₂.extBut _ _ c2 (hs₁.extBut _ _ c1 x))) he
theorem pyNext_zipT_item_held {z TI TO T i1 i2 l1 l2 : Addr} {f : Bool} {oT : Obj} {k1 k2 : Nat} {xs ys : Array Value} {x y : Value} {Q : Option Value → Shared → Prop} (D : ZipApart z TI TO i1 i2 l1 l2)
    (hz : IsZipHeld s.heap z TI TO T f) (hT : s.heap.get? T = some oT) (hTI : IsPair s.heap TI (.ref i1) (.ref i2))
    (h1 : s.heap.IsTupleIter i1 l1 k1) (h2 : s.heap.IsTupleIter i2 l2 k2) (hl1 : s.heap.IsTuple l1 xs) (hl2 : s.heap.IsTuple l2 ys) (hx : xs[k1]? = some x) (hy : ys[k2]? = some y)
    (hQ : ∀ h', IsZipHeld h' z TI TO T true → h'.IsTupleIter i1 l1 (k1 + 1) → h'.IsTupleIter i2 l2 (k2 + 1) → IsPair h' s.heap.objs.size x y → h'.objs.size = s.heap.objs.size + 1 →
      (∀ c o, c ≠ z → c ≠ i1 → c ≠ i2 → s.heap.get? c = some o → h'.get? c = some o) → Q (some (.ref s.heap.objs.size)) { s with heap := h' }) :
    wpAny (model prog w) A (pyNext (.ref z)) Q E s := by
  have hTy : s.TypeIs (.ref z) "zip" := ⟨_, hz, rfl⟩
  unfold pyNext
  exact wpAny_bind (wpAny_attempt (wpAny_callSpecial?_slot (name := Str.ofString "__next__") hTy F.slot_zip_next
    (wpAny_call_entry F.slot_zip_next hTy F.entry_zip_next
      (zipT_next_item_held D hz hT hTI h1 h2 hl1 hl2 hx hy fun h' a1 a3 a4 a5 a6 a7 => wpAny_pure (hQ h' a1 a3 a4 a5 a6 a7)) (F.args_zip_next_1 _))))
theorem pyNext_zipT_end_held {z TI TO T i1 i2 l1 l2 : Addr} {f : Bool} {oT : Obj} {k1 k2 : Nat} {xs ys : Array Value} {Q : Option Value → Shared → Prop} (hh : A.handled = none) (D : ZipApart z TI TO i1 i2 l1 l2)
    (hz : IsZipHeld s.heap z TI TO T f) (hT : s.heap.get? T = some oT) (hTI : IsPair s.heap TI (.ref i1) (.ref i2))
    (h1 : s.heap.IsTupleIter i1 l1 k1) (h2 : s.heap.IsTupleIter i2 l2 k2) (hl1 : s.heap.IsTuple l1 xs) (hl2 : s.heap.IsTuple l2 ys) (hend : xs[k1]? = none ∨ ys[k2]? = none)
    (hQ : ∀ h', (∀ c o, c ≠ z → c ≠ i1 → c ≠ i2 → s.heap.get? c = some o → h'.get? c = some o) → Q none { s with heap := h' }) : wpAny (model prog w) A (pyNext (.ref z)) Q E s := by
  have hTy : s.TypeIs (.ref z) "zip" := ⟨_, hz, rfl⟩
  unfold pyNext
  refine wpAny_bind (wpAny_attempt (wpAny_callSpecial?_slot (name := Str.ofString "__next__") hTy F.slot_zip_next
    (wpAny_call_entry F.slot_zip_next hTy F.entry_zip_next (zipT_next_end_held hh D hz hT hTI h1 h2 hl1 hl2 hend fun h' e hk he => ?_) (F.args_zip_next_1 _))))
  obtain ⟨o, ho, hc⟩ := he
  refine wpAny_bind (wpAny_isInstance (T := "StopIteration") (b := true) ⟨o, ho, hc⟩ isSubtype_stop ?_)
  exact wpAny_pure (hQ _ hk)
/-- where a zip of tuples stands, its tuple out or not -/
def Zst (h : Heap) (z TI TO i1 i2 l1 l2 S : Addr) (xs ys : Array Value) (i : Nat) : Prop := IsPair h TI (.ref i1) (.ref i2) ∧ h.IsTupleIter i1 l1 i ∧ h.IsTupleIter i2 l2 i ∧ h.IsTuple l1 xs ∧ h.IsTuple l2 ys ∧
  ((IsZip h z TI TO .none ∧ ∃ a b, IsPair h TO a b) ∨ ∃ T f oT, IsZipHeld h z TI TO T f ∧ h.get? T = some oT ∧ T ≠ z ∧ T ≠ i1 ∧ T ≠ i2 ∧ T ≠ S)
structure Off (S z TI TO i1 i2 l1 l2 : Addr) : Prop where
  z : S ≠ z
  TI : S ≠ TI
  TO : S ≠ TO
  i1 : S ≠ i1
  i2 : S ≠ i2
  l1 : S ≠ l1
  l2 : S ≠ l2
theorem Zst.keep {h h' : Heap} {z TI TO i1 i2 l1 l2 S : Addr} {xs ys : Array Value} {i : Nat} (O : Off S z TI TO i1 i2 l1 l2) (st : Zst h z TI TO i1 i2 l1 l2 S xs ys i) (hk : ∀ b o, b ≠ S → h.get? b = some o → h'.get? b = some o) : Zst h' z TI TO i1 i2 l1 l2 S xs ys i := by
  obtain ⟨hTI, h1, h2, hl1, hl2, hz⟩ := st
  refine ⟨hk _ _ (Ne.symm O.TI) hTI, h1.at fun o e => hk _ o (Ne.symm O.i1) e, h2.at fun o e => hk _ o (Ne.symm O.i2) e, hl1.at fun o e => hk _ o (Ne.symm O.l1) e, hl2.at fun o e => hk _ o (Ne.symm O.l2) e, ?_⟩
  rcases hz with ⟨hz, a, b, hTO⟩ | ⟨T, f, oT, hz, hT, r1, r2, r3, r4⟩
  · exact .inl ⟨hk _ _ (Ne.symm O.z) hz, a, b, hk _ _ (Ne.symm O.TO) hTO⟩
  · exact .inr ⟨T, f, oT, hk _ _ (Ne.symm O.z) hz, hk _ _ r4 hT, r1, r2, r3, r4⟩
theorem zst_item {z TI TO i1 i2 l1 l2 S : Addr} {xs ys : Array Value} {i : Nat} {x y : Value} {Q : Option Value → Shared → Prop} (D : ZipApart z TI TO i1 i2 l1 l2) (st : Zst s.heap z TI TO i1 i2 l1 l2 S xs ys i) (hS : S < s.heap.objs.size)
    (hx : xs[i]? = some x) (hy : ys[i]? = some y)
    (hQ : ∀ h', Zst h' z TI TO i1 i2 l1 l2 S xs ys (i + 1) → IsPair h' s.heap.objs.size x y → h'.objs.size = s.heap.objs.size + 1 → (∀ c o, c ≠ z → c ≠ TO → c ≠ i1 → c ≠ i2 → s.heap.get? c = some o → h'.get? c = some o) → Q (some (.ref s.heap.objs.size)) { s with heap := h' }) :
    wpAny (model prog w) A (pyNext (.ref z)) Q E s := by
  obtain ⟨hTI, h1, h2, hl1, hl2, hz⟩ := st
  have lt : ∀ {c o}, s.heap.get? c = some o → s.heap.objs.size ≠ c := fun e => Nat.ne_of_gt (Heap.lt_size e)
  have n1 : s.heap.objs.size ≠ i1 := let ⟨_, e, _⟩ := h1; lt e
  have n2 : s.heap.objs.size ≠ i2 := let ⟨_, e, _⟩ := h2; lt e
  rcases hz with ⟨hz, a, b, hTO⟩ | ⟨T, f, oT, hz, hT, r1, r2, r3, r4⟩
  · refine RZ.pyNext_zipT_item D hz hTI hTO h1 h2 hl1 hl2 hx hy fun h' a1 a2 a3 a4 a5 a6 hk => ?_
    exact hQ h' ⟨hk _ _ D.TIz D.TITO D.TIi1 D.TIi2 hTI, a3, a4, hl1.at fun o e => hk _ o D.l1z D.l1TO D.l1i1 D.l1i2 e, hl2.at fun o e => hk _ o D.l2z D.l2TO D.l2i1 D.l2i2 e,
      .inr ⟨s.heap.objs.size, false, _, a1, a5, lt hz, n1, n2, Nat.ne_of_gt hS⟩⟩ a5 a6 hk
  · refine pyNext_zipT_item_held D hz hT hTI h1 h2 hl1 hl2 hx hy fun h' a1 a3 a4 a5 a6 hk => ?_
    exact hQ h' ⟨hk _ _ D.TIz D.TIi1 D.TIi2 hTI, a3, a4, hl1.at fun o e => hk _ o D.l1z D.l1i1 D.l1i2 e, hl2.at fun o e => hk _ o D.l2z D.l2i1 D.l2i2 e,
      .inr ⟨T, true, oT, a1, hk _ _ r1 r2 r3 hT, r1, r2, r3, r4⟩⟩ a5 a6 fun c o c1 _ c3 c4 e => hk c o c1 c3 c4 e
theorem zst_done {z TI TO i1 i2 l1 l2 S : Addr} {xs ys : Array Value} {i : Nat} {Q : Option Value → Shared → Prop} (hh : A.handled = none) (D : ZipApart z TI TO i1 i2 l1 l2) (st : Zst s.heap z TI TO i1 i2 l1 l2 S xs ys i)
    (hend : xs[i]? = none ∨ ys[i]? = none)
    (hQ : ∀ h', (∀ c o, c ≠ z → c ≠ TO → c ≠ i1 → c ≠ i2 → s.heap.get? c = some o → h'.get? c = some o) → Q none { s with heap := h' }) :
    wpAny (model prog w) A (pyNext (.ref z)) Q E s := by
  obtain ⟨hTI, h1, h2, hl1, hl2, hz⟩ := st
  rcases hz with ⟨hz, a, b, hTO⟩ | ⟨T, f, oT, hz, hT, r1, r2, r3, r4⟩
  · exact RZ.pyNext_zipT_end hh D hz hTI hTO h1 h2 hl1 hl2 hend fun h' hk => hQ h' hk
  · exact pyNext_zipT_end_held hh D hz hT hTI h1 h2 hl1 hl2 hend fun h' hk => hQ h' fun c o c1 _ c3 c4 e => hk c o c1 c3 c4 e
/-- the pairs that came -/
structure ZG (xs ys : Array Value) (lo : Addr) (h : Heap) (as : List Addr) : Prop where
  rise : as.Pairwise (· < ·)
  above : ∀ a ∈ as, lo < a
  pairs : ∀ (j : Nat) (a : Addr), as[j]? = some a → ∃ x y, xs[j]? = some x ∧ ys[j]? = some y ∧ IsPair h a x y
theorem ZG.there {xs ys : Array Value} {lo : Addr} {h : Heap} {as : List Addr} (g : ZG xs ys lo h as) {a : Addr} (ha : a ∈ as) : a < h.objs.size := by
  obtain ⟨j, hj⟩ := List.mem_iff_getElem?.mp ha
  obtain ⟨_, _, _, _, e⟩ := g.pairs j a hj
  exact Heap.lt_size e
end
end LZ

set_option Elab.async false
set_option linter.all false
set_option maxRecDepth 100000
set_option maxHeartbeats 1000000
/-! FnLZ1: list(zip(t, u)): the loop that collects. -/
namespace LZ
open PySem PyProof.Rows PySem.Calls
open PySem.Sem (wp)
section
variable {prog : Program} {w : World} {A : Around} {E : Value → Shared → Prop} {s : Shared} {z TI TO i1 i2 l1 l2 S : Addr} {xs ys : Array Value}
theorem zst_loop {R : Result → Shared → Prop} (hh : A.handled = none) (D : ZipApart z TI TO i1 i2 l1 l2) (O : Off S z TI TO i1 i2 l1 l2) (hzS : z < S) (hT : TO < S) (hi1 : i1 < S) (hi2 : i2 < S) (n : Nat) (hn' : n = min xs.size ys.size) (hn : n ≤ sizeLine) (res : Value) {h₁ : Heap}
    (hR : ∀ h' tk acc c as, (∀ b o, b ≠ S → b ≠ z → b ≠ TO → b ≠ i1 → b ≠ i2 → h₁.get? b = some o → h'.get? b = some o) → h'.get? S = some { cls := .type "list", dict := none, data := .seq acc c, slots := #[] } → as.length = n → ZG xs ys S h' as →
      acc.toList = as.map Value.ref → R (.ok (.ret res)) { s with heap := h', toks := tk }) :
    ∀ (k i : Nat) (h : Heap) (tk c : Nat) (acc : Array Value) (as : List Addr), n - i = k → i ≤ n → Zst h z TI TO i1 i2 l1 l2 S xs ys i → (∀ b o, b ≠ S → b ≠ z → b ≠ TO → b ≠ i1 → b ≠ i2 → h₁.get? b = some o → h.get? b = some o) →
      h.get? S = some { cls := .type "list", dict := none, data := .seq acc c, slots := #[] } → acc.toList = as.map Value.ref → as.length = i → ZG xs ys S h as →
      codeAny (model prog w) A (.builtin "list.extend.loop" ⟨[.ref S, .ref z, res], []⟩) R { s with heap := h, toks := tk } := by
  intro k
  induction k with
  | zero =>
    intro i h tk c acc as hk hi hst hkeep hS hacc hal hG
    have hin : i = n := by omega
    have hend : xs[i]? = none ∨ ys[i]? = none := by
      rcases Nat.le_total xs.size ys.size with q | q
      · exact .inl (Array.getElem?_eq_none (by omega))
      · exact .inr (Array.getElem?_eq_none (by omega))
    refine codeAny_builtin PySem.F.entry_extend_loop ?_
    rw [Around.under_plainId PySem.F.plain_extend_loop _]
    show wpAny _ A.in1 (pyNext (.ref z) >>= _) _ _ _
    refine wpAny_bind (zst_done (s := { s with heap := h, toks := tk }) (A := A.in1) hh D hst hend fun h' he => ?_)
    refine wpAny_pure (hR h' tk acc c as (fun b o h1 h2 h3 h4 h5 e => he b o h2 h3 h4 h5 (hkeep b o h1 h2 h3 h4 h5 e)) (he S _ O.z O.TO O.i1 O.i2 hS) (by omega) ⟨hG.rise, hG.above, fun j a hj => ?_⟩ hacc)
    obtain ⟨x, y, e1, e2, e3⟩ := hG.pairs j a hj
    have ha := hG.above a (List.mem_of_getElem? hj)
    exact ⟨x, y, e1, e2, he a _ (Nat.ne_of_gt (Nat.lt_trans hzS ha)) (Nat.ne_of_gt (Nat.lt_trans hT ha)) (Nat.ne_of_gt (Nat.lt_trans hi1 ha)) (Nat.ne_of_gt (Nat.lt_trans hi2 ha)) e3⟩
  | succ k ih =>
    intro i h tk c acc as hk hi hst hkeep hS hacc hal hG
    have hlt : i < n := by omega
    have hix : i < xs.size := by omega
    have hiy : i < ys.size := by omega
    have ex := Array.getElem?_eq_getElem hix
    have ey := Array.getElem?_eq_getElem hiy
    have hsz : acc.size = i := by rw [← Array.length_toList, hacc, List.length_map, hal]
    have hSl : S < h.objs.size := Heap.lt_size hS
    refine codeAny_builtin PySem.F.entry_extend_loop ?_
    rw [Around.under_plainId PySem.F.plain_extend_loop _]
    show wpAny _ A.in1 (pyNext (.ref z) >>= _) _ _ _
    refine wpAny_bind (zst_item (s := { s with heap := h, toks := tk }) (A := A.in1) D hst hSl ex ey fun h' hst' ht hz hkp => ?_)
    dsimp only at ht hz hkp ⊢
    have hS' := hkp S _ O.z O.TO O.i1 O.i2 hS
    have up : ∀ b o, b ≠ S → h'.get? b = some o → (h'.update S (Obj.mapSeq (·.push (Value.ref h.objs.size)))).get? b = some o := fun b o hb e => (Heap.get?_update_other _ _ (Ne.symm hb)).trans e
    show wpAny _ A.in1 (updateSeq S (·.push (Value.ref h.objs.size)) >>= _) _ _ _
    refine wpAny_bind ?_
    refine wpAny_updateSeq hS' rfl (wpAny_pure ⟨plainId_quiet PySem.F.plain_extend_loop _, ih (i + 1) _ tk _ (acc.push (Value.ref h.objs.size)) (as ++ [h.objs.size]) (by omega) hlt (hst'.keep O up)
      (fun b o h1 h2 h3 h4 h5 e => up b o h1 (hkp b o h2 h3 h4 h5 (hkeep b o h1 h2 h3 h4 h5 e))) (Heap.get?_update_self _ hS' rfl) (by rw [Array.toList_push, hacc, List.map_append]; rfl) (by rw [List.length_append, hal]; rfl) ⟨?_, ?_, ?_⟩⟩) (by rw [hsz]; omega) (by show (acc.push (Value.ref h.objs.size)).size ≤ sizeLine + 1; rw [Array.size_push, hsz]; omega)
    · refine List.pairwise_append.mpr ⟨hG.rise, List.pairwise_singleton _ _, fun a ha b hb => ?_⟩
      rw [List.mem_singleton.mp hb]
      exact hG.there ha
    · intro a ha
      rcases List.mem_append.mp ha with ha | ha
      · exact hG.above a ha
      · rw [List.mem_singleton.mp ha]; exact hSl
    · intro j b hj
      rcases Nat.lt_trichotomy j as.length with q1 | q1 | q1
      · rw [List.getElem?_append_left q1] at hj
        obtain ⟨x', y', e1, e2, e3⟩ := hG.pairs j b hj
        have hb := hG.above b (List.mem_of_getElem? hj)
        exact ⟨x', y', e1, e2, up b _ (Nat.ne_of_gt hb) (hkp b _ (Nat.ne_of_gt (Nat.lt_trans hzS hb)) (Nat.ne_of_gt (Nat.lt_trans hT hb)) (Nat.ne_of_gt (Nat.lt_trans hi1 hb)) (Nat.ne_of_gt (Nat.lt_trans hi2 hb)) e3)⟩
      · subst q1
        have hb : h.objs.size = b := by simpa using hj
        subst hb
        exact ⟨_, _, by rw [hal]; exact ex, by rw [hal]; exact ey, up _ _ (Nat.ne_of_gt hSl) ht⟩
      · have hnone : (as ++ [h.objs.size])[j]? = none := List.getElem?_eq_none (by rw [List.length_append, List.length_singleton]; omega)
        rw [hnone] at hj; cases hj
theorem zip_no_len : typeLookup (.type "zip") "__len__" = pure none := by rw [typeLookup_type, builtinLookup_eq_fast]; kernel_rfl
theorem zip_no_hint : typeLookup (.type "zip") "__length_hint__" = pure none := by rw [typeLookup_type, builtinLookup_eq_fast]; kernel_rfl
/-- a zip that has not begun -/
structure Z0 (h : Heap) (z TI TO i1 i2 l1 l2 : Addr) (xs ys : Array Value) : Prop where
  hz : IsZip h z TI TO .none
  hTI : IsPair h TI (.ref i1) (.ref i2)
  hTO : ∃ a b, IsPair h TO a b
  h1 : h.IsTupleIter i1 l1 0
  h2 : h.IsTupleIter i2 l2 0
  hl1 : h.IsTuple l1 xs
  hl2 : h.IsTuple l2 ys
theorem Z0.keep {h h' : Heap} (st : Z0 h z TI TO i1 i2 l1 l2 xs ys) (O : Off S z TI TO i1 i2 l1 l2) (hk : ∀ b o, b ≠ S → h.get? b = some o → h'.get? b = some o) : Z0 h' z TI TO i1 i2 l1 l2 xs ys := by
  obtain ⟨hz, hTI, ⟨a, b, hTO⟩, h1, h2, hl1, hl2⟩ := st
  exact ⟨hk _ _ (Ne.symm O.z) hz, hk _ _ (Ne.symm O.TI) hTI, ⟨a, b, hk _ _ (Ne.symm O.TO) hTO⟩, h1.at fun o e => hk _ o (Ne.symm O.i1) e, h2.at fun o e => hk _ o (Ne.symm O.i2) e, hl1.at fun o e => hk _ o (Ne.symm O.l1) e, hl2.at fun o e => hk _ o (Ne.symm O.l2) e⟩
theorem Z0.st {h : Heap} (st : Z0 h z TI TO i1 i2 l1 l2 xs ys) : Zst h z TI TO i1 i2 l1 l2 S xs ys 0 := ⟨st.hTI, st.h1, st.h2, st.hl1, st.hl2, .inl ⟨st.hz, st.hTO⟩⟩
theorem zip_extend {R : Result → Shared → Prop} (hh : A.handled = none) (D : ZipApart z TI TO i1 i2 l1 l2) (O : Off S z TI TO i1 i2 l1 l2) (hzS : z < S) (hT : TO < S) (hi1 : i1 < S) (hi2 : i2 < S) (st : Z0 s.heap z TI TO i1 i2 l1 l2 xs ys) (res : Value) (c₀ : Nat)
    (hS : s.heap.get? S = some { cls := .type "list", data := .seq #[] c₀ }) (hn : min xs.size ys.size ≤ sizeLine)
    (hR : ∀ h' tk acc c as, (∀ b o, b ≠ S → b ≠ z → b ≠ TO → b ≠ i1 → b ≠ i2 → s.heap.get? b = some o → h'.get? b = some o) → h'.get? S = some { cls := .type "list", dict := none, data := .seq acc c, slots := #[] } → as.length = min xs.size ys.size → ZG xs ys S h' as →
      acc.toList = as.map Value.ref → R (.ok (.ret res)) { s with heap := h', toks := tk }) :
    wpAny (model prog w) A.in1 (Builtin.List.listExtendWith (.ref S) (.ref z) res)
      (fun fin s' => match fin with | .done f => R (.ok f) s' | .again c' => c'.quiet = true ∧ codeAny (model prog w) A c' R s') (fun e s' => R (.error e) s') s := by
  have hTy : s.TypeIs (.ref z) "zip" := ⟨_, st.hz, rfl⟩
  unfold Builtin.List.listExtendWith
  refine wpAny_bind (wpAny_typeOf hTy ?_)
  have h1 : Builtin.List.listSameRef (.ref S) (.ref z) = false := by simp [Builtin.List.listSameRef, O.z]
  have h2 : (Value.type "zip" == Value.type "list") = false := by decide
  have h3 : (Value.type "zip" == Value.type "tuple") = false := by decide
  simp only [h1, h2, h3, Bool.or_false, Bool.false_eq_true, if_false]
  refine wpAny_bind (wpAny_pyIter_zip st.hz ?_)
  refine wpAny_bind (wpAny_holding ?_)
  unfold Builtin.List.listLengthHint
  refine wpAny_bind (wpAny_specialOf hTy zip_no_len ?_)
  show wpAny _ A.in1 (specialOf (Value.ref z) (Str.ofString "__length_hint__") >>= _) _ _ _
  refine wpAny_bind (wpAny_specialOf hTy zip_no_hint ?_)
  refine wpAny_pure ?_
  show wpAny _ A.in1 (rule "list.extend.makes-room" >>= fun _ => Builtin.List.listTouch (.ref S) >>= fun _ =>
    again (.builtin "list.extend.loop" ⟨[.ref S, .ref z, res], []⟩)) _ _ _
  refine wpAny_bind (wpAny_rule ?_)
  refine wpAny_bind ?_
  show wpAny _ A.in1 (updateSeq S (·.push .none) >>= fun _ => updateSeq S (·.pop)) _ _ _
  refine wpAny_bind (wpAny_updateSeq hS rfl ?_)
  have hS₂ := Heap.get?_update_self (Obj.mapSeq (·.push Value.none)) hS rfl
  refine wpAny_updateSeq (hz := by seq_fits) hS₂ rfl ?_
  have hS₃ := Heap.get?_update_self (Obj.mapSeq (·.pop)) hS₂ rfl
  have oth : ∀ b o, b ≠ S → s.heap.get? b = some o → ((s.heap.update S (Obj.mapSeq (·.push Value.none))).update S (Obj.mapSeq (·.pop))).get? b = some o :=
    fun b o hb e => (Heap.get?_update_other _ _ (Ne.symm hb)).trans ((Heap.get?_update_other _ _ (Ne.symm hb)).trans e)
  refine wpAny_pure ⟨plainId_quiet PySem.F.plain_extend_loop _, zst_loop (s := s) (h₁ := s.heap) hh D O hzS hT hi1 hi2 _ rfl hn res hR _ 0 _ _ _ #[] [] rfl (Nat.zero_le _) (st.keep O oth).st (fun b o hb _ _ _ _ e => oth b o hb e) hS₃ rfl rfl ⟨List.Pairwise.nil, (fun _ ha => nomatch ha), (fun j a hj => by simp at hj)⟩⟩
theorem zip_init {R : Result → Shared → Prop} (hh : A.handled = none) (D : ZipApart z TI TO i1 i2 l1 l2) (O : Off S z TI TO i1 i2 l1 l2) (hzS : z < S) (hT : TO < S) (hi1 : i1 < S) (hi2 : i2 < S) (st : Z0 s.heap z TI TO i1 i2 l1 l2 xs ys)
    (hS : s.heap.get? S = some { cls := .type "list", data := .seq #[] }) (hn : min xs.size ys.size ≤ sizeLine)
    (hR : ∀ h' tk acc c as, (∀ b o, b ≠ S → b ≠ z → b ≠ TO → b ≠ i1 → b ≠ i2 → s.heap.get? b = some o → h'.get? b = some o) → h'.get? S = some { cls := .type "list", dict := none, data := .seq acc c, slots := #[] } → as.length = min xs.size ys.size → ZG xs ys S h' as →
      acc.toList = as.map Value.ref → R (.ok (.ret .none)) { s with heap := h', toks := tk }) :
    wpAny (model prog w) A.in1 (Builtin.«list.__init__» ⟨[.ref S, .ref z], []⟩)
      (fun fin s' => match fin with | .done f => R (.ok f) s' | .again c' => c'.quiet = true ∧ codeAny (model prog w) A c' R s') (fun e s' => R (.error e) s') s := by
  show wpAny _ _ (do let old ← Builtin.List.listItems (.ref S); Builtin.List.listUpdate (.ref S) (fun _ => #[]); letGo old.toList.reverse; Builtin.List.listExtendWith (.ref S) (.ref z) .none) _ _ s
  refine wpAny_bind ?_
  unfold Builtin.List.listItems
  refine wpAny_bind (wpAny_seqItems hS rfl (wpAny_pure ?_))
  show wpAny _ _ (updateSeq S (fun _ => #[]) >>= fun _ => letGo (#[] : Array Value).toList.reverse >>= fun _ => Builtin.List.listExtendWith (.ref S) (.ref z) .none) _ _ s
  refine wpAny_bind (wpAny_updateSeq hS rfl ?_)
  have hS₂ := Heap.get?_update_self (Obj.mapSeq (fun _ => (#[] : Array Value))) hS rfl
  have oth : ∀ b o, b ≠ S → s.heap.get? b = some o → (s.heap.update S (Obj.mapSeq (fun _ => (#[] : Array Value)))).get? b = some o :=
    fun b o hb e => (Heap.get?_update_other _ _ (Ne.symm hb)).trans e
  refine wpAny_bind (wpAny_letGo ?_)
  refine zip_extend hh D O hzS hT hi1 hi2 (st.keep O oth) .none _ hS₂ hn (fun h' tk acc c as hk hS' hl hG hacc => ?_)
  exact hR h' tk acc c as (fun b o hb h2 h3 h4 h5 e => hk b o hb h2 h3 h4 h5 (oth b o hb e)) hS' hl hG hacc
theorem zip_call {Q : Value → Shared → Prop} (hh : A.handled = none) (D : ZipApart z TI TO i1 i2 l1 l2) (st : Z0 s.heap z TI TO i1 i2 l1 l2 xs ys) (hn : min xs.size ys.size ≤ sizeLine)
    (hQ : ∀ h' tk acc c as, (∀ b o, b ≠ z → b ≠ TO → b ≠ i1 → b ≠ i2 → s.heap.get? b = some o → h'.get? b = some o) → h'.get? s.heap.objs.size = some { cls := .type "list", dict := none, data := .seq acc c, slots := #[] } → as.length = min xs.size ys.size → ZG xs ys s.heap.objs.size h' as →
      acc.toList = as.map Value.ref → Q (.ref s.heap.objs.size) { s with heap := h', toks := tk }) :
    wpAny (model prog w) A (call (.type "list") [.ref z]) Q E s := by
  refine callType_codes (Q₁ := fun obj s₁ => obj = .ref s.heap.objs.size ∧ s₁ = { s with heap := s.heap.push { cls := .type "list", data := .seq #[] } }) PySem.F.called_list (PySem.F.typeCall_list_1 _) PySem.F.entry_list_init
    (code_list_new _ ⟨rfl, rfl⟩) fun obj s₁ h₁ => ?_
  obtain ⟨rfl, rfl⟩ := h₁
  have hS : (s.heap.push { cls := .type "list", data := .seq #[] }).get? s.heap.objs.size = some { cls := .type "list", data := .seq #[] } := Heap.get?_push_size _ rfl
  have ltz := Heap.lt_size st.hz
  have ltTI := Heap.lt_size st.hTI
  have ltTO : TO < s.heap.objs.size := let ⟨_, _, e⟩ := st.hTO; Heap.lt_size e
  have lt1 : i1 < s.heap.objs.size := let ⟨_, e, _⟩ := st.h1; Heap.lt_size e
  have lt2 : i2 < s.heap.objs.size := let ⟨_, e, _⟩ := st.h2; Heap.lt_size e
  have ltl1 : l1 < s.heap.objs.size := let ⟨_, e, _⟩ := st.hl1; Heap.lt_size e
  have ltl2 : l2 < s.heap.objs.size := let ⟨_, e, _⟩ := st.hl2; Heap.lt_size e
  have O : Off s.heap.objs.size z TI TO i1 i2 l1 l2 := ⟨Nat.ne_of_gt ltz, Nat.ne_of_gt ltTI, Nat.ne_of_gt ltTO, Nat.ne_of_gt lt1, Nat.ne_of_gt lt2, Nat.ne_of_gt ltl1, Nat.ne_of_gt ltl2⟩
  refine ⟨⟨_, hS, rfl⟩, PySem.F.args_list_init_2 _ _, zip_init (A := A.in1) hh D O ltz ltTO lt1 lt2 (st.keep O fun b o _ e => Heap.get?_push_of_some _ e) hS hn (fun h' tk acc c as hk hS' hl hG hacc => ?_)⟩
  exact ⟨rfl, hQ h' tk acc c as (fun b o h2 h3 h4 h5 e => hk b o (Nat.ne_of_lt (Heap.lt_size e)) h2 h3 h4 h5 (Heap.get?_push_of_some _ e)) hS' hl hG hacc⟩
end
end LZ

set_option Elab.async false
set_option linter.all false
set_option maxRecDepth 100000
set_option maxHeartbeats 2000000
/-! FnLZ2: list(zip(t, u)) of two tuples, as a rule. -/
namespace LZ
open PySem PySem.Spec PyProof.Rows L2
def putZ : Hp → List Addr → List (V × V) → Hp
  | H, a :: as, p :: ps => putZ (upd H a (.tup [p.1, p.2])) as ps
  | H, _, _ => H
theorem putZ_off {b : Addr} : ∀ (as : List Addr) (ps : List (V × V)) (H : Hp), b ∉ as → putZ H as ps b = H b
  | [], _, _, _ => rfl
  | _ :: _, [], _, _ => rfl
  | a :: as, p :: ps, H, h => by
    show putZ (upd H a (.tup [p.1, p.2])) as ps b = H b
    rw [putZ_off as ps _ (fun z => h (List.mem_cons_of_mem _ z)), upd_ne (fun z => h (by rw [z]; exact List.mem_cons_self))]
theorem putZ_at : ∀ (as : List Addr) (ps : List (V × V)) (H : Hp), as.length = ps.length → as.Nodup → Paired (fun (t : Addr) (p : V × V) => putZ H as ps t = some (.tup [p.1, p.2])) as ps
  | [], [], _, _, _ => .nil
  | [], _ :: _, _, h, _ => by cases h
  | _ :: _, [], _, h, _ => by cases h
  | a :: as, p :: ps, H, h, hn => by
    have hn' := List.nodup_cons.mp hn
    have ih := putZ_at as ps (upd H a (.tup [p.1, p.2])) (Nat.succ.inj h) hn'.2
    refine .cons ?_ ih
    show putZ (upd H a (.tup [p.1, p.2])) as ps a = some (.tup [p.1, p.2])
    rw [putZ_off as ps _ hn'.1, upd_same]
def rZipL (K : PySem.W.Frag) : List V → Hp → VK → Prop := fun vs H Q => ∃ (a b : Addr) (xs ys : List V), vs = [.ref a, .ref b] ∧ SqT K H a xs ∧ SqT K H b ys ∧ min xs.length ys.length ≤ sizeLine ∧
  ∀ (H' : Hp) (p : Addr) (ts : List Addr), (∀ b o, H b = some o → H' b = some o) → H p = none → (∀ t ∈ ts, H t = none) → p ∉ ts → H' p = some (.lst (ts.map V.ref)) → Paired (fun (t : Addr) (q : V × V) => H' t = some (.tup [q.1, q.2])) ts (xs.zip ys) → Q (.ref p) H'
def tListZip (K : PySem.W.Frag) (ta : TA) : TE := fun σ H Q => ta σ H fun vs H1 => rZipL K vs H1 Q
section
variable {X : Cx}
theorem zip_laid {pins : List (Addr × Obj)} {σ : L2.St} {H : Hp} {s : Shared} {h' : Heap} {tk : Nat} {vx vy : List V} {xs ys : List Value} {acc : Array Value} {c S : Addr} {as : List Addr} (I : Inv X pins σ H s) (hz : min vx.length vy.length ≤ sizeLine) (rx : Vals vx xs) (ry : Vals vy ys) (hSs : s.heap.objs.size ≤ S)
    (hk : ∀ b o, s.heap.get? b = some o → h'.get? b = some o) (hS : h'.get? S = some { cls := .type "list", dict := none, data := .seq acc c, slots := #[] }) (hl : as.length = min xs.toArray.size ys.toArray.size) (hG : ZG xs.toArray ys.toArray S h' as) (hacc : acc.toList = as.map Value.ref) :
    ∃ H' : Hp, (∀ b o, H b = some o → H' b = some o) ∧ H S = none ∧ (∀ t ∈ as, H t = none) ∧ S ∉ as ∧ H' S = some (.lst (as.map V.ref)) ∧ Paired (fun (t : Addr) (q : V × V) => H' t = some (.tup [q.1, q.2])) as (vx.zip vy) ∧ Inv X pins σ H' { s with heap := h', toks := tk } := by
  have lx := rx.length
  have ly := ry.length
  have lk : (vx.zip vy).length = as.length := by rw [List.length_zip, hl, lx, ly]; simp
  have hSn : S ∉ as := fun z => Nat.lt_irrefl _ (hG.above _ z)
  have nd : as.Nodup := List.Pairwise.imp (fun {a b} (h : a < b) => Nat.ne_of_lt h) hG.rise
  have new : ∀ t ∈ as, H t = none := fun t ht => I.hok.fresh (Nat.le_trans hSs (Nat.le_of_lt (hG.above t ht)))
  have newS : H S = none := I.hok.fresh hSs
  have atP := putZ_at as (vx.zip vy) (upd H S (.lst (as.map V.ref))) lk.symm nd
  have off : ∀ b, b ∉ as → b ≠ S → putZ (upd H S (.lst (as.map V.ref))) as (vx.zip vy) b = H b := fun b h1 h2 => by rw [putZ_off as _ _ h1, upd_ne h2]
  have low : ∀ b o, s.heap.get? b = some o → b ∉ as ∧ b ≠ S := fun b o e => ⟨fun z => absurd (Nat.lt_of_lt_of_le (Heap.lt_size e) hSs) (Nat.not_lt.mpr (Nat.le_of_lt (hG.above b z))), Nat.ne_of_lt (Nat.lt_of_lt_of_le (Heap.lt_size e) hSs)⟩
  have kp : ∀ b u, H b = some u → (putZ (upd H S (.lst (as.map V.ref))) as (vx.zip vy)) b = some u := fun b u e => by
    rw [off b (fun z => by rw [new b z] at e; cases e) (fun z => by rw [z, newS] at e; cases e)]
    exact e
  have eS : putZ (upd H S (.lst (as.map V.ref))) as (vx.zip vy) S = some (.lst (as.map V.ref)) := by rw [putZ_off as _ _ hSn, upd_same]
  refine ⟨putZ (upd H S (.lst (as.map V.ref))) as (vx.zip vy), kp, newS, new, hSn, eS, atP, ?_⟩
  refine I.call' (ch := []) rfl ⟨fun b o q _ _ _ => hk b o q, fun b o q _ _ _ => ⟨o.slots, hk b o q⟩, fun b o q n _ => ?_, fun b o q _ => ⟨o, hk b o q⟩, fun b xs q => kp b _ q, fun b o u q => kp b _ q, fun b ps q => ⟨#[], by rw [kp b _ q]; simp⟩⟩ (fun b u q => ?_) I.bare fun b z => by simp at z
  · obtain ⟨z1, z2⟩ := low b o q
    rw [off b z1 z2]
    exact n
  · by_cases hb : b ∈ as
    · obtain ⟨j, pk, e1, e2, e3⟩ := LiI.paired_ix atP hb
      rw [e3] at q
      cases q
      obtain ⟨x, y, f1, f2, f3⟩ := hG.pairs j b e1
      obtain ⟨g1, g2⟩ := List.getElem?_zip_eq_some.mp e2
      obtain ⟨u1, k1, r1⟩ := rx.get g1
      obtain ⟨u2, k2, r2⟩ := ry.get g2
      have f1 : xs[j]? = some x := by simpa using f1
      have f2 : ys[j]? = some y := by simpa using f2
      rw [k1] at f1; cases f1
      rw [k2] at f2; cases f2
      exact ⟨by show 2 ≤ sizeLine; decide, [x, y], .cons r1 (.cons r2 .nil), ⟨_, f3, rfl, _, rfl⟩⟩
    · by_cases hb2 : b = S
      · rw [hb2] at q ⊢
        rw [eS] at q
        cases q
        refine ⟨by rw [List.length_map, ← lk, List.length_zip]; exact hz, acc.toList, c, by rw [hacc]; exact LiI.vals_refs as, ?_⟩
        rw [Array.toArray_toList]
        exact hS
      · rw [off b hb hb2] at q
        exact (I.hok b u q).stay (fun d v _ y => hk d v y) (fun d y => kp d _ y) fun d xs y => kp d _ y
/-- list(zip(t, u)) -/
theorem pe_listZip {e e2 : Expr} {ta : TA} {p p2 cpos pos : Pos} (hc : X.calm = true) (ha : PA X [e, e2] ta) (hg : Gl X "list") (hm : X.mg "list" = none) (hv : bootBuiltins "list" = some (.type "list")) (hg2 : Gl X "zip") (hm2 : X.mg "zip" = none)
    (hs2 : starEach [e, e2] X.env = (false, eval e X.env) :: starEach [e2] X.env := by rfl) (hpl : (backTo cpos (starEach [e2] X.env)).any (·.1) = false := by rfl)
    (hs : starEach [.Call (.Name "zip" p2) [e, e2] [] cpos] X.env = (false, eval (.Call (.Name "zip" p2) [e, e2] [] cpos) X.env) :: starEach [] X.env := by rfl) :
    PE X (.Call (.Name "list" p) [.Call (.Name "zip" p2) [e, e2] [] cpos] [] pos) (tListZip X.K ta) := by
  refine ⟨fun pins s σ H Q I hq => ?_⟩
  refine wpAny_Call_Name_kw (ld_blt I hg hm hv ?_)
  refine PyProof.Rows.callWith_type1 ?_ hs rfl
  rw [hs]
  show wpAny _ _ (spliced ((false, eval (.Call (.Name "zip" p2) [e, e2] [] cpos) X.env) :: backTo pos (starEach [] X.env))) _ _ s
  refine Calls.spliced_cons ?_
  refine wpAny_Call_Name_kw (ld_blt I hg2 hm2 PyProof.Rows.boot_zip (PyProof.Rows.callWith_type1 (thn (ha.run cpos pins s σ H _ I hq) fun us s1 ⟨vs, H1, I1, r1, q1⟩ => ?_) hs2 hpl))
  obtain ⟨a, b, vx, vy, ex, hqx, hqy, hz0, q⟩ := q1
  subst ex
  cases r1 with
  | cons r rr =>
    cases rr with
    | cons r' rr =>
      cases rr
      cases r
      cases r'
      obtain ⟨its, rv, p1, _⟩ := I1.tuple hqx
      obtain ⟨its2, rv2, p2', _⟩ := I1.tuple hqy
      obtain ⟨o1, ho1, _⟩ := id p1
      obtain ⟨o2, ho2, _⟩ := id p2'
      refine RZ.call_zipT (show s1.heap.IsTuple a its.toArray from p1) (show s1.heap.IsTuple b its2.toArray from p2') fun h' hz hTI hTO h1 h2 hsz hk => ?_
      refine Calls.spliced_nil ?_
      have lx := rv.length
      have ly := rv2.length
      refine zip_call (s := { s1 with heap := h' }) (I1.ok.hd hc) (PySem.W.ktu_apart s1.heap.objs.size a b (Heap.lt_size ho1) (Heap.lt_size ho2)) ⟨hz, hTI, ⟨_, _, hTO⟩, h1, h2, (show s1.heap.IsTuple a its.toArray from p1).at fun o e => hk _ o e, (show s1.heap.IsTuple b its2.toArray from p2').at fun o e => hk _ o e⟩ (by simp; omega) fun h'' tk acc c as hk2 hS hl hG hacc => ?_
      obtain ⟨H', k1, k2, k3, k4, k5, k6, J⟩ := zip_laid (tk := tk) I1 hz0 rv rv2 (S := h'.objs.size) (by rw [hsz]; omega) (fun b o e => by
        have := Heap.lt_size e
        exact hk2 b o (Nat.ne_of_lt (Nat.lt_of_lt_of_le this (Nat.le_add_right _ _))) (Nat.ne_of_lt (Nat.lt_of_lt_of_le this (Nat.le_add_right _ _))) (Nat.ne_of_lt this) (Nat.ne_of_lt (Nat.lt_of_lt_of_le this (Nat.le_add_right _ _))) (hk b o e)) hS hl hG hacc
      exact ⟨.ref _, H', J, rfl, q H' _ as k1 k2 k3 k4 k5 k6⟩
end
end LZ

set_option Elab.async false
set_option linter.all false
set_option maxRecDepth 100000
set_option maxHeartbeats 1000000
/-! FnLZ3: list(zip(t, u)) of two tuples, by value. -/
namespace Fn
open PySem PySem.Spec PyProof.Rows L2
section
variable {X : Cx} {G : Gx} {cl : Nat → Addr} {E : XK} {W : Wd} {H H' : Hp} {M : Mem} {e e2 : Expr} {ga : FA}
def oListZip : List D → Mem → R D
  | [.tup l, .tup k], M => if min l.length k.length ≤ 16777216 then .ok (.lst (zipD l k)) M else .no
  | _, _ => .no
theorem zip_rp {l k : List D} {us vs : List V} {ts : List Addr} (m : MemOk G W H M) (f : Fut W H W H') (rx : RpL G W H l us) (ry : RpL G W H k vs) (h : Paired (fun (t : Addr) (q : V × V) => H' t = some (.tup [q.1, q.2])) ts (us.zip vs)) : RpL G W H' (zipD l k) (ts.map V.ref) := by
  induction l generalizing k us vs ts with
  | nil =>
    have : us = [] := rx
    subst this
    cases h
    exact (rfl : ([] : List V) = [])
  | cons d l ih =>
    obtain ⟨u, us', rfl, r1, r2⟩ := rx
    cases k with
    | nil =>
      have : vs = [] := ry
      subst this
      cases h
      exact (rfl : ([] : List V) = [])
    | cons d' k =>
      obtain ⟨v, vs', rfl, q1, q2⟩ := ry
      cases h with
      | cons h1 h2 =>
        exact ⟨_, _, rfl, ⟨_, _, rfl, .inl h1, _, _, rfl, m.rp f r1, _, _, rfl, m.rp f q1, rfl⟩, ih r2 q2 h2⟩
theorem sn_listZip {x y : Str} {p p2 cpos pos : Pos} (hc : X.calm = true) (hx : x = "list") (hg : Gl X x) (hm : X.mg x = none) (hy : y = "zip") (hg2 : Gl X y) (hm2 : X.mg y = none) (ha : PA X [e, e2] (tA ⟨X.K, cl⟩ E ga))
    (hs2 : starEach [e, e2] X.env = (false, eval e X.env) :: starEach [e2] X.env := by rfl) (hpl : (backTo cpos (starEach [e2] X.env)).any (·.1) = false := by rfl)
    (hs : starEach [.Call (.Name y p2) [e, e2] [] cpos] X.env = (false, eval (.Call (.Name y p2) [e, e2] [] cpos) X.env) :: starEach [] X.env := by rfl) :
    PE X (.Call (.Name x p) [.Call (.Name y p2) [e, e2] [] cpos] [] pos) (tE ⟨X.K, cl⟩ E (mCall oListZip ga)) := by
  subst hx hy
  refine pe_imp (LZ.pe_listZip hc ha hg hm (by decide +kernel) hg2 hm2 hs2 hpl hs) fun σ H Q ⟨W, env, M, s, p⟩ => ?_
  refine tA.bind s p fun ds m1 W1 H1 us f1 s1 r1 p1 => ?_
  unfold oListZip at p1
  split at p1
  · rename_i l k
    obtain ⟨u, us', rfl, ⟨a1, xs, rfl, q1, q2⟩, v, us2, rfl, ⟨b1, ys, rfl, q3, q4⟩, rfl⟩ := r1
    split at p1
    · rename_i hz
      refine ⟨a1, b1, xs, ys, rfl, q1.sq, q3.sq, by rw [q2.len, q4.len]; exact hz, fun H' q ts k1 k2 k3 k4 k5 k6 => ?_⟩
      have f : Fut W1 H1 W1 H' := Fut.more k1
      exact p1 W1 H' f (s1.mem.more k1) _ ⟨q, _, rfl, ⟨k5, (s1.mem.fresh k2).1, (s1.mem.fresh k2).2⟩, zip_rp s1.mem f q2 q4 k6⟩
    · exact p1.elim
  · exact p1.elim
end
end Fn

set_option Elab.async false
set_option linter.all false
set_option maxRecDepth 100000
set_option maxHeartbeats 1000000
/-! FnUnL: (a, b, ..) = a list of that length. -/
namespace UnL
open PySem PyProof.Rows
open PySem.Sem (wp)
section
variable {prog : Program} {w : World} {A : Around} {E : Value → Shared → Prop} {s : Shared}
theorem draw_list {it t : Addr} {items : Array Value} (hne : t ≠ it) : ∀ (n i : Nat) (s : Shared) (Q : List Value → Shared → Prop), s.heap.IsListIter it t i → s.heap.IsList t items → i + n ≤ items.size →
    (∀ h', h'.IsListIter it t (i + n) → Heap.SameBut it s.heap h' → Q ((items.toList.drop i).take n) { s with heap := h' }) → wpAny (model prog w) A (draw (.ref it) n) Q E s
  | 0, i, s, Q, hit, _, _, hQ => by
    show wpAny _ _ (pure []) Q E s
    exact wpAny_pure (by simpa using hQ s.heap hit (Heap.SameBut.refl ..))
  | n + 1, i, s, Q, hit, ht, hle, hQ => by
    have hlt : i < items.size := by omega
    show wpAny _ _ (pyNext (.ref it) >>= _) Q E s
    refine wpAny_bind (wpAny_pyNext_list_item hit ht (x := items[i]) (by simp [hlt]) fun h₁ hit₁ hs₁ => ?_)
    refine wpAny_bind (wpAny_holding (draw_list hne n (i + 1) _ _ hit₁ (ht.extBut hs₁.extBut hne) (by omega) fun h₂ hit₂ hs₂ => wpAny_pure ?_))
    have hd : items.toList.drop i = items[i] :: items.toList.drop (i + 1) := by simp [List.drop_eq_getElem_cons, hlt]
    have := hQ h₂ (by rw [show i + (n + 1) = i + 1 + n by omega]; exact hit₂) (hs₁.trans hs₂)
    rw [hd, List.take_succ_cons] at this
    exact this
theorem unpackItems_list {t : Addr} {items : Array Value} {Q : List Value → Shared → Prop} (hh : A.handled = none) (ht : s.heap.IsList t items)
    (hQ : ∀ h', Heap.ExtBut s.heap.objs.size s.heap h' → Q items.toList { s with heap := h' }) : wpAny (model prog w) A (unpackItems (.ref t) items.size none) Q E s := by
  have hlt : t ≠ s.heap.objs.size := by obtain ⟨o, ho, _⟩ := ht; exact Nat.ne_of_lt (Heap.lt_size ho)
  unfold unpackItems
  refine wpAny_bind ?_
  · unfold notIterableAtAll
    refine wpAny_bind (wpAny_specialOf ht.typeIs slot_list_iter.lookup ?_)
    refine wpAny_pure ?_
    simp only [Bool.false_eq_true, if_false]
    refine wpAny_bind (wpAny_holding (wpAny_pyIter_list ht ?_))
    have hp : ∀ {o : Obj}, (s.heap.push o).IsList t items := fun {o} => ht.at fun o' e => Heap.get?_push_of_some _ e
    refine wpAny_bind (wpAny_holding (draw_list hlt items.size 0 _ _ ⟨_, Heap.get?_push_size _ rfl, rfl, rfl⟩ hp (by omega) fun h₁ hit₁ hs₁ => ?_))
    have hall : List.take items.size (List.drop 0 items.toList) = items.toList := by
      rw [List.drop_zero]; exact List.take_of_length_le (by simp)
    rw [hall]
    rw [if_neg (by simp)]
    have ht₁ : h₁.IsList t items := hp.extBut hs₁.extBut hlt
    refine wpAny_bind (wpAny_holding (wpAny_pyNext_list_end hh hit₁ ht₁ (by simp) fun h₂ he₂ => ?_))
    simp only [Option.isSome_none, Bool.false_eq_true, if_false]
    refine wpAny_pure (hQ h₂ fun b o hb e => he₂ b o hb (hs₁.extBut b o hb (Heap.get?_push_of_some _ e)))
theorem unpack_list {t : Addr} {items : Array Value} {targets : List (Bool × (Value → Sem Unit))} {Q : Unit → Shared → Prop} (hh : A.handled = none) (ht : s.heap.IsList t items)
    (hn : targets.length = items.size) (hstar : targets.findIdx? (·.1) = none)
    (h : ∀ h', Heap.ExtBut s.heap.objs.size s.heap h' → wpAny (model prog w) A (assignInOrder (targets.map (·.2)) items.toList) Q E { s with heap := h' }) :
    wpAny (model prog w) A (unpack (.ref t) targets) Q E s := by
  unfold unpack
  rw [hn, hstar]
  exact wpAny_bind (wpAny_holding (unpackItems_list hh ht h))
theorem assign_Tuple_list {env : Env} {elts : List Expr} {x1} {pos : Pos} {t : Addr} {items : Array Value} {Q : Unit → Shared → Prop} (hh : A.handled = none) (ht : s.heap.IsList t items)
    (hn : (assignEach elts env).length = items.size) (hstar : (assignEach elts env).findIdx? (·.1) = none)
    (h : ∀ h', Heap.ExtBut s.heap.objs.size s.heap h' → wpAny (model prog w) A (assignInOrder ((assignEach elts env).map (·.2)) items.toList) Q E { s with heap := h' }) :
    wpAny (model prog w) A (assign (.Tuple elts x1 pos) env (.ref t)) Q E s := by
  rw [assign_Tuple]
  exact wpAny_bind (wpAny_standAt (unpack_list hh ht hn hstar h))
end
end UnL
namespace Fn
open PySem PySem.Spec PyProof.Rows L2
section
variable {X : Cx} {G : Gx} {cl : Nat → Addr} {E : XK} {W : Wd} {H : Hp} {M : Mem}
def gTupA (K : PySem.W.Frag) (n : Nat) (t : TGs) : TG := fun v σ H Q => ∃ a xs, v = .ref a ∧ (SqT K H a xs ∨ SqL K H a xs) ∧ xs.length = n ∧ t xs σ H Q
theorem pg_tupA {es : List Expr} {k : Nat} {t : TGs} {n : Nat} {pos : Pos} (hc : X.calm = true) (h : PGs X es t)
    (hn : (assignEach es X.env).length = n := by rfl) (hst : (assignEach es X.env).findIdx? (·.1) = none := by rfl) : PG X (.Tuple es k pos) (gTupA X.K n t) := by
  refine ⟨fun pins s σ H v u Q I r hw => ?_⟩
  obtain ⟨a, xs, e1, hq, hl, hw⟩ := hw
  rcases hq with hq | hq
  · exact (pg_tup hc h hn hst).run pins s σ H v u Q I r ⟨a, xs, e1, hq, hl, hw⟩
  · subst e1
    cases r
    obtain ⟨its, rv, ht, hz⟩ := I.list hq
    refine UnL.assign_Tuple_list (I.ok.hd hc) ht.isList (by simp [hn, ← hl, rv.length]) hst fun h' hx => ?_
    have I1 : Inv X pins σ H { s with heap := h' } := I.kept (t' := s.toks) fun b o e => hx b o (Nat.ne_of_lt (Heap.lt_size e)) e
    exact h.run pins _ σ H xs _ Q I1 (by simpa using rv) hw
/-- a tuple or a list in a cell -/
def gTA (n : Nat) (g : FGs) : FG := fun d env M => match d with
  | .tup l => if l.length = n then g l env M else .no
  | .ref i => match M[i]? with
    | some (.lst l) => if l.length = n then g l env M else .no
    | _ => .no
  | _ => .no
theorem sg_tupA {es : List Expr} {k : Nat} {g : FGs} {n : Nat} {sl : List Nat} {pos : Pos} (hc : X.calm = true) (h : PGs X es (tGts ⟨X.K, cl⟩ E sl g))
    (hn : (assignEach es X.env).length = n := by rfl) (hst : (assignEach es X.env).findIdx? (·.1) = none := by rfl) : PG X (.Tuple es k pos) (tGt ⟨X.K, cl⟩ E sl (gTA n g)) := pg_imp (pg_tupA hc h hn hst) fun v σ H Q ⟨W, env, M, d, s, r, p⟩ => by
  unfold gTA at p
  split at p
  · rename_i l
    obtain ⟨a1, us, e1, s1, r1⟩ := r
    split at p
    · rename_i hl
      exact ⟨a1, us, e1, .inl s1.sq, by rw [r1.len, hl], W, env, M, l, s, r1, p⟩
    · exact p.elim
  · rename_i i
    obtain ⟨a1, e1, rfl⟩ := r
    split at p
    · rename_i l hcell
      obtain ⟨us, q1, r1⟩ := s.mem.cell _ _ a1 hcell e1
      split at p
      · rename_i hl
        exact ⟨a1, us, rfl, .inr (.inl (.inl q1)), by rw [r1.len, hl], W, env, M, l, s, r1, p⟩
      · exact p.elim
    · exact p.elim
  · exact p.elim
theorem gTA_tup (n : Nat) (g : FGs) (l : List D) {env : Fn.Env} : gTA n g (.tup l) env M = if l.length = n then g l env M else .no := rfl
theorem gTA_ref {i n : Nat} {g : FGs} {l : List D} {env : Fn.Env} (h : M[i]? = some (.lst l)) : gTA n g (.ref i) env M = if l.length = n then g l env M else .no := by simp only [gTA, h]
end
end Fn

set_option Elab.async false
set_option linter.all false
set_option maxRecDepth 100000
set_option maxHeartbeats 4000000
namespace K15
open PySem PySem.Spec PyProof.Rows L2 Fn
def topS (i : Nat) : Stmt := PySem.Challenge.pw_grantchain_k15_tables_by_turns.main.body.getD i (.Pass ⟨0, 0, 0, 0⟩)
abbrev s_Table___init__ : Stmt := inClass (topS 1) 0
theorem sc_Table___init__ : FnScope ["self"] ["self"] (defScope s_Table___init__) := ⟨rfl, rfl, rfl, by decide +kernel, rfl, by decide +kernel, by decide +kernel⟩
/-- Table.__init__(self); slots: 0 self -/
noncomputable def B_Table___init__ : FS := (mSeq (mFldSet 0 "used" (mVar 0) (mLst true aNil)) (mSeq (mFldSet 0 "there" (mVar 0) mDNewK) (mFldSet 0 "known" (mVar 0) mDNewT)))
noncomputable def g_Table___init__ : FD := runB B_Table___init__ 1
abbrev s_Table___len__ : Stmt := inClass (topS 1) 1
theorem sc_Table___len__ : FnScope ["self"] ["self"] (defScope s_Table___len__) := ⟨rfl, rfl, rfl, by decide +kernel, rfl, by decide +kernel, by decide +kernel⟩
/-- Table.__len__(self); slots: 0 self -/
noncomputable def B_Table___len__ : FS := (mRet (mCall oLenA (aCons (mFld 0 "there" (mVar 0)) aNil)))
noncomputable def g_Table___len__ : FD := runB B_Table___len__ 1
abbrev s_Table_free_place : Stmt := inClass (topS 1) 2
theorem sc_Table_free_place : FnScope ["self", "place"] ["self"] (defScope s_Table_free_place) := ⟨rfl, rfl, rfl, by decide +kernel, rfl, by decide +kernel, by decide +kernel⟩
/-- Table.free_place(self); slots: 0 self, 1 place -/
noncomputable def T_Table_free_place_0 : FT := (bOf (mOp (oInA false) (mVar 1) (mFld 0 "there" (mVar 0))))
noncomputable def L_Table_free_place_1 : FS := (mAug 1 (oI fun i j => .int (i + j)) (mC (.int 1)))
noncomputable def B_Table_free_place : FS := (mSeq (mSet 1 (mC (.int 0))) (mSeq (mWhile T_Table_free_place_0 L_Table_free_place_1) (mRet (mVar 1))))
noncomputable def g_Table_free_place : FD := runB B_Table_free_place 2
abbrev s_Table_leads : Stmt := inClass (topS 1) 4
theorem sc_Table_leads : FnScope ["self", "handle", "place", "turn"] ["self", "handle"] (defScope s_Table_leads) := ⟨rfl, rfl, rfl, by decide +kernel, rfl, by decide +kernel, by decide +kernel⟩
/-- Table.leads(self, handle); slots: 0 self, 1 handle, 2 place, 3 turn -/
noncomputable def B_Table_leads : FS := (mSeq (mAsg (mVar 1) (gT 2 (gsCons (gN 2) (gsCons (gN 3) gsNil)))) (mSeq (mIfS (tOrM (bOf (mOp (oInA true) (mVar 2) (mFld 0 "there" (mVar 0)))) (bOf (mOp (oEq true) (mOp oIxA (mOp oIxA (mFld 0 "there" (mVar 0)) (mVar 2)) (mC (.int 0))) (mVar 3)))) (mRet (mC .non)) mPass) (mRet (mOp oIxA (mOp oIxA (mFld 0 "there" (mVar 0)) (mVar 2)) (mC (.int 1))))))
noncomputable def g_Table_leads : FD := runB B_Table_leads 4
abbrev s_Table_handles : Stmt := inClass (topS 1) 6
theorem sc_Table_handles : FnScope ["self", "place", "turn", "thing"] ["self"] (defScope s_Table_handles) := ⟨rfl, rfl, rfl, by decide +kernel, rfl, by decide +kernel, by decide +kernel⟩
/-- Table.handles(self); slots: 0 self, 1 place, 2 turn, 3 thing -/
noncomputable def C_Table_handles_0 : FE := (mTup (aCons (mVar 1) (aCons (mVar 2) aNil)))
noncomputable def B_Table_handles : FS := (mRet (mCall (oSorted true) (aCons (mLockE (mFld 0 "there" (mVar 0)) (mLc false [1, 2, 3] (iItemsA (mFld 0 "there" (mVar 0))) (gT 2 (gsCons (gN 1) (gsCons (gT 2 (gsCons (gN 2) (gsCons (gN 3) gsNil))) gsNil))) tsYes C_Table_handles_0)) aNil)))
noncomputable def g_Table_handles : FD := runB B_Table_handles 4
abbrev s_law_cell : Stmt := topS 3
theorem sc_law_cell : FnScope ["_law_script", "_law_k", "_law_amount"] ["_law_script", "_law_k"] (defScope s_law_cell) := ⟨rfl, rfl, rfl, by decide +kernel, rfl, by decide +kernel, by decide +kernel⟩
/-- _law_cell(_law_script, _law_k); slots: 0 _law_script, 1 _law_k, 2 _law_amount -/
noncomputable def B_law_cell : FS := (mSeq (mIfS (bOf (mOp oLt (mVar 1) (mCall oLen (aCons (mVar 0) aNil)))) (mRet (mOp oIx (mVar 0) (mVar 1))) mPass) (mSeq (mSet 2 (mOp (oAdd false) (mOp (oMul false) (mVar 1) (mC (.int 7919))) (mC (.int 5)))) (mSeq (mIfS (bOf (mOp oGt (mCall oLen (aCons (mVar 0) aNil)) (mC (.int 0)))) (mSet 2 (mOp (oAdd false) (mOp (oMul false) (mOp oMod (mOp oIx (mVar 0) (mOp oMod (mOp (oMul false) (mVar 1) (mC (.int 7))) (mCall oLen (aCons (mVar 0) aNil)))) (mC (.int 2147483629))) (mC (.int 48271))) (mOp (oMul false) (mVar 1) (mC (.int 7919))))) mPass) (mRet (mOp (oMul false) (mOp oMod (mVar 2) (mC (.int 2147483647))) (mC (.int 31)))))))
noncomputable def g_law_cell : FD := runB B_law_cell 3
abbrev s_law_draw : Stmt := topS 5
theorem sc_law_draw : FnScope ["_law_flow_here", "_law_many", "_law_digit", "_law_amount"] ["_law_flow_here", "_law_many"] (defScope s_law_draw) := ⟨rfl, rfl, rfl, by decide +kernel, rfl, by decide +kernel, by decide +kernel⟩
/-- _law_draw(_law_flow_here, _law_many); slots: 0 _law_flow_here, 1 _law_many, 2 _law_digit, 3 _law_amount -/
noncomputable def B_law_draw : FS := (mSeq (mIfS (bOf (mOp oGt (mOp oIx (mVar 0) (mC (.int 0))) (mC (.int 0)))) (mSeq (mSet 2 (mOp oMod (mOp oIx (mVar 0) (mC (.int 0))) (mVar 1))) (mSeq (mAsg (mOp oDiv (mOp oIx (mVar 0) (mC (.int 0))) (mVar 1)) (gIx (mVar 0) (mC (.int 0)))) (mRet (mVar 2)))) mPass) (mSeq (mAsg (mOp (oAdd false) (mOp oIx (mVar 0) (mC (.int 1))) (mC (.int 1))) (gIx (mVar 0) (mC (.int 1)))) (mSeq (mSet 3 (mOp oMod (mOp (oAdd false) (mOp (oAdd false) (mOp (oMul false) (mOp oIx (mVar 0) (mC (.int 2))) (mOp (oAdd false) (mC (.int 48271)) (mOp (oMul false) (mC (.int 2)) (mOp oIx (mVar 0) (mC (.int 1)))))) (mOp (oMul false) (mC (.int 7919)) (mOp oIx (mVar 0) (mC (.int 1))))) (mC (.int 1))) (mC (.int 2147483629)))) (mSeq (mSet 3 (mOp oMod (mOp (oMul false) (mVar 3) (mVar 3)) (mC (.int 2147483587)))) (mRet (mOp oMod (mOp oDiv (mOp oMod (mOp (oMul false) (mOp (oAdd false) (mVar 3) (mC (.int 5))) (mOp (oAdd false) (mVar 3) (mC (.int 40692)))) (mC (.int 2147483579))) (mC (.int 31))) (mVar 1)))))))
noncomputable def g_law_draw : FD := runB B_law_draw 4
abbrev s_law_alike : Stmt := topS 6
theorem sc_law_alike : FnScope ["_law_found", "_law_due", "_law_left", "_law_one", "_law_other"] ["_law_found", "_law_due"] (defScope s_law_alike) := ⟨rfl, rfl, rfl, by decide +kernel, rfl, by decide +kernel, by decide +kernel⟩
/-- _law_alike(_law_found, _law_due); slots: 0 _law_found, 1 _law_due, 2 _law_left, 3 _law_one, 4 _law_other -/
noncomputable def T_law_alike_0 : FT := (bOf (mOp oGt (mCall oLen (aCons (mVar 2) aNil)) (mC (.int 0))))
noncomputable def L_law_alike_1 : FS := (mSeq (mAsg (mMeth "list" oPop (mVar 2) aNil) (gT 2 (gsCons (gN 3) (gsCons (gN 4) gsNil)))) (mSeq (mIfS (bOf (mOp (oEq true) (mUn (oIsi "tuple") (mVar 3)) (mUn (oIsi "tuple") (mVar 4)))) (mRet (mC (.bl false))) mPass) (mSeq (mIfS (bOf (mOp (oEq true) (mUn (oIsi "bool") (mVar 3)) (mUn (oIsi "bool") (mVar 4)))) (mRet (mC (.bl false))) mPass) (mIfS (bOf (mUn (oIsi "tuple") (mVar 4))) (mSeq (mIfS (bOf (mOp (oEq true) (mCall oLen (aCons (mVar 3) aNil)) (mCall oLen (aCons (mVar 4) aNil)))) (mRet (mC (.bl false))) mPass) (mExpr (mMeth "list" oExtend (mVar 2) (aCons (mCall oListZip (aCons (mVar 3) (aCons (mVar 4) aNil))) aNil)))) (mIfS (tOrM (bOf (mOp (oEq true) (mUn (oIsi "str") (mVar 3)) (mUn (oIsi "str") (mVar 4)))) (bOf (mOp (oEq true) (mVar 3) (mVar 4)))) (mRet (mC (.bl false))) mPass)))))
noncomputable def B_law_alike : FS := (mSeq (mSet 2 (mLst true (aCons (mTup (aCons (mVar 0) (aCons (mVar 1) aNil))) aNil))) (mSeq (mWhile T_law_alike_0 L_law_alike_1) (mRet (mC (.bl true)))))
noncomputable def g_law_alike : FD := gcB B_law_alike 5
abbrev s_law_model_put : Stmt := topS 9
theorem sc_law_model_put : FnScope ["_law_model", "_law_thing", "_law_row", "_law_is_there", "_law_free", "_law_k"] ["_law_model", "_law_thing"] (defScope s_law_model_put) := ⟨rfl, rfl, rfl, by decide +kernel, rfl, by decide +kernel, by decide +kernel⟩
/-- _law_model_put(_law_model, _law_thing); slots: 0 _law_model, 1 _law_thing, 2 _law_row, 3 _law_is_there, 4 _law_free, 5 _law_k -/
noncomputable def T_law_model_put_0 : FT := (bOf (mOp (oInD false) (mVar 1) (mVar 2)))
noncomputable def C_law_model_put_1 : FE := (mVar 2)
noncomputable def T_law_model_put_2 : FT := (tNotM (tOf (mOp oIx (mOp oIx (mVar 0) (mVar 5)) (mC (.int 1)))))
noncomputable def C_law_model_put_3 : FE := (mVar 5)
noncomputable def B_law_model_put : FS := (mSeq (mIfS (bOf (mOp oGt (mCall oLen (aCons (mLc false [2, 3] (iSq (mVar 0)) (gTA 2 (gsCons (gN 2) (gsCons (gN 3) gsNil))) T_law_model_put_0 C_law_model_put_1) aNil)) (mC (.int 0)))) (mRet (mC .non)) mPass) (mSeq (mSet 4 (mLc false [5] (iR1 (aCons (mCall oLen (aCons (mVar 0) aNil)) aNil)) (gN 5) T_law_model_put_2 C_law_model_put_3)) (mSeq (mIfS (bOf (mOp (oEq false) (mCall oLen (aCons (mVar 4) aNil)) (mC (.int 0)))) (mSeq (mSet 4 (mLst false (aCons (mCall oLen (aCons (mVar 0) aNil)) aNil))) (mExpr (mMeth "list" oAppend (mVar 0) (aCons (mLst true (aCons (mLst true aNil) (aCons (mC (.bl false)) aNil))) aNil)))) mPass) (mSeq (mExpr (mMeth "list" oAppend (mOp oIx (mOp oIx (mVar 0) (mOp oIx (mVar 4) (mC (.int 0)))) (mC (.int 0))) (aCons (mVar 1) aNil))) (mSeq (mAsg (mC (.bl true)) (gIx (mOp oIx (mVar 0) (mOp oIx (mVar 4) (mC (.int 0)))) (mC (.int 1)))) (mRet (mTup (aCons (mOp oIx (mVar 4) (mC (.int 0))) (aCons (mOp oSub (mCall oLen (aCons (mOp oIx (mOp oIx (mVar 0) (mOp oIx (mVar 4) (mC (.int 0)))) (mC (.int 0))) aNil)) (mC (.int 1))) aNil)))))))))
noncomputable def g_law_model_put : FD := runB B_law_model_put 6
abbrev s_law_model_leads : Stmt := topS 10
theorem sc_law_model_leads : FnScope ["_law_model", "_law_grip", "_law_at", "_law_turn"] ["_law_model", "_law_grip"] (defScope s_law_model_leads) := ⟨rfl, rfl, rfl, by decide +kernel, rfl, by decide +kernel, by decide +kernel⟩
/-- _law_model_leads(_law_model, _law_grip); slots: 0 _law_model, 1 _law_grip, 2 _law_at, 3 _law_turn -/
noncomputable def B_law_model_leads : FS := (mSeq (mAsg (mVar 1) (gT 2 (gsCons (gN 2) (gsCons (gN 3) gsNil)))) (mSeq (mIfS (tOrM (tNotM (bOf (mChain oLe oLt (mC (.int 0)) (mVar 2) (mCall oLen (aCons (mVar 0) aNil))))) (tOrM (tNotM (tOf (mOp oIx (mOp oIx (mVar 0) (mVar 2)) (mC (.int 1))))) (bOf (mOp (oEq true) (mVar 3) (mOp oSub (mCall oLen (aCons (mOp oIx (mOp oIx (mVar 0) (mVar 2)) (mC (.int 0))) aNil)) (mC (.int 1))))))) (mRet (mC .non)) mPass) (mRet (mOp oIx (mOp oIx (mOp oIx (mVar 0) (mVar 2)) (mC (.int 0))) (mUn oNeg (mC (.int 1)))))))
noncomputable def g_law_model_leads : FD := runB B_law_model_leads 4
abbrev s_law_model_handles : Stmt := topS 12
theorem sc_law_model_handles : FnScope ["_law_model", "_law_k", "_law_row", "_law_is_there"] ["_law_model"] (defScope s_law_model_handles) := ⟨rfl, rfl, rfl, by decide +kernel, rfl, by decide +kernel, by decide +kernel⟩
/-- _law_model_handles(_law_model); slots: 0 _law_model, 1 _law_k, 2 _law_row, 3 _law_is_there -/
noncomputable def T_law_model_handles_0 : FT := (tOf (mVar 3))
noncomputable def C_law_model_handles_1 : FE := (mTup (aCons (mVar 1) (aCons (mOp oSub (mCall oLen (aCons (mVar 2) aNil)) (mC (.int 1))) aNil)))
noncomputable def B_law_model_handles : FS := (mRet (mLc false [1, 2, 3] (iEnumM (mVar 0)) (gT 2 (gsCons (gN 1) (gsCons (gTA 2 (gsCons (gN 2) (gsCons (gN 3) gsNil))) gsNil))) T_law_model_handles_0 C_law_model_handles_1))
noncomputable def g_law_model_handles : FD := runB B_law_model_handles 4
abbrev s_Table_put : Stmt := inClass (topS 1) 3
theorem sc_Table_put : FnScope ["self", "house", "number", "thing", "place", "turn"] ["self", "house", "number"] (defScope s_Table_put) := ⟨rfl, rfl, rfl, by decide +kernel, rfl, by decide +kernel, by decide +kernel⟩
/-- Table.put(self, house, number); slots: 0 self, 1 house, 2 number, 3 thing, 4 place, 5 turn -/
noncomputable def B_Table_put : FS := (mSeq (mSet 3 (mTup (aCons (mVar 1) (aCons (mVar 2) aNil)))) (mSeq (mIfS (bOf (mOp (oInA false) (mVar 3) (mFld 0 "known" (mVar 0)))) (mRet (mC .non)) mPass) (mSeq (mAsg (mC (.bl true)) (gIxA (mFld 0 "known" (mVar 0)) (mVar 3))) (mSeq (mSet 4 (mMth 0 "free_place" 1 g_Table_free_place [] (mVar 0) aNil)) (mSeq (mIfS (bOf (mOp (oEq false) (mVar 4) (mCall oLenA (aCons (mFld 0 "used" (mVar 0)) aNil)))) (mExpr (mMeth "list" oAppend (mFld 0 "used" (mVar 0)) (aCons (mC (.int 0)) aNil))) mPass) (mSeq (mSet 5 (mOp oIxA (mFld 0 "used" (mVar 0)) (mVar 4))) (mSeq (mAugIx (oI fun i j => .int (i + j)) (mFld 0 "used" (mVar 0)) (mVar 4) (mC (.int 1))) (mSeq (mAsg (mTup (aCons (mVar 5) (aCons (mVar 3) aNil))) (gIxA (mFld 0 "there" (mVar 0)) (mVar 4))) (mRet (mTup (aCons (mVar 4) (aCons (mVar 5) aNil))))))))))))
noncomputable def g_Table_put : FD := runB B_Table_put 6
abbrev s_Table_drop : Stmt := inClass (topS 1) 5
theorem sc_Table_drop : FnScope ["self", "handle"] ["self", "handle"] (defScope s_Table_drop) := ⟨rfl, rfl, rfl, by decide +kernel, rfl, by decide +kernel, by decide +kernel⟩
/-- Table.drop(self, handle); slots: 0 self, 1 handle -/
noncomputable def B_Table_drop : FS := (mSeq (mIfS (bOf (mUn (oIsN false) (mMth 0 "leads" 2 g_Table_leads [] (mVar 0) (aCons (mVar 1) aNil)))) (mRet (mC (.bl false))) mPass) (mSeq (mExpr (mMeth "dict" oPopE (mFld 0 "there" (mVar 0)) (aCons (mOp oIxA (mVar 1) (mC (.int 0))) aNil))) (mRet (mC (.bl true)))))
noncomputable def g_Table_drop : FD := runB B_Table_drop 2
abbrev s_law_flow : Stmt := topS 4
theorem sc_law_flow : FnScope ["_law_script", "_law_k", "_law_cell_here", "_law_own"] ["_law_script", "_law_k"] (defScope s_law_flow) := ⟨rfl, rfl, rfl, by decide +kernel, rfl, by decide +kernel, by decide +kernel⟩
/-- _law_flow(_law_script, _law_k); slots: 0 _law_script, 1 _law_k, 2 _law_cell_here, 3 _law_own -/
noncomputable def B_law_flow : FS := (mSeq (mSet 2 (mFun 2 g_law_cell [] (aCons (mVar 0) (aCons (mVar 1) aNil)))) (mSeq (mSet 3 (mC (.int 0))) (mSeq (mIfS (bOf (mOp oGe (mVar 2) (mOp oPow (mC (.int 10)) (mC (.int 18))))) (mSet 3 (mVar 2)) mPass) (mRet (mLst true (aCons (mVar 3) (aCons (mC (.int 0)) (aCons (mOp (oAdd false) (mOp oMod (mVar 2) (mC (.int 2147483629))) (mOp (oMul false) (mC (.int 40692)) (mVar 1))) aNil))))))))
noncomputable def g_law_flow : FD := runB B_law_flow 4
abbrev s_law_names : Stmt := topS 7
theorem sc_law_names : FnScope ["_law_flow_here", "_law_many", "_law_some", "_law_word", "_law_j", "_law_at", "_law_first", "_law_longer", "_law_found", "_law_k", "_law_name"] ["_law_flow_here", "_law_many"] (defScope s_law_names) := ⟨rfl, rfl, rfl, by decide +kernel, rfl, by decide +kernel, by decide +kernel⟩
/-- _law_names(_law_flow_here, _law_many); slots: 0 _law_flow_here, 1 _law_many, 2 _law_some, 3 _law_word, 4 _law_j, 5 _law_at, 6 _law_first, 7 _law_longer, 8 _law_found, 9 _law_k, 10 _law_name -/
noncomputable def C_law_names_0 : FE := (mOp oIx (mVar 2) (mFun 2 g_law_draw [] (aCons (mVar 0) (aCons (mC (.int 26)) aNil))))
noncomputable def L_law_names_1 : FS := (mSeq (mSet 10 (mOp (oAdd false) (mOp (oAdd false) (mSl false (mVar 3) pNone (pSome (mVar 5))) (mOp oIx (mVar 2) (mOp oMod (mOp (oAdd false) (mVar 6) (mOp (oMul false) (mC (.int 7)) (mVar 9))) (mC (.int 26))))) (mSl false (mVar 3) (pSome (mVar 5)) pNone))) (mSeq (mIfS (tAndM (bOf (mOp oGt (mOp (oMul false) (mVar 7) (mOp oMod (mVar 9) (mC (.int 2)))) (mC (.int 0)))) (tAndM (bOf (mOp oLt (mCall oLen (aCons (mVar 10) aNil)) (mC (.int 6)))) (bOf (mOp oGt (mCall oLen (aCons (mVar 8) aNil)) (mC (.int 0)))))) (mSet 10 (mOp (oAdd false) (mSl false (mOp oIx (mVar 8) (mUn oNeg (mC (.int 1)))) pNone (pSome (mCall oLen (aCons (mVar 10) aNil)))) (mOp oIx (mVar 2) (mOp oMod (mOp (oAdd false) (mVar 6) (mOp (oMul false) (mC (.int 7)) (mVar 9))) (mC (.int 26)))))) mPass) (mIfS (tAndM (bOf (mOp (oInF true) (mVar 10) (mVar 8))) (bOf (mOp oLt (mCall oLen (aCons (mVar 8) aNil)) (mVar 1)))) (mExpr (mMeth "list" oAppend (mVar 8) (aCons (mVar 10) aNil))) mPass)))
noncomputable def B_law_names : FS := (mSeq (mSet 2 (mC (.str [97, 98, 99, 100, 101, 102, 103, 104, 105, 106, 107, 108, 109, 110, 111, 112, 113, 114, 115, 116, 117, 118, 119, 120, 121, 122]))) (mSeq (mSet 3 (mMeth "str" oJoin (mC (.str [])) (aCons (mLc false [4] (iR1 (aCons (mFun 2 g_law_draw [] (aCons (mVar 0) (aCons (mC (.int 6)) aNil))) aNil)) (gN 4) tsYes C_law_names_0) aNil))) (mSeq (mPar3 5 6 7 (aCons (mFun 2 g_law_draw [] (aCons (mVar 0) (aCons (mOp (oAdd false) (mCall oLen (aCons (mVar 3) aNil)) (mC (.int 1))) aNil))) (aCons (mFun 2 g_law_draw [] (aCons (mVar 0) (aCons (mC (.int 26)) aNil))) (aCons (mFun 2 g_law_draw [] (aCons (mVar 0) (aCons (mC (.int 2)) aNil))) aNil)))) (mSeq (mSet 8 (mLst true aNil)) (mSeq (mFor (iR1 (aCons (mC (.int 26)) aNil)) (gN 9) L_law_names_1) (mRet (mVar 8)))))))
noncomputable def g_law_names : FD := gcB B_law_names 11
abbrev s_law_model_drop : Stmt := topS 11
theorem sc_law_model_drop : FnScope ["_law_model", "_law_grip"] ["_law_model", "_law_grip"] (defScope s_law_model_drop) := ⟨rfl, rfl, rfl, by decide +kernel, rfl, by decide +kernel, by decide +kernel⟩
/-- _law_model_drop(_law_model, _law_grip); slots: 0 _law_model, 1 _law_grip -/
noncomputable def B_law_model_drop : FS := (mSeq (mIfS (bOf (mUn (oIsN false) (mFun 2 g_law_model_leads [] (aCons (mVar 0) (aCons (mVar 1) aNil))))) (mRet (mC (.bl false))) mPass) (mSeq (mAsg (mC (.bl false)) (gIx (mOp oIx (mVar 0) (mOp oIx (mVar 1) (mC (.int 0)))) (mC (.int 1)))) (mRet (mC (.bl true)))))
noncomputable def g_law_model_drop : FD := runB B_law_model_drop 2
abbrev s_law_handle : Stmt := topS 14
theorem sc_law_handle : FnScope ["_law_flow_here", "_law_told", "_law_at", "_law_turn", "_law_some"] ["_law_flow_here", "_law_told"] (defScope s_law_handle) := ⟨rfl, rfl, rfl, by decide +kernel, rfl, by decide +kernel, by decide +kernel⟩
/-- _law_handle(_law_flow_here, _law_told); slots: 0 _law_flow_here, 1 _law_told, 2 _law_at, 3 _law_turn, 4 _law_some -/
noncomputable def B_law_handle : FS := (mSeq (mAsg (mIf (bOf (mOp oGt (mCall oLen (aCons (mVar 1) aNil)) (mC (.int 0)))) (mOp oIx (mVar 1) (mFun 2 g_law_draw [] (aCons (mVar 0) (aCons (mCall oLen (aCons (mVar 1) aNil)) aNil)))) (mTup (aCons (mC (.int 0)) (aCons (mC (.int 0)) aNil)))) (gT 2 (gsCons (gN 2) (gsCons (gN 3) gsNil)))) (mSeq (mSet 4 (mLst false (aCons (mTup (aCons (mVar 2) (aCons (mVar 3) aNil))) (aCons (mTup (aCons (mVar 2) (aCons (mVar 3) aNil))) (aCons (mTup (aCons (mVar 2) (aCons (mOp (oAdd false) (mVar 3) (mC (.int 1))) aNil))) (aCons (mTup (aCons (mVar 2) (aCons (mCall oMax (aCons (mC (.int 0)) (aCons (mOp oSub (mVar 3) (mC (.int 1))) aNil))) aNil))) (aCons (mTup (aCons (mOp (oAdd false) (mVar 2) (mC (.int 1))) (aCons (mVar 3) aNil))) aNil))))))) (mSeq (mSet 4 (mOp (oAdd false) (mVar 4) (mLst false (aCons (mTup (aCons (mCall oMax (aCons (mC (.int 0)) (aCons (mOp oSub (mVar 2) (mC (.int 1))) aNil))) (aCons (mVar 3) aNil))) (aCons (mTup (aCons (mVar 3) (aCons (mVar 2) aNil))) aNil))))) (mRet (mOp oIx (mVar 4) (mFun 2 g_law_draw [] (aCons (mVar 0) (aCons (mC (.int 7)) aNil))))))))
noncomputable def g_law_handle : FD := runB B_law_handle 5
abbrev s_law_things : Stmt := topS 8
theorem sc_law_things : FnScope ["_law_flow_here", "_law_many", "_law_houses", "_law_found", "_law_k"] ["_law_flow_here", "_law_many"] (defScope s_law_things) := ⟨rfl, rfl, rfl, by decide +kernel, rfl, by decide +kernel, by decide +kernel⟩
/-- _law_things(_law_flow_here, _law_many); slots: 0 _law_flow_here, 1 _law_many, 2 _law_houses, 3 _law_found, 4 _law_k -/
noncomputable def L_law_things_0 : FS := (mExpr (mMeth "list" oAppend (mVar 3) (aCons (mTup (aCons (mOp oIx (mVar 2) (mFun 2 g_law_draw [] (aCons (mVar 0) (aCons (mC (.int 3)) aNil)))) (aCons (mOp oIx (mLst false (aCons (mFun 2 g_law_draw [] (aCons (mVar 0) (aCons (mC (.int 4)) aNil))) (aCons (mFun 2 g_law_draw [] (aCons (mVar 0) (aCons (mC (.int 200)) aNil))) aNil))) (mFun 2 g_law_draw [] (aCons (mVar 0) (aCons (mC (.int 2)) aNil)))) aNil))) aNil)))
noncomputable def B_law_things : FS := (mSeq (mPar 2 3 (aCons (mFun 2 g_law_names [] (aCons (mVar 0) (aCons (mC (.int 3)) aNil))) (aCons (mLst true aNil) aNil))) (mSeq (mFor (iR1 (aCons (mVar 1) aNil)) (gN 4) L_law_things_0) (mRet (mVar 3))))
noncomputable def g_law_things : FD := gcB B_law_things 5
abbrev s_law_stands : Stmt := topS 13
theorem sc_law_stands : FnScope ["_law_board", "_law_model", "_law_turn", "_law_found"] ["_law_board", "_law_model"] (defScope s_law_stands) := ⟨rfl, rfl, rfl, by decide +kernel, rfl, by decide +kernel, by decide +kernel⟩
/-- _law_stands(_law_board, _law_model); slots: 0 _law_board, 1 _law_model, 2 _law_turn, 3 _law_found -/
noncomputable def L_law_stands_0 : FS := (mSeq (mSet 3 (mMth 0 "handles" 1 g_Table_handles [] (mVar 0) aNil)) (mSeq (mIfS (tOrM (tNotM (bOf (mUn (oIsi "list") (mVar 3)))) (tNotM (bOf (mFun 2 g_law_alike [] (aCons (mCall oTuple (aCons (mVar 3) aNil)) (aCons (mCall oTuple (aCons (mFun 1 g_law_model_handles [] (aCons (mVar 1) aNil)) aNil)) aNil)))))) (mRet (mC (.bl false))) mPass) (mExpr (mMeth "list" oAppend (mVar 3) (aCons (mTup (aCons (mC (.int 99)) (aCons (mC (.int 99)) aNil))) aNil)))))
noncomputable def B_law_stands : FS := (mSeq (mFor (iR1 (aCons (mC (.int 2)) aNil)) (gN 2) L_law_stands_0) (mRet (mOp (oEq false) (mCall (oLenO 0 g_Table___len__) (aCons (mVar 0) aNil)) (mCall oLen (aCons (mFun 1 g_law_model_handles [] (aCons (mVar 1) aNil)) aNil)))))
noncomputable def g_law_stands : FD := gcB B_law_stands 4
abbrev s_law_deed : Stmt := topS 15
theorem sc_law_deed : FnScope ["_law_flow_here", "_law_board", "_law_model", "_law_pool", "_law_told", "_law_form", "_law_thing", "_law_due", "_law_found", "_law_grip"] ["_law_flow_here", "_law_board", "_law_model", "_law_pool", "_law_told"] (defScope s_law_deed) := ⟨rfl, rfl, rfl, by decide +kernel, rfl, by decide +kernel, by decide +kernel⟩
/-- _law_deed(_law_flow_here, _law_board, _law_model, _law_pool, _law_told); slots: 0 _law_flow_here, 1 _law_board, 2 _law_model, 3 _law_pool, 4 _law_told, 5 _law_form, 6 _law_thing, 7 _law_due, 8 _law_found, 9 _law_grip -/
noncomputable def B_law_deed : FS := (mSeq (mSet 5 (mFun 2 g_law_draw [] (aCons (mVar 0) (aCons (mC (.int 6)) aNil)))) (mSeq (mIfS (bOf (mOp oLt (mVar 5) (mC (.int 3)))) (mSeq (mSet 6 (mOp oIx (mVar 3) (mFun 2 g_law_draw [] (aCons (mVar 0) (aCons (mCall oLen (aCons (mVar 3) aNil)) aNil))))) (mSeq (mPar 7 8 (aCons (mFun 2 g_law_model_put [] (aCons (mVar 2) (aCons (mVar 6) aNil))) (aCons (mMth 0 "put" 3 g_Table_put [] (mVar 1) (aCons (mOp oIx (mVar 6) (mC (.int 0))) (aCons (mOp oIx (mVar 6) (mC (.int 1))) aNil))) aNil))) (mSeq (mIfS (bOf (mUn (oIsN true) (mVar 7))) (mExpr (mMeth "list" oAppend (mVar 4) (aCons (mVar 7) aNil))) mPass) (mRet (mFun 2 g_law_alike [] (aCons (mTup (aCons (mVar 8) aNil)) (aCons (mTup (aCons (mVar 7) aNil)) aNil))))))) mPass) (mSeq (mSet 9 (mFun 2 g_law_handle [] (aCons (mVar 0) (aCons (mVar 4) aNil)))) (mSeq (mIfS (bOf (mOp (oEq false) (mVar 5) (mC (.int 3)))) (mSeq (mSet 8 (mMth 0 "leads" 2 g_Table_leads [] (mVar 1) (aCons (mVar 9) aNil))) (mRet (mFun 2 g_law_alike [] (aCons (mTup (aCons (mVar 8) aNil)) (aCons (mTup (aCons (mFun 2 g_law_model_leads [] (aCons (mVar 2) (aCons (mVar 9) aNil))) aNil)) aNil))))) mPass) (mRet (mFun 2 g_law_alike [] (aCons (mTup (aCons (mMth 0 "drop" 2 g_Table_drop [] (mVar 1) (aCons (mVar 9) aNil)) aNil)) (aCons (mTup (aCons (mFun 2 g_law_model_drop [] (aCons (mVar 2) (aCons (mVar 9) aNil))) aNil)) aNil))))))))
noncomputable def g_law_deed : FD := runB B_law_deed 10
abbrev s_law_by_names : Stmt := topS 16
theorem sc_law_by_names : FnScope ["_law_flow_here", "_law_board", "_law_model", "_law_pool", "_law_told", "_law_lodge", "_law_count", "_law_due", "_law_knob"] ["_law_flow_here", "_law_board", "_law_model", "_law_pool", "_law_told"] (defScope s_law_by_names) := ⟨rfl, rfl, rfl, by decide +kernel, rfl, by decide +kernel, by decide +kernel⟩
/-- _law_by_names(_law_flow_here, _law_board, _law_model, _law_pool, _law_told); slots: 0 _law_flow_here, 1 _law_board, 2 _law_model, 3 _law_pool, 4 _law_told, 5 _law_lodge, 6 _law_count, 7 _law_due, 8 _law_knob -/
noncomputable def B_law_by_names : FS := (mSeq (mAsg (mOp oIx (mVar 3) (mFun 2 g_law_draw [] (aCons (mVar 0) (aCons (mCall oLen (aCons (mVar 3) aNil)) aNil)))) (gT 2 (gsCons (gN 5) (gsCons (gN 6) gsNil)))) (mSeq (mIfS (bOf (mOp (oEq false) (mFun 2 g_law_draw [] (aCons (mVar 0) (aCons (mC (.int 2)) aNil))) (mC (.int 0)))) (mSeq (mSet 7 (mFun 2 g_law_model_put [] (aCons (mVar 2) (aCons (mTup (aCons (mVar 5) (aCons (mVar 6) aNil))) aNil)))) (mSeq (mIfS (bOf (mUn (oIsN true) (mVar 7))) (mExpr (mMeth "list" oAppend (mVar 4) (aCons (mVar 7) aNil))) mPass) (mRet (mFun 2 g_law_alike [] (aCons (mTup (aCons (mMthKw 0 "put" 0 2 3 (piIx [0, 2, 1]) [] g_Table_put (mVar 1) aNil (aCons (mVar 6) (aCons (mVar 5) aNil))) aNil)) (aCons (mTup (aCons (mVar 7) aNil)) aNil)))))) mPass) (mSeq (mSet 8 (mFun 2 g_law_handle [] (aCons (mVar 0) (aCons (mVar 4) aNil)))) (mSeq (mIfS (tNotM (bOf (mFun 2 g_law_alike [] (aCons (mTup (aCons (mMthKw 0 "leads" 0 1 2 piApp [] g_Table_leads (mVar 1) aNil (aCons (mVar 8) aNil)) aNil)) (aCons (mTup (aCons (mFun 2 g_law_model_leads [] (aCons (mVar 2) (aCons (mVar 8) aNil))) aNil)) aNil))))) (mRet (mC (.bl false))) mPass) (mRet (mFun 2 g_law_alike [] (aCons (mTup (aCons (mMthKw 0 "drop" 0 1 2 piApp [] g_Table_drop (mVar 1) aNil (aCons (mVar 8) aNil)) aNil)) (aCons (mTup (aCons (mFun 2 g_law_model_drop [] (aCons (mVar 2) (aCons (mVar 8) aNil))) aNil)) aNil))))))))
noncomputable def g_law_by_names : FD := runB B_law_by_names 9
abbrev s_law : Stmt := topS 17
theorem sc_law : FnScope ["_law_script", "_law_flow_here", "_law_pool", "_law_many", "_law_told", "_law_tables", "_law_models", "_law_k", "_law_at", "_law_fits", "_law_board", "_law_model"] ["_law_script"] (defScope s_law) := ⟨rfl, rfl, rfl, by decide +kernel, rfl, by decide +kernel, by decide +kernel⟩
/-- law(_law_script); slots: 0 _law_script, 1 _law_flow_here, 2 _law_pool, 3 _law_many, 4 _law_told, 5 _law_tables, 6 _law_models, 7 _law_k, 8 _law_at, 9 _law_fits, 10 _law_board, 11 _law_model -/
noncomputable def C_law_0 : FE := (mMake 0 1 g_Table___init__ [] aNil)
noncomputable def C_law_1 : FE := (mLst true aNil)
noncomputable def L_law_2 : FS := (mSeq (mSet 1 (mFun 2 g_law_flow [] (aCons (mVar 0) (aCons (mVar 7) aNil)))) (mSeq (mSet 8 (mFun 2 g_law_draw [] (aCons (mVar 1) (aCons (mVar 3) aNil)))) (mSeq (mIfS (bOf (mOp (oEq false) (mFun 2 g_law_draw [] (aCons (mVar 1) (aCons (mC (.int 4)) aNil))) (mC (.int 0)))) (mSet 9 (mFun 5 g_law_by_names [] (aCons (mVar 1) (aCons (mOp oIx (mVar 5) (mVar 8)) (aCons (mOp oIx (mVar 6) (mVar 8)) (aCons (mVar 2) (aCons (mVar 4) aNil))))))) (mSet 9 (mFun 5 g_law_deed [] (aCons (mVar 1) (aCons (mOp oIx (mVar 5) (mVar 8)) (aCons (mOp oIx (mVar 6) (mVar 8)) (aCons (mVar 2) (aCons (mVar 4) aNil)))))))) (mIfS (tNotM (tOf (mVar 9))) (mRet (mC (.bl false))) mPass))))
noncomputable def C_law_3 : FE := (mFun 2 g_law_stands [] (aCons (mVar 10) (aCons (mVar 11) aNil)))
noncomputable def B_law : FS := (mSeq (mSet 1 (mFun 2 g_law_flow [] (aCons (mVar 0) (aCons (mC (.int 0)) aNil)))) (mSeq (mPar3 2 3 4 (aCons (mFun 2 g_law_things [] (aCons (mVar 1) (aCons (mOp (oAdd false) (mC (.int 2)) (mFun 2 g_law_draw [] (aCons (mVar 1) (aCons (mC (.int 8)) aNil)))) aNil))) (aCons (mOp (oAdd false) (mC (.int 2)) (mFun 2 g_law_draw [] (aCons (mVar 1) (aCons (mC (.int 2)) aNil)))) (aCons (mLst true aNil) aNil)))) (mSeq (mPar 5 6 (aCons (mLc false [7] (iR1 (aCons (mVar 3) aNil)) (gN 7) tsYes C_law_0) (aCons (mLc false [7] (iR1 (aCons (mVar 3) aNil)) (gN 7) tsYes C_law_1) aNil))) (mSeq (mFor (iR2 (aCons (mC (.int 1)) (aCons (mCall oMax (aCons (mC (.int 16)) (aCons (mCall oMin (aCons (mC (.int 41)) (aCons (mCall oLen (aCons (mVar 0) aNil)) aNil))) aNil))) aNil))) (gN 7) L_law_2) (mRet (mCall oAll (aCons (mLc false [10, 11] (iZip (aCons (mVar 5) (aCons (mVar 6) aNil))) (gT 2 (gsCons (gN 10) (gsCons (gN 11) gsNil))) tsYes C_law_3) aNil)))))))
noncomputable def g_law : FD := runB B_law 12
end K15

set_option Elab.async false
set_option linter.all false
set_option maxRecDepth 100000
set_option maxHeartbeats 4000000
namespace K15
open PySem PySem.Spec PyProof.Rows L2 Fn
theorem cell_eq (ns : List Int) (k : Nat) (M : Mem) : g_law_cell [.fz (intsD ns), .int k] M = .ok (.int (cellV ns k)) M := runB_rt (cell_run ns k M)
theorem flow_eq (ns : List Int) (k : Nat) (M : Mem) (hk : k < 1000) : ∃ s : Fl, s.ok ∧ g_law_flow [.fz (intsD ns), .int k] M = .ok (.ref M.length) (M ++ [s.c]) := by
  obtain ⟨s, h1, h2⟩ := flow_run g_law_cell ns k M hk (cell_eq ns k M)
  exact ⟨s, h1, runB_rt h2⟩
theorem draw_eq {M0 M : Mem} {i : Nat} (h : FlAt M0 i M) (many : Int) (h0 : 0 < many) (h1 : many < 1000000000000000000000000) : ∃ (v : Nat) (M' : Mem), (v : Int) < many ∧ FlAt M0 i M' ∧ g_law_draw [.ref i, .int many] M = .ok (.int v) M' := by
  obtain ⟨s, hs, hM, hk⟩ := h.get
  obtain ⟨v, s', k0, k1, k2, k3⟩ := draw_run s hs i M many h0 h1 hM
  obtain ⟨n, rfl⟩ : ∃ n : Nat, v = (n : Int) := ⟨v.toNat, by omega⟩
  exact ⟨n, _, k1, hk s' k2, runB_rt k3⟩
abbrev abc : List Nat := [97, 98, 99, 100, 101, 102, 103, 104, 105, 106, 107, 108, 109, 110, 111, 112, 113, 114, 115, 116, 117, 118, 119, 120, 121, 122]
/-- a name: one to six small letters -/
def isNm (w : List Nat) : Bool := decide (1 ≤ w.length) && decide (w.length ≤ 6) && w.all fun c => decide (c ∈ abc)
theorem isNm_iff {w : List Nat} : isNm w = true ↔ 1 ≤ w.length ∧ w.length ≤ 6 ∧ ∀ c ∈ w, c ∈ abc := by
  unfold isNm
  simp only [Bool.and_eq_true, decide_eq_true_eq, List.all_eq_true]
  exact ⟨fun h => ⟨h.1.1, h.1.2, h.2⟩, fun h => ⟨⟨h.1, h.2.1⟩, h.2.2⟩⟩
/-- letters -/
theorem abc_at (v : Int) (h : 0 ≤ v) (h2 : v < 26) : ∃ c, atI abc v = some c ∧ c ∈ abc := atI_some h (by simpa using h2)
theorem word_comp {M0 M : Mem} {i : Nat} (h : FlAt M0 i M) (n : Nat) (hn : n < 1000) (env : Fn.Env) (he : ∀ (x : D), (env.set 4 (some x))[2]? = some (some (.str abc)) ∧ (env.set 4 (some x))[0]? = some (some (.ref i)))
    (f : FE) (hf : f = mOp oIx (mVar 2) (mFun 2 g_law_draw [] (aCons (mVar 0) (aCons (mC (.int 26)) aNil)))) :
    ∃ (w : List Nat) (M' : Mem), w.length = n ∧ (∀ c ∈ w, c ∈ abc) ∧ FlAt M0 i M' ∧ compL (fun _ => True) (gN 4) tsYes f env (rngItems 0 n) M = .ok (w.map fun c => .str [c]) M' := by
  subst hf
  obtain ⟨ys, M2, e2, l2, y2, h2⟩ := compL_inv (g := gN 4) (f := mOp oIx (mVar 2) (mFun 2 g_law_draw [] (aCons (mVar 0) (aCons (mC (.int 26)) aNil)))) (env := env) (fun _ M => FlAt M0 i M) (fun _ _ y => ∃ c : Nat, y = .str [c] ∧ c ∈ abc) (rngItems 0 n) 0 M h fun k d M2 hk h2 => by
    obtain ⟨u, M3, u1, h3, e3⟩ := draw_eq h2 26 (by omega) (by omega)
    obtain ⟨c, hc, hm⟩ := abc_at u (by omega) (by omega)
    obtain ⟨q1, q2⟩ := he d
    refine ⟨.str [c], M3, ?_, ⟨c, rfl, hm⟩, h3⟩
    simp -implicitDefEqProofs only [mSeq_eq, mIfS_eq, mSet_eq, mRet_eq, mRetN_eq, mExpr_eq, mPass_eq, mAsg_eq, mPar_eq, mAug_eq, bOf_eq, tOf_eq, tAndM_eq, tOrM_eq, tNotM_eq, tsYes_eq, mOp_eq, mUn_eq, mVar_eq, mC_eq, mCall_eq, mFun_eq, mFunKw_eq, mMeth_eq, mAnd_eq, mOr_eq, mNot_eq, mIf_eq, mChain_eq, mSl_eq, pNone_eq, pSome_eq, aCons_eq, aNil_eq, mTup_eq, mLst_eq, gN_eq, gT_eq, gsNil_eq, gsCons_eq, mkL_t, mkL_f, R.bind_ok, R.bind_no, R.nox_ok, List.getElem?_cons_zero, List.getElem?_cons_succ, List.set_cons_zero, List.set_cons_succ, List.length_cons, List.length_nil, List.append_nil, List.nil_append, List.cons_append, piApp_on, oLen_fz, oLen_lst, oLen_tup, oLt_int, oLe_int, oGt_int, oGe_int, oAdd_int, oSub_int, oIx_fz, oIx_lst, oIx_tup, oMax_int, oMin_int, oInt_bl, oInt_int, oIsi_bl, oNeg_int, oTuple_lst, oTuple_tup, iR1_eq, iR2_eq, iSq_eq, iStrM_eq, srcOf_tup, srcOf_lst, srcOf_fz, if_true, if_false, Bool.false_eq_true, Bool.true_eq_false, reduceIte, Nat.reduceAdd, Nat.reduceLeDiff, Nat.reduceEqDiff, decide_true, decide_false, and_self, and_true, true_and, q1, q2, e3, oIx_str (show abc.length ≤ 16777216 by decide) hc]
  have hl : ys.length = n := by rw [l2, rngItems_len]
  have hy : ∀ d ∈ ys, ∃ c : Nat, d = .str [c] ∧ c ∈ abc := fun d hd => allY l2 y2 hd
  obtain ⟨w, hw, lw, rfl⟩ := strsOf_of (l := ys) fun d hd => by obtain ⟨c, h, _⟩ := hy d hd; exact ⟨c, h⟩
  refine ⟨w, M2, by omega, fun c hc => ?_, h2, e2⟩
  obtain ⟨c', e, hm⟩ := hy (.str [c]) (List.mem_map.mpr ⟨c, hc, rfl⟩)
  cases e
  exact hm
theorem join_eq {w : List Nat} {M : Mem} (h : w.length < 10000) : oJoin (.str []) [.lst (w.map fun c => .str [c])] M = .ok (.str w) M := by
  have : strsOf (w.map fun c => D.str [c]) = some (w.map fun c => [c]) := by
    induction w with
    | nil => rfl
    | cons c r ih => simp only [List.map_cons, strsOf, ih (by simp at h; omega)]; rfl
  have hsum : ((w.map fun c => [c]).map (·.length)).sum + (w.map fun c => [c]).length * ([] : List Nat).length ≤ 16777216 := by rw [sum_ones]; simp; omega
  simp only [oJoin, seqOf, lstOf, Option.bind_some, this, hsum, if_true, join_signs]
/-! ### names -/
structure NmOk (F : List (List Nat)) (count : Nat) (k : Nat) : Prop where
  nm : ∀ w ∈ F, isNm w = true
  nd : F.Nodup
  le : F.length ≤ count
  few : F.length ≤ k
  one : 0 < k → 0 < F.length
noncomputable def nmS2 : FS := (mIfS (tAndM (bOf (mOp oGt (mOp (oMul false) (mVar 7) (mOp oMod (mVar 9) (mC (.int 2)))) (mC (.int 0)))) (tAndM (bOf (mOp oLt (mCall oLen (aCons (mVar 10) aNil)) (mC (.int 6)))) (bOf (mOp oGt (mCall oLen (aCons (mVar 8) aNil)) (mC (.int 0)))))) (mSet 10 (mOp (oAdd false) (mSl false (mOp oIx (mVar 8) (mUn oNeg (mC (.int 1)))) pNone (pSome (mCall oLen (aCons (mVar 10) aNil)))) (mOp oIx (mVar 2) (mOp oMod (mOp (oAdd false) (mVar 6) (mOp (oMul false) (mC (.int 7)) (mVar 9))) (mC (.int 26)))))) mPass)
noncomputable def nmS3 : FS := (mIfS (tAndM (bOf (mOp (oInF true) (mVar 10) (mVar 8))) (bOf (mOp oLt (mCall oLen (aCons (mVar 8) aNil)) (mVar 1)))) (mExpr (mMeth "list" oAppend (mVar 8) (aCons (mVar 10) aNil))) mPass)
/-- what a turn appends -/
def NmExt (F F' : List (List Nat)) (count k : Nat) (w : List Nat) (v2 v3 : Nat) : Prop := ∃ c n2, atI abc (((v3 : Int) + 7 * (0 + (k : Int))) % 26) = some c ∧
  (n2 = w.take v2 ++ [c] ++ w.drop v2 ∨ (k % 2 = 1 ∧ ∃ F0 z, F = F0 ++ [z] ∧ n2 = z.take (w.length + 1) ++ [c])) ∧ (F' = F ∨ F' = F ++ [n2]) ∧ (¬ n2 ∈ F → F.length < count → F' = F ++ [n2])
theorem names_turn {A : Mem} {N : Nat} (hA : A.length = N) (F : List (List Nat)) (count k : Nat) (hF : NmOk F count k) (hk : k < 26) (hc : 0 < count) (w : List Nat) (hw : w.length ≤ 5) (hwl : ∀ c ∈ w, c ∈ abc) (v2 v3 v4 : Nat) (h2 : v2 ≤ w.length) (x0 x4 x10 : Option D) :
    ∃ (F' : List (List Nat)) (y10 : Option D), NmOk F' count (k + 1) ∧ NmExt F F' count k w v2 v3 ∧
    L_law_names_1 [x0, some (.int count), some (.str abc), some (.str w), x4, some (.int v2), some (.int v3), some (.int v4), some (.ref N), some (.int (0 + (k : Int))), x10] (A ++ [.lst (F.map .str)]) = .ok (.nx [x0, some (.int count), some (.str abc), some (.str w), x4, some (.int v2), some (.int v3), some (.int v4), some (.ref N), some (.int (0 + (k : Int))), y10]) (A ++ [.lst (F'.map .str)]) := by
  have hFl := hF.few
  obtain ⟨c, hc1, hcm⟩ := abc_at ((v3 + 7 * (0 + (k : Int))) % 26) (Int.emod_nonneg _ (by omega)) (Int.emod_lt_of_pos _ (by omega))
  have t1 : cutD w none (some (v2 : Int)) = w.take v2 := cutD_take w v2
  have t2 : cutD w (some (v2 : Int)) none = w.drop v2 := cutD_drop w v2
  have ix : oIx (.str abc) (.int ((v3 + 7 * (0 + (k : Int))) % 26)) = fun M => R.ok (.str [c]) M := by
    funext M
    exact oIx_str (by decide) hc1
  have g8 : ∀ B, (A ++ [Cell.lst B])[N]? = some (.lst B) := fun B => app_get0 hA
  have s8 : ∀ B C, (A ++ [Cell.lst B]).set N (.lst C) = A ++ [.lst C] := fun B C => app_set0 hA
  obtain ⟨n1, hn1⟩ : ∃ n1, w.take v2 ++ [c] ++ w.drop v2 = n1 := ⟨_, rfl⟩
  have ln1 : n1.length = w.length + 1 := by rw [← hn1]; simp; omega
  have mn1 : ∀ x ∈ n1, x ∈ abc := fun x hx => by
    rw [← hn1] at hx
    simp only [List.mem_append, List.mem_singleton] at hx
    rcases hx with (hx | rfl) | hx
    · exact hwl x (List.mem_of_mem_take hx)
    · exact hcm
    · exact hwl x (List.mem_of_mem_drop hx)
  have a1 : ∀ M, oAdd false (.str (w.take v2)) (.str [c]) M = .ok (.str (w.take v2 ++ [c])) M := fun M => oAdd_str (by simp; omega)
  have a2 : ∀ M, oAdd false (.str (w.take v2 ++ [c])) (.str (w.drop v2)) M = .ok (.str n1) M := fun M => by rw [oAdd_str (by simp; omega), hn1]
  have hS : L_law_names_1 = mSeq _ (mSeq nmS2 nmS3) := rfl
  -- the last part
  have last : ∀ n2 : List Nat, isNm n2 = true → ∃ F', (NmOk F' count (k + 1) ∧ (F' = F ∨ F' = F ++ [n2]) ∧ (¬ n2 ∈ F → F.length < count → F' = F ++ [n2])) ∧ nmS3 [x0, some (.int count), some (.str abc), some (.str w), x4, some (.int v2), some (.int v3), some (.int v4), some (.ref N), some (.int (0 + (k : Int))), some (.str n2)] (A ++ [.lst (F.map .str)]) = .ok (.nx [x0, some (.int count), some (.str abc), some (.str w), x4, some (.int v2), some (.int v3), some (.int v4), some (.ref N), some (.int (0 + (k : Int))), some (.str n2)]) (A ++ [.lst (F'.map .str)]) := by
    intro n2 h
    have hin : oInF true (.str n2) (.ref N) (A ++ [.lst (F.map .str)]) = .ok (.bl (true != decide (n2 ∈ F))) (A ++ [.lst (F.map .str)]) := oInF_strs (by simp only [seqOf, lstOf, g8])
    by_cases q : n2 ∈ F
    · have : 0 < F.length := List.length_pos_of_mem q
      refine ⟨F, ⟨⟨hF.nm, hF.nd, hF.le, by omega, fun _ => this⟩, .inl rfl, fun z => absurd q z⟩, ?_⟩
      simp -implicitDefEqProofs (disch := first | assumption | omega | (simp only [List.length_cons, List.length_nil, List.length_append, List.length_map, List.length_take, List.length_drop, rngItems_len]; omega)) only [mSeq_eq, mIfS_eq, mSet_eq, mRet_eq, mRetN_eq, mExpr_eq, mPass_eq, mAsg_eq, mPar_eq, mAug_eq, bOf_eq, tOf_eq, tAndM_eq, tOrM_eq, tNotM_eq, tsYes_eq, mOp_eq, mUn_eq, mVar_eq, mC_eq, mCall_eq, mFun_eq, mFunKw_eq, mMeth_eq, mAnd_eq, mOr_eq, mNot_eq, mIf_eq, mChain_eq, mSl_eq, pNone_eq, pSome_eq, aCons_eq, aNil_eq, mTup_eq, mLst_eq, gN_eq, gT_eq, gsNil_eq, gsCons_eq, mkL_t, mkL_f, R.bind_ok, R.bind_no, R.nox_ok, List.getElem?_cons_zero, List.getElem?_cons_succ, List.set_cons_zero, List.set_cons_succ, List.length_cons, List.length_nil, List.append_nil, List.nil_append, List.cons_append, piApp_on, oLen_fz, oLen_lst, oLen_tup, oLt_int, oLe_int, oGt_int, oGe_int, oAdd_int, oSub_int, oIx_fz, oIx_lst, oIx_tup, oMax_int, oMin_int, oInt_bl, oInt_int, oIsi_bl, oNeg_int, oTuple_lst, oTuple_tup, iR1_eq, iR2_eq, iSq_eq, iStrM_eq, srcOf_tup, srcOf_lst, srcOf_fz, if_true, if_false, Bool.false_eq_true, Bool.true_eq_false, reduceIte, Nat.reduceAdd, Nat.reduceLeDiff, Nat.reduceEqDiff, decide_true, decide_false, and_self, and_true, true_and, oMod_int, oMul_r, oMul_l, oLen_str, oAdd_str, oSl_str, oSl_tup, oSl_lst, oSl_fz, rngOk_of, oEq_int, oEq_bl, beq_self_eq_true, Int.toNat_natCast, mFor_eq, mLc_eq, app_get0, app_get1, app_set0, app_set1, tyOk, oTuple_ref, oList_ref, oLen_refM, oIx_refM, oAppM, oExtM, srcOf_refM, ifLt24, ifLe24, nmS3, hin, decide_eq_true q, show (true != true) = false from rfl]
    · by_cases q2 : F.length < count
      · refine ⟨F ++ [n2], ⟨⟨fun x hx => ?_, ?_, by simp; omega, by simp; omega, fun _ => by simp⟩, .inr rfl, fun _ _ => rfl⟩, ?_⟩
        · rcases List.mem_append.mp hx with z | z
          · exact hF.nm x z
          · rw [List.mem_singleton.mp z]; exact h
        · rw [List.nodup_append]
          refine ⟨hF.nd, by simp, fun a ha b hb => ?_⟩
          rw [List.mem_singleton.mp hb]
          intro e; subst e; exact q ha
        · have hlt : decide (((F.map D.str).length : Int) < (count : Int)) = true := decide_eq_true (by simp; omega)
          simp -implicitDefEqProofs (disch := first | assumption | omega | (simp only [List.length_cons, List.length_nil, List.length_append, List.length_map, List.length_take, List.length_drop, rngItems_len]; omega)) only [mSeq_eq, mIfS_eq, mSet_eq, mRet_eq, mRetN_eq, mExpr_eq, mPass_eq, mAsg_eq, mPar_eq, mAug_eq, bOf_eq, tOf_eq, tAndM_eq, tOrM_eq, tNotM_eq, tsYes_eq, mOp_eq, mUn_eq, mVar_eq, mC_eq, mCall_eq, mFun_eq, mFunKw_eq, mMeth_eq, mAnd_eq, mOr_eq, mNot_eq, mIf_eq, mChain_eq, mSl_eq, pNone_eq, pSome_eq, aCons_eq, aNil_eq, mTup_eq, mLst_eq, gN_eq, gT_eq, gsNil_eq, gsCons_eq, mkL_t, mkL_f, R.bind_ok, R.bind_no, R.nox_ok, List.getElem?_cons_zero, List.getElem?_cons_succ, List.set_cons_zero, List.set_cons_succ, List.length_cons, List.length_nil, List.append_nil, List.nil_append, List.cons_append, piApp_on, oLen_fz, oLen_lst, oLen_tup, oLt_int, oLe_int, oGt_int, oGe_int, oAdd_int, oSub_int, oIx_fz, oIx_lst, oIx_tup, oMax_int, oMin_int, oInt_bl, oInt_int, oIsi_bl, oNeg_int, oTuple_lst, oTuple_tup, iR1_eq, iR2_eq, iSq_eq, iStrM_eq, srcOf_tup, srcOf_lst, srcOf_fz, if_true, if_false, Bool.false_eq_true, Bool.true_eq_false, reduceIte, Nat.reduceAdd, Nat.reduceLeDiff, Nat.reduceEqDiff, decide_true, decide_false, and_self, and_true, true_and, oMod_int, oMul_r, oMul_l, oLen_str, oAdd_str, oSl_str, oSl_tup, oSl_lst, oSl_fz, rngOk_of, oEq_int, oEq_bl, beq_self_eq_true, Int.toNat_natCast, mFor_eq, mLc_eq, app_get0, app_get1, app_set0, app_set1, tyOk, oTuple_ref, oList_ref, oLen_refM, oIx_refM, oAppM, oExtM, srcOf_refM, ifLt24, ifLe24, nmS3, hin, decide_eq_false q, show (true != false) = true from rfl, g8, s8, List.length_map, decide_eq_true (show (F.length : Int) < (count : Int) by omega), show F.length < 16777216 by omega]
          rw [List.map_append]
          all_goals rfl
      · have : 0 < F.length := by omega
        refine ⟨F, ⟨⟨hF.nm, hF.nd, hF.le, by omega, fun _ => this⟩, .inl rfl, fun _ z => absurd z q2⟩, ?_⟩
        simp -implicitDefEqProofs (disch := first | assumption | omega | (simp only [List.length_cons, List.length_nil, List.length_append, List.length_map, List.length_take, List.length_drop, rngItems_len]; omega)) only [mSeq_eq, mIfS_eq, mSet_eq, mRet_eq, mRetN_eq, mExpr_eq, mPass_eq, mAsg_eq, mPar_eq, mAug_eq, bOf_eq, tOf_eq, tAndM_eq, tOrM_eq, tNotM_eq, tsYes_eq, mOp_eq, mUn_eq, mVar_eq, mC_eq, mCall_eq, mFun_eq, mFunKw_eq, mMeth_eq, mAnd_eq, mOr_eq, mNot_eq, mIf_eq, mChain_eq, mSl_eq, pNone_eq, pSome_eq, aCons_eq, aNil_eq, mTup_eq, mLst_eq, gN_eq, gT_eq, gsNil_eq, gsCons_eq, mkL_t, mkL_f, R.bind_ok, R.bind_no, R.nox_ok, List.getElem?_cons_zero, List.getElem?_cons_succ, List.set_cons_zero, List.set_cons_succ, List.length_cons, List.length_nil, List.append_nil, List.nil_append, List.cons_append, piApp_on, oLen_fz, oLen_lst, oLen_tup, oLt_int, oLe_int, oGt_int, oGe_int, oAdd_int, oSub_int, oIx_fz, oIx_lst, oIx_tup, oMax_int, oMin_int, oInt_bl, oInt_int, oIsi_bl, oNeg_int, oTuple_lst, oTuple_tup, iR1_eq, iR2_eq, iSq_eq, iStrM_eq, srcOf_tup, srcOf_lst, srcOf_fz, if_true, if_false, Bool.false_eq_true, Bool.true_eq_false, reduceIte, Nat.reduceAdd, Nat.reduceLeDiff, Nat.reduceEqDiff, decide_true, decide_false, and_self, and_true, true_and, oMod_int, oMul_r, oMul_l, oLen_str, oAdd_str, oSl_str, oSl_tup, oSl_lst, oSl_fz, rngOk_of, oEq_int, oEq_bl, beq_self_eq_true, Int.toNat_natCast, mFor_eq, mLc_eq, app_get0, app_get1, app_set0, app_set1, tyOk, oTuple_ref, oList_ref, oLen_refM, oIx_refM, oAppM, oExtM, srcOf_refM, ifLt24, ifLe24, nmS3, hin, decide_eq_false q, show (true != false) = true from rfl, g8, List.length_map, decide_eq_false (show ¬ (F.length : Int) < (count : Int) by omega)]
  have nm1 : isNm n1 = true := isNm_iff.mpr ⟨by omega, by omega, mn1⟩
  have mid : ∃ n2, (isNm n2 = true ∧ (n2 = n1 ∨ (k % 2 = 1 ∧ ∃ F0 z, F = F0 ++ [z] ∧ n2 = z.take (w.length + 1) ++ [c]))) ∧ nmS2 [x0, some (.int count), some (.str abc), some (.str w), x4, some (.int v2), some (.int v3), some (.int v4), some (.ref N), some (.int (0 + (k : Int))), some (.str n1)] (A ++ [.lst (F.map .str)]) = .ok (.nx [x0, some (.int count), some (.str abc), some (.str w), x4, some (.int v2), some (.int v3), some (.int v4), some (.ref N), some (.int (0 + (k : Int))), some (.str n2)]) (A ++ [.lst (F.map .str)]) := by
    by_cases c1 : (0 : Int) < (v4 : Int) * ((0 + (k : Int)) % 2)
    · by_cases c2 : (n1.length : Int) < 6
      · by_cases c3 : (0 : Int) < ((F.length : Nat) : Int)
        · obtain ⟨F0, z, hz⟩ := snoc_of (l := F) (by intro z; subst z; simp at c3)
          have hzm : z ∈ F := by rw [hz]; simp
          obtain ⟨z1, z2, z3⟩ := isNm_iff.mp (hF.nm z hzm)
          have hlast : atI (F.map D.str) (-1) = some (.str z) := by
            rw [hz, List.map_append]
            exact atLast _ _
          have t3 : cutD z none (some (n1.length : Int)) = z.take n1.length := cutD_take z n1.length
          obtain ⟨n2, hn2⟩ : ∃ n2, z.take n1.length ++ [c] = n2 := ⟨_, rfl⟩
          have a3 : ∀ M, oAdd false (.str (z.take n1.length)) (.str [c]) M = .ok (.str n2) M := fun M => by rw [oAdd_str (by simp; omega), hn2]
          refine ⟨n2, ⟨isNm_iff.mpr ⟨by rw [← hn2]; simp, by rw [← hn2]; simp; omega, fun x hx => ?_⟩, .inr ⟨?_, F0, z, hz, by rw [← hn2, ln1]⟩⟩, ?_⟩
          · rw [← hn2] at hx
            simp only [List.mem_append, List.mem_singleton] at hx
            rcases hx with hx | rfl
            · exact z3 x (List.mem_of_mem_take hx)
            · exact hcm
          · rcases Nat.mod_two_eq_zero_or_one k with h0 | h0
            · have : (0 + (k : Int)) % 2 = 0 := by omega
              rw [this] at c1; simp at c1
            · exact h0
          · simp -implicitDefEqProofs (disch := first | assumption | omega | (simp only [List.length_cons, List.length_nil, List.length_append, List.length_map, List.length_take, List.length_drop, rngItems_len]; omega)) only [mSeq_eq, mIfS_eq, mSet_eq, mRet_eq, mRetN_eq, mExpr_eq, mPass_eq, mAsg_eq, mPar_eq, mAug_eq, bOf_eq, tOf_eq, tAndM_eq, tOrM_eq, tNotM_eq, tsYes_eq, mOp_eq, mUn_eq, mVar_eq, mC_eq, mCall_eq, mFun_eq, mFunKw_eq, mMeth_eq, mAnd_eq, mOr_eq, mNot_eq, mIf_eq, mChain_eq, mSl_eq, pNone_eq, pSome_eq, aCons_eq, aNil_eq, mTup_eq, mLst_eq, gN_eq, gT_eq, gsNil_eq, gsCons_eq, mkL_t, mkL_f, R.bind_ok, R.bind_no, R.nox_ok, List.getElem?_cons_zero, List.getElem?_cons_succ, List.set_cons_zero, List.set_cons_succ, List.length_cons, List.length_nil, List.append_nil, List.nil_append, List.cons_append, piApp_on, oLen_fz, oLen_lst, oLen_tup, oLt_int, oLe_int, oGt_int, oGe_int, oAdd_int, oSub_int, oIx_fz, oIx_lst, oIx_tup, oMax_int, oMin_int, oInt_bl, oInt_int, oIsi_bl, oNeg_int, oTuple_lst, oTuple_tup, iR1_eq, iR2_eq, iSq_eq, iStrM_eq, srcOf_tup, srcOf_lst, srcOf_fz, if_true, if_false, Bool.false_eq_true, Bool.true_eq_false, reduceIte, Nat.reduceAdd, Nat.reduceLeDiff, Nat.reduceEqDiff, decide_true, decide_false, and_self, and_true, true_and, oMod_int, oMul_r, oMul_l, oLen_str, oAdd_str, oSl_str, oSl_tup, oSl_lst, oSl_fz, rngOk_of, oEq_int, oEq_bl, beq_self_eq_true, Int.toNat_natCast, mFor_eq, mLc_eq, app_get0, app_get1, app_set0, app_set1, tyOk, oTuple_ref, oList_ref, oLen_refM, oIx_refM, oAppM, oExtM, srcOf_refM, ifLt24, ifLe24, nmS2, decide_eq_true c1, decide_eq_true c2, g8, List.length_map, decide_eq_true c3, hlast, t3, ix, a3]
        · refine ⟨n1, ⟨nm1, .inl rfl⟩, ?_⟩
          simp -implicitDefEqProofs (disch := first | assumption | omega | (simp only [List.length_cons, List.length_nil, List.length_append, List.length_map, List.length_take, List.length_drop, rngItems_len]; omega)) only [mSeq_eq, mIfS_eq, mSet_eq, mRet_eq, mRetN_eq, mExpr_eq, mPass_eq, mAsg_eq, mPar_eq, mAug_eq, bOf_eq, tOf_eq, tAndM_eq, tOrM_eq, tNotM_eq, tsYes_eq, mOp_eq, mUn_eq, mVar_eq, mC_eq, mCall_eq, mFun_eq, mFunKw_eq, mMeth_eq, mAnd_eq, mOr_eq, mNot_eq, mIf_eq, mChain_eq, mSl_eq, pNone_eq, pSome_eq, aCons_eq, aNil_eq, mTup_eq, mLst_eq, gN_eq, gT_eq, gsNil_eq, gsCons_eq, mkL_t, mkL_f, R.bind_ok, R.bind_no, R.nox_ok, List.getElem?_cons_zero, List.getElem?_cons_succ, List.set_cons_zero, List.set_cons_succ, List.length_cons, List.length_nil, List.append_nil, List.nil_append, List.cons_append, piApp_on, oLen_fz, oLen_lst, oLen_tup, oLt_int, oLe_int, oGt_int, oGe_int, oAdd_int, oSub_int, oIx_fz, oIx_lst, oIx_tup, oMax_int, oMin_int, oInt_bl, oInt_int, oIsi_bl, oNeg_int, oTuple_lst, oTuple_tup, iR1_eq, iR2_eq, iSq_eq, iStrM_eq, srcOf_tup, srcOf_lst, srcOf_fz, if_true, if_false, Bool.false_eq_true, Bool.true_eq_false, reduceIte, Nat.reduceAdd, Nat.reduceLeDiff, Nat.reduceEqDiff, decide_true, decide_false, and_self, and_true, true_and, oMod_int, oMul_r, oMul_l, oLen_str, oAdd_str, oSl_str, oSl_tup, oSl_lst, oSl_fz, rngOk_of, oEq_int, oEq_bl, beq_self_eq_true, Int.toNat_natCast, mFor_eq, mLc_eq, app_get0, app_get1, app_set0, app_set1, tyOk, oTuple_ref, oList_ref, oLen_refM, oIx_refM, oAppM, oExtM, srcOf_refM, ifLt24, ifLe24, nmS2, decide_eq_true c1, decide_eq_true c2, g8, List.length_map, decide_eq_false c3]
      · refine ⟨n1, ⟨nm1, .inl rfl⟩, ?_⟩
        simp -implicitDefEqProofs (disch := first | assumption | omega | (simp only [List.length_cons, List.length_nil, List.length_append, List.length_map, List.length_take, List.length_drop, rngItems_len]; omega)) only [mSeq_eq, mIfS_eq, mSet_eq, mRet_eq, mRetN_eq, mExpr_eq, mPass_eq, mAsg_eq, mPar_eq, mAug_eq, bOf_eq, tOf_eq, tAndM_eq, tOrM_eq, tNotM_eq, tsYes_eq, mOp_eq, mUn_eq, mVar_eq, mC_eq, mCall_eq, mFun_eq, mFunKw_eq, mMeth_eq, mAnd_eq, mOr_eq, mNot_eq, mIf_eq, mChain_eq, mSl_eq, pNone_eq, pSome_eq, aCons_eq, aNil_eq, mTup_eq, mLst_eq, gN_eq, gT_eq, gsNil_eq, gsCons_eq, mkL_t, mkL_f, R.bind_ok, R.bind_no, R.nox_ok, List.getElem?_cons_zero, List.getElem?_cons_succ, List.set_cons_zero, List.set_cons_succ, List.length_cons, List.length_nil, List.append_nil, List.nil_append, List.cons_append, piApp_on, oLen_fz, oLen_lst, oLen_tup, oLt_int, oLe_int, oGt_int, oGe_int, oAdd_int, oSub_int, oIx_fz, oIx_lst, oIx_tup, oMax_int, oMin_int, oInt_bl, oInt_int, oIsi_bl, oNeg_int, oTuple_lst, oTuple_tup, iR1_eq, iR2_eq, iSq_eq, iStrM_eq, srcOf_tup, srcOf_lst, srcOf_fz, if_true, if_false, Bool.false_eq_true, Bool.true_eq_false, reduceIte, Nat.reduceAdd, Nat.reduceLeDiff, Nat.reduceEqDiff, decide_true, decide_false, and_self, and_true, true_and, oMod_int, oMul_r, oMul_l, oLen_str, oAdd_str, oSl_str, oSl_tup, oSl_lst, oSl_fz, rngOk_of, oEq_int, oEq_bl, beq_self_eq_true, Int.toNat_natCast, mFor_eq, mLc_eq, app_get0, app_get1, app_set0, app_set1, tyOk, oTuple_ref, oList_ref, oLen_refM, oIx_refM, oAppM, oExtM, srcOf_refM, ifLt24, ifLe24, nmS2, decide_eq_true c1, decide_eq_false c2]
    · refine ⟨n1, ⟨nm1, .inl rfl⟩, ?_⟩
      simp -implicitDefEqProofs (disch := first | assumption | omega | (simp only [List.length_cons, List.length_nil, List.length_append, List.length_map, List.length_take, List.length_drop, rngItems_len]; omega)) only [mSeq_eq, mIfS_eq, mSet_eq, mRet_eq, mRetN_eq, mExpr_eq, mPass_eq, mAsg_eq, mPar_eq, mAug_eq, bOf_eq, tOf_eq, tAndM_eq, tOrM_eq, tNotM_eq, tsYes_eq, mOp_eq, mUn_eq, mVar_eq, mC_eq, mCall_eq, mFun_eq, mFunKw_eq, mMeth_eq, mAnd_eq, mOr_eq, mNot_eq, mIf_eq, mChain_eq, mSl_eq, pNone_eq, pSome_eq, aCons_eq, aNil_eq, mTup_eq, mLst_eq, gN_eq, gT_eq, gsNil_eq, gsCons_eq, mkL_t, mkL_f, R.bind_ok, R.bind_no, R.nox_ok, List.getElem?_cons_zero, List.getElem?_cons_succ, List.set_cons_zero, List.set_cons_succ, List.length_cons, List.length_nil, List.append_nil, List.nil_append, List.cons_append, piApp_on, oLen_fz, oLen_lst, oLen_tup, oLt_int, oLe_int, oGt_int, oGe_int, oAdd_int, oSub_int, oIx_fz, oIx_lst, oIx_tup, oMax_int, oMin_int, oInt_bl, oInt_int, oIsi_bl, oNeg_int, oTuple_lst, oTuple_tup, iR1_eq, iR2_eq, iSq_eq, iStrM_eq, srcOf_tup, srcOf_lst, srcOf_fz, if_true, if_false, Bool.false_eq_true, Bool.true_eq_false, reduceIte, Nat.reduceAdd, Nat.reduceLeDiff, Nat.reduceEqDiff, decide_true, decide_false, and_self, and_true, true_and, oMod_int, oMul_r, oMul_l, oLen_str, oAdd_str, oSl_str, oSl_tup, oSl_lst, oSl_fz, rngOk_of, oEq_int, oEq_bl, beq_self_eq_true, Int.toNat_natCast, mFor_eq, mLc_eq, app_get0, app_get1, app_set0, app_set1, tyOk, oTuple_ref, oList_ref, oLen_refM, oIx_refM, oAppM, oExtM, srcOf_refM, ifLt24, ifLe24, nmS2, decide_eq_false c1]
  obtain ⟨n2, ⟨nm2, what⟩, em⟩ := mid
  obtain ⟨F1, ⟨hF1, hle, happ⟩, e1⟩ := last n2 nm2
  refine ⟨F1, some (.str n2), hF1, ⟨c, n2, hc1, by rw [hn1]; exact what, hle, happ⟩, ?_⟩
  rw [hS]
  simp -implicitDefEqProofs (disch := first | assumption | omega | (simp only [List.length_cons, List.length_nil, List.length_append, List.length_map, List.length_take, List.length_drop, rngItems_len]; omega)) only [mSeq_eq, mIfS_eq, mSet_eq, mRet_eq, mRetN_eq, mExpr_eq, mPass_eq, mAsg_eq, mPar_eq, mAug_eq, bOf_eq, tOf_eq, tAndM_eq, tOrM_eq, tNotM_eq, tsYes_eq, mOp_eq, mUn_eq, mVar_eq, mC_eq, mCall_eq, mFun_eq, mFunKw_eq, mMeth_eq, mAnd_eq, mOr_eq, mNot_eq, mIf_eq, mChain_eq, mSl_eq, pNone_eq, pSome_eq, aCons_eq, aNil_eq, mTup_eq, mLst_eq, gN_eq, gT_eq, gsNil_eq, gsCons_eq, mkL_t, mkL_f, R.bind_ok, R.bind_no, R.nox_ok, List.getElem?_cons_zero, List.getElem?_cons_succ, List.set_cons_zero, List.set_cons_succ, List.length_cons, List.length_nil, List.append_nil, List.nil_append, List.cons_append, piApp_on, oLen_fz, oLen_lst, oLen_tup, oLt_int, oLe_int, oGt_int, oGe_int, oAdd_int, oSub_int, oIx_fz, oIx_lst, oIx_tup, oMax_int, oMin_int, oInt_bl, oInt_int, oIsi_bl, oNeg_int, oTuple_lst, oTuple_tup, iR1_eq, iR2_eq, iSq_eq, iStrM_eq, srcOf_tup, srcOf_lst, srcOf_fz, if_true, if_false, Bool.false_eq_true, Bool.true_eq_false, reduceIte, Nat.reduceAdd, Nat.reduceLeDiff, Nat.reduceEqDiff, decide_true, decide_false, and_self, and_true, true_and, oMod_int, oMul_r, oMul_l, oLen_str, oAdd_str, oSl_str, oSl_tup, oSl_lst, oSl_fz, rngOk_of, oEq_int, oEq_bl, beq_self_eq_true, Int.toNat_natCast, mFor_eq, mLc_eq, app_get0, app_get1, app_set0, app_set1, tyOk, oTuple_ref, oList_ref, oLen_refM, oIx_refM, oAppM, oExtM, srcOf_refM, ifLt24, ifLe24, t1, t2, ix, a1, a2, em, e1]
theorem abc_nat (v : Nat) (h : v < 26) : atI abc (v : Int) = (some (97 + v) : Option Nat) := by
  have : ∀ v : Nat, v < 26 → atI abc (v : Int) = (some (97 + v) : Option Nat) := by decide
  exact this v h
def nmBase (w : List Nat) (v2 v3 j : Nat) : List Nat := w.take v2 ++ [97 + (v3 + 7 * j) % 26] ++ w.drop v2
/-- how many there are -/
structure NmMany (F : List (List Nat)) (count k : Nat) (w : List Nat) (v2 v3 : Nat) : Prop where
  what : ∀ x ∈ F, (∃ j, j < k ∧ x = nmBase w v2 v3 j) ∨ x.length = w.length + 2
  many : min count ((k + 1) / 2) ≤ F.length
theorem nmBase_ne {w : List Nat} {v2 v3 j k : Nat} (hj : j < k) (hk : k < 26) : nmBase w v2 v3 k ≠ nmBase w v2 v3 j := by
  unfold nmBase
  intro e
  rw [List.append_assoc, List.append_assoc] at e
  have e2 := List.append_cancel_left e
  have e3 : (v3 + 7 * k) % 26 = (v3 + 7 * j) % 26 := by simpa using e2
  omega
theorem nmBase_len {w : List Nat} {v2 v3 j : Nat} : (nmBase w v2 v3 j).length = w.length + 1 := by unfold nmBase; simp; omega
theorem nm_many {F F' : List (List Nat)} {count k : Nat} {w : List Nat} {v2 v3 : Nat} (hk : k < 26) (h : NmMany F count k w v2 v3) (e : NmExt F F' count k w v2 v3) : NmMany F' count (k + 1) w v2 v3 := by
  obtain ⟨c, n2, hat, what, hF, happ⟩ := e
  have hcast : ((v3 : Int) + 7 * (0 + (k : Int))) % 26 = (((v3 + 7 * k) % 26 : Nat) : Int) := by simp
  rw [hcast, abc_nat _ (Nat.mod_lt _ (by omega))] at hat
  have hcc : c = 97 + (v3 + 7 * k) % 26 := (Option.some.inj hat).symm
  have hn : (n2 = nmBase w v2 v3 k) ∨ (k % 2 = 1 ∧ n2.length = w.length + 2) := by
    rcases what with what | ⟨h1, F0, z, hz, what⟩
    · left; rw [what, hcc]; rfl
    · right
      refine ⟨h1, ?_⟩
      have hzm : z ∈ F := by rw [hz]; simp
      have lz : w.length + 1 ≤ z.length := by
        rcases h.what z hzm with ⟨j, _, e⟩ | e
        · rw [e, nmBase_len]; omega
        · omega
      rw [what]
      simp only [List.length_append, List.length_take, List.length_cons, List.length_nil]
      omega
  refine ⟨fun x hx => ?_, ?_⟩
  · have hx : x ∈ F ∨ x = n2 := by
      rcases hF with e | e <;> rw [e] at hx
      · exact .inl hx
      · rcases List.mem_append.mp hx with z | z
        · exact .inl z
        · exact .inr (List.mem_singleton.mp z)
    rcases hx with hx | rfl
    · rcases h.what x hx with ⟨j, hj, e⟩ | e
      · exact .inl ⟨j, by omega, e⟩
      · exact .inr e
    · rcases hn with e | ⟨_, e⟩
      · exact .inl ⟨k, by omega, e⟩
      · exact .inr e
  · have hm := h.many
    have hle : F.length ≤ F'.length := by rcases hF with e | e <;> rw [e] <;> simp
    rcases Nat.mod_two_eq_zero_or_one k with h0 | h0
    · have hb : n2 = nmBase w v2 v3 k := by
        rcases hn with e | ⟨e, _⟩
        · exact e
        · omega
      have hni : ¬ n2 ∈ F := by
        intro hi
        rcases h.what n2 hi with ⟨j, hj, e⟩ | e
        · exact nmBase_ne hj hk (hb.symm.trans e)
        · rw [hb, nmBase_len] at e; omega
      by_cases hc : F.length < count
      · rw [happ hni hc]
        simp only [List.length_append, List.length_cons, List.length_nil]
        omega
      · omega
    · omega
theorem names_eq {M0 M : Mem} {i : Nat} (h : FlAt M0 i M) (count : Nat) (hc : 0 < count) (hc13 : count ≤ 13) : ∃ (F : List (List Nat)) (M' : Mem), (∀ w ∈ F, isNm w = true) ∧ F.Nodup ∧ F.length = count ∧ FlAt M0 i M' ∧ g_law_names [.ref i, .int count] M = .ok (.lst (F.map .str)) M' := by
  obtain ⟨v, M1, v1, h1, e1⟩ := draw_eq h.self 6 (by omega) (by omega)
  obtain ⟨w, M2, lw, aw, h2, e2⟩ := word_comp h1 v (by omega) (wipeE [some (.ref i), some (.int count), some (.str abc), none, none, none, none, none, none, none, none] [4]) (fun x => ⟨rfl, rfl⟩) C_law_names_0 rfl
  obtain ⟨v2, M3, p2, h3, e3⟩ := draw_eq h2 (w.length + 1) (by omega) (by omega)
  obtain ⟨v3, M4, p3, h4, e4⟩ := draw_eq h3 26 (by omega) (by omega)
  obtain ⟨v4, A, p4, h5, e5⟩ := draw_eq h4 2 (by omega) (by omega)
  have hA : A.length = M.length := h5.len
  obtain ⟨env', m', e6, F, y9, y10, rfl, rfl, hF, hT⟩ := forL_inv (g := gN 9) (body := L_law_names_1) (fun k env M2 => ∃ (F : List (List Nat)) (y9 y10 : Option D), env = [some (.ref i), some (.int count), some (.str abc), some (.str w), none, some (.int v2), some (.int v3), some (.int v4), some (.ref M.length), y9, y10] ∧ M2 = A ++ [.lst (F.map .str)] ∧ NmOk F count k ∧ NmMany F count k w v2 v3) (rngItems 0 26) 0 [some (.ref i), some (.int count), some (.str abc), some (.str w), none, some (.int v2), some (.int v3), some (.int v4), some (.ref M.length), none, none] (A ++ [.lst []])
    ⟨[], none, none, rfl, rfl, ⟨fun _ h => (by cases h), List.nodup_nil, Nat.zero_le _, Nat.le_refl _, fun h => absurd h (Nat.lt_irrefl _)⟩, ⟨fun _ h => (by cases h), by simp⟩⟩ (by
      rintro k d env M2 hk ⟨F, y9, y10, rfl, rfl, hF, hT⟩
      obtain ⟨rfl, hk26⟩ := rngItems_get hk
      rw [Nat.zero_add] at hF hT ⊢
      obtain ⟨F', z10, hF', hE, e⟩ := names_turn hA F count k hF hk26 hc w (by omega) aw v2 v3 v4 (by omega) (some (.ref i)) none y10
      exact ⟨_, _, e, F', _, z10, rfl, rfl, hF', nm_many hk26 hT hE⟩)
  rw [rngItems_len] at hF hT
  refine ⟨F, A, hF.nm, hF.nd, by have := hF.le; have := hT.many; omega, h.trans h5, ?_⟩
  have hB : B_law_names [some (.ref i), some (.int count), none, none, none, none, none, none, none, none, none] M = .ok (.rt (.ref M.length)) (A ++ [.lst (F.map .str)]) := by
    have hj : oJoin (.str []) [.lst (w.map fun c => .str [c])] M2 = .ok (.str w) M2 := join_eq (by omega)
    have t26 : (26 : Int).toNat = 26 := rfl
    simp -implicitDefEqProofs (disch := first | assumption | omega | (simp only [List.length_cons, List.length_nil, List.length_append, List.length_map, List.length_take, List.length_drop, rngItems_len]; omega)) only [mSeq_eq, mIfS_eq, mSet_eq, mRet_eq, mRetN_eq, mExpr_eq, mPass_eq, mAsg_eq, mPar_eq, mAug_eq, bOf_eq, tOf_eq, tAndM_eq, tOrM_eq, tNotM_eq, tsYes_eq, mOp_eq, mUn_eq, mVar_eq, mC_eq, mCall_eq, mFun_eq, mFunKw_eq, mMeth_eq, mAnd_eq, mOr_eq, mNot_eq, mIf_eq, mChain_eq, mSl_eq, pNone_eq, pSome_eq, aCons_eq, aNil_eq, mTup_eq, mLst_eq, gN_eq, gT_eq, gsNil_eq, gsCons_eq, mkL_t, mkL_f, R.bind_ok, R.bind_no, R.nox_ok, List.getElem?_cons_zero, List.getElem?_cons_succ, List.set_cons_zero, List.set_cons_succ, List.length_cons, List.length_nil, List.append_nil, List.nil_append, List.cons_append, piApp_on, oLen_fz, oLen_lst, oLen_tup, oLt_int, oLe_int, oGt_int, oGe_int, oAdd_int, oSub_int, oIx_fz, oIx_lst, oIx_tup, oMax_int, oMin_int, oInt_bl, oInt_int, oIsi_bl, oNeg_int, oTuple_lst, oTuple_tup, iR1_eq, iR2_eq, iSq_eq, iStrM_eq, srcOf_tup, srcOf_lst, srcOf_fz, if_true, if_false, Bool.false_eq_true, Bool.true_eq_false, reduceIte, Nat.reduceAdd, Nat.reduceLeDiff, Nat.reduceEqDiff, decide_true, decide_false, and_self, and_true, true_and, oMod_int, oMul_r, oMul_l, oLen_str, oAdd_str, oSl_str, oSl_tup, oSl_lst, oSl_fz, rngOk_of, oEq_int, oEq_bl, beq_self_eq_true, Int.toNat_natCast, mFor_eq, mLc_eq, app_get0, app_get1, app_set0, app_set1, tyOk, oTuple_ref, oList_ref, oLen_refM, oIx_refM, oAppM, oExtM, srcOf_refM, ifLt24, ifLe24, B_law_names, e1, e2, hj, e3, e4, e5, mPar3_eq, hA, t26, e6]
  exact gc_flow (n := 0) h5 (runB_rt (N := 11) hB) (plL_str F)
/-! ### the class Table -/
theorem map_inj {α β : Type} {f : α → β} (hf : ∀ a b, f a = f b → a = b) : ∀ {l m : List α}, l.map f = m.map f → l = m
  | [], [], _ => rfl
  | [], _ :: _, h => by cases h
  | _ :: _, [], h => by cases h
  | a :: l, b :: m, h => by
    simp only [List.map_cons, List.cons.injEq] at h
    rw [hf _ _ h.1, map_inj hf h.2]
abbrev Th := List Nat × Int
def thD (x : Th) : D := .tup [.str x.1, .int x.2]
def tkk (x : Th) : List KK := [.inr x.1, .inl x.2]
theorem keyT_th (x : Th) : keyT (thD x) = some (tkk x) := rfl
theorem tkk_inj {x y : Th} (h : tkk x = tkk y) : x = y := by
  unfold tkk at h
  injection h with h1 h2
  injection h2 with h2 _
  injection h1 with h1
  injection h2 with h2
  exact Prod.ext h1 h2
/-- a place in use: its turn, its thing -/
structure En where
  p : Nat
  t : Nat
  x : Th
def En.kv (e : En) : KK × D := (.inl e.p, .tup [.int e.t, thD e.x])
structure Tab where
  used : List Nat
  there : List En
  known : List Th
def usedD (l : List Nat) : List D := l.map fun n : Nat => .int n
def thereK (l : List En) : List (KK × D) := l.map En.kv
def knownK (l : List Th) : List (List KK × D) := l.map fun x => (tkk x, .bl true)
def tabF (u t k : Nat) : List (Str × D) := [("used", .ref u), ("there", .ref t), ("known", .ref k)]
section
variable (u t k : Nat)
theorem tn1 : (("there" : Str) == "used") = false := by decide +kernel
theorem tn2 : (("known" : Str) == "used") = false := by decide +kernel
theorem tn3 : (("known" : Str) == "there") = false := by decide +kernel
theorem lk_used : (tabF u t k).lookup ("used" : Str) = some (.ref u) := by simp only [tabF, List.lookup, beq_self_eq_true]
theorem lk_there : (tabF u t k).lookup ("there" : Str) = some (.ref t) := by simp only [tabF, List.lookup, tn1, beq_self_eq_true]
theorem lk_known : (tabF u t k).lookup ("known" : Str) = some (.ref k) := by simp only [tabF, List.lookup, tn2, tn3, beq_self_eq_true]
theorem lk_m (m : Str) (h1 : (m == "used") = false) (h2 : (m == "there") = false) (h3 : (m == "known") = false) : (tabF u t k).lookup m = none := by simp only [tabF, List.lookup, h1, h2, h3]
theorem lk_leads : (tabF u t k).lookup ("leads" : Str) = none := lk_m u t k _ (by decide +kernel) (by decide +kernel) (by decide +kernel)
theorem lk_put : (tabF u t k).lookup ("put" : Str) = none := lk_m u t k _ (by decide +kernel) (by decide +kernel) (by decide +kernel)
theorem lk_drop : (tabF u t k).lookup ("drop" : Str) = none := lk_m u t k _ (by decide +kernel) (by decide +kernel) (by decide +kernel)
theorem lk_handles : (tabF u t k).lookup ("handles" : Str) = none := lk_m u t k _ (by decide +kernel) (by decide +kernel) (by decide +kernel)
theorem lk_free : (tabF u t k).lookup ("free_place" : Str) = none := lk_m u t k _ (by decide +kernel) (by decide +kernel) (by decide +kernel)
end
structure TabAt (M : Mem) (i u t k : Nat) (T : Tab) : Prop where
  ins : M[i]? = some (.ins 0 (tabF u t k))
  us : M[u]? = some (.lst (usedD T.used))
  th : M[t]? = some (.dk false (thereK T.there))
  kn : M[k]? = some (.dt false (knownK T.known))
  iu : i ≠ u
  it : i ≠ t
  ik : i ≠ k
  ut : u ≠ t
  uk : u ≠ k
  tk : t ≠ k
theorem gA_there (l : List En) (p : Nat) : gA (thereK l) (.inl (p : Int)) = (l.find? fun e => decide (e.p = p)).map fun e => .tup [.int e.t, thD e.x] := by
  unfold gA thereK
  induction l with
  | nil => rfl
  | cons e r ih =>
    simp only [List.map_cons, List.find?_cons]
    by_cases h : e.p = p
    · have h' : (En.kv e).1 = .inl (p : Int) := by show (Sum.inl (e.p : Int) : KK) = .inl (p : Int); rw [h]
      rw [decide_eq_true h', decide_eq_true h]; rfl
    · have h' : ¬ (En.kv e).1 = .inl (p : Int) := fun z => h (by have z : (Sum.inl (e.p : Int) : KK) = .inl (p : Int) := z; injection z with z; omega)
      rw [decide_eq_false h', decide_eq_false h]; exact ih
theorem gA_known (l : List Th) (x : Th) : (gA (knownK l) (tkk x)).isSome = decide (x ∈ l) := by
  unfold gA knownK
  induction l with
  | nil => rfl
  | cons y r ih =>
    simp only [List.map_cons, List.find?_cons]
    by_cases h : y = x
    · subst h; rw [decide_eq_true rfl]; simp
    · have h' : ¬ tkk y = tkk x := fun z => h (tkk_inj z)
      rw [decide_eq_false h']
      simp only
      rw [ih]
      have : ¬ x = y := fun z => h z.symm
      simp [this]
theorem len_eq {M : Mem} {i u t k : Nat} {T : Tab} (h : TabAt M i u t k T) : g_Table___len__ [.ref i] M = .ok (.int T.there.length) M := by
  refine runB_rt (N := 1) ?_
  show B_Table___len__ [some (.ref i)] M = _
  have e : (thereK T.there).length = T.there.length := by unfold thereK; rw [List.length_map]
  simp -implicitDefEqProofs (disch := first | assumption | omega | (simp only [List.length_cons, List.length_nil, List.length_append, List.length_map, List.length_take, List.length_drop, rngItems_len]; omega)) only [mSeq_eq, mIfS_eq, mSet_eq, mRet_eq, mRetN_eq, mExpr_eq, mPass_eq, mAsg_eq, mPar_eq, mAug_eq, bOf_eq, tOf_eq, tAndM_eq, tOrM_eq, tNotM_eq, tsYes_eq, mOp_eq, mUn_eq, mVar_eq, mC_eq, mCall_eq, mFun_eq, mFunKw_eq, mMeth_eq, mAnd_eq, mOr_eq, mNot_eq, mIf_eq, mChain_eq, mSl_eq, pNone_eq, pSome_eq, aCons_eq, aNil_eq, mTup_eq, mLst_eq, gN_eq, gT_eq, gsNil_eq, gsCons_eq, mkL_t, mkL_f, R.bind_ok, R.bind_no, R.nox_ok, List.getElem?_cons_zero, List.getElem?_cons_succ, List.set_cons_zero, List.set_cons_succ, List.length_cons, List.length_nil, List.append_nil, List.nil_append, List.cons_append, piApp_on, oLen_fz, oLen_lst, oLen_tup, oLt_int, oLe_int, oGt_int, oGe_int, oAdd_int, oSub_int, oIx_fz, oIx_lst, oIx_tup, oMax_int, oMin_int, oInt_bl, oInt_int, oIsi_bl, oNeg_int, oTuple_lst, oTuple_tup, iR1_eq, iR2_eq, iSq_eq, iStrM_eq, srcOf_tup, srcOf_lst, srcOf_fz, if_true, if_false, Bool.false_eq_true, Bool.true_eq_false, reduceIte, Nat.reduceAdd, Nat.reduceLeDiff, Nat.reduceEqDiff, decide_true, decide_false, and_self, and_true, true_and, oMod_int, oMul_r, oMul_l, oLen_str, oAdd_str, oSl_str, oSl_tup, oSl_lst, oSl_fz, rngOk_of, oEq_int, oEq_bl, beq_self_eq_true, Int.toNat_natCast, mFor_eq, mLc_eq, app_get0, app_get1, app_set0, app_set1, tyOk, oTuple_ref, oList_ref, oLen_refM, oIx_refM, oAppM, oExtM, srcOf_refM, ifLt24, ifLe24, B_Table___len__, mFld_eq, insOf_at h.ins, lk_there, oLenA_dk h.th, e]
/-- what a handle leads to -/
def Tab.leads (T : Tab) (p t : Nat) : Option Th := match T.there.find? fun e => decide (e.p = p) with
  | some e => if e.t = t then some e.x else none
  | none => none
def optD : Option Th → D
  | none => .non
  | some x => thD x
theorem leads_eq {M : Mem} {i u t k : Nat} {T : Tab} (h : TabAt M i u t k T) (p n : Nat) : g_Table_leads [.ref i, .tup [.int p, .int n]] M = .ok (optD (T.leads p n)) M := by
  refine runB_rt (N := 4) ?_
  show B_Table_leads [some (.ref i), some (.tup [.int p, .int n]), none, none] M = _
  have g := gA_there T.there p
  unfold Tab.leads
  cases hf : T.there.find? fun e => decide (e.p = p) with
  | none =>
    rw [hf] at g
    have e1 : oInA true (.int p) (.ref t) M = .ok (.bl true) M := by rw [oInA_dk h.th, g]; rfl
    simp -implicitDefEqProofs (disch := first | assumption | omega | (simp only [List.length_cons, List.length_nil, List.length_append, List.length_map, List.length_take, List.length_drop, rngItems_len]; omega)) only [mSeq_eq, mIfS_eq, mSet_eq, mRet_eq, mRetN_eq, mExpr_eq, mPass_eq, mAsg_eq, mPar_eq, mAug_eq, bOf_eq, tOf_eq, tAndM_eq, tOrM_eq, tNotM_eq, tsYes_eq, mOp_eq, mUn_eq, mVar_eq, mC_eq, mCall_eq, mFun_eq, mFunKw_eq, mMeth_eq, mAnd_eq, mOr_eq, mNot_eq, mIf_eq, mChain_eq, mSl_eq, pNone_eq, pSome_eq, aCons_eq, aNil_eq, mTup_eq, mLst_eq, gN_eq, gT_eq, gsNil_eq, gsCons_eq, mkL_t, mkL_f, R.bind_ok, R.bind_no, R.nox_ok, List.getElem?_cons_zero, List.getElem?_cons_succ, List.set_cons_zero, List.set_cons_succ, List.length_cons, List.length_nil, List.append_nil, List.nil_append, List.cons_append, piApp_on, oLen_fz, oLen_lst, oLen_tup, oLt_int, oLe_int, oGt_int, oGe_int, oAdd_int, oSub_int, oIx_fz, oIx_lst, oIx_tup, oMax_int, oMin_int, oInt_bl, oInt_int, oIsi_bl, oNeg_int, oTuple_lst, oTuple_tup, iR1_eq, iR2_eq, iSq_eq, iStrM_eq, srcOf_tup, srcOf_lst, srcOf_fz, if_true, if_false, Bool.false_eq_true, Bool.true_eq_false, reduceIte, Nat.reduceAdd, Nat.reduceLeDiff, Nat.reduceEqDiff, decide_true, decide_false, and_self, and_true, true_and, oMod_int, oMul_r, oMul_l, oLen_str, oAdd_str, oSl_str, oSl_tup, oSl_lst, oSl_fz, rngOk_of, oEq_int, oEq_bl, beq_self_eq_true, Int.toNat_natCast, mFor_eq, mLc_eq, app_get0, app_get1, app_set0, app_set1, tyOk, oTuple_ref, oList_ref, oLen_refM, oIx_refM, oAppM, oExtM, srcOf_refM, ifLt24, ifLe24, B_Table_leads, mFld_eq, insOf_at h.ins, lk_there, e1]
    rfl
  | some e =>
    rw [hf] at g
    have g : gA (thereK T.there) (.inl (p : Int)) = some (.tup [.int e.t, thD e.x]) := g
    have e1 : oInA true (.int p) (.ref t) M = .ok (.bl false) M := by rw [oInA_dk h.th, g]; rfl
    have e2 := oIxA_dk h.th g
    have e3 : oIxA (.tup [.int e.t, thD e.x]) (.int 0) M = .ok (.int e.t) M := rfl
    have e4 : oIxA (.tup [.int e.t, thD e.x]) (.int 1) M = .ok (thD e.x) M := rfl
    by_cases hc : e.t = n
    · have e5 : oEq true (.int e.t) (.int n) M = .ok (.bl false) M := by rw [hc]; exact oEq_exT rfl (Nat.zero_le _)
      simp -implicitDefEqProofs (disch := first | assumption | omega | (simp only [List.length_cons, List.length_nil, List.length_append, List.length_map, List.length_take, List.length_drop, rngItems_len]; omega)) only [mSeq_eq, mIfS_eq, mSet_eq, mRet_eq, mRetN_eq, mExpr_eq, mPass_eq, mAsg_eq, mPar_eq, mAug_eq, bOf_eq, tOf_eq, tAndM_eq, tOrM_eq, tNotM_eq, tsYes_eq, mOp_eq, mUn_eq, mVar_eq, mC_eq, mCall_eq, mFun_eq, mFunKw_eq, mMeth_eq, mAnd_eq, mOr_eq, mNot_eq, mIf_eq, mChain_eq, mSl_eq, pNone_eq, pSome_eq, aCons_eq, aNil_eq, mTup_eq, mLst_eq, gN_eq, gT_eq, gsNil_eq, gsCons_eq, mkL_t, mkL_f, R.bind_ok, R.bind_no, R.nox_ok, List.getElem?_cons_zero, List.getElem?_cons_succ, List.set_cons_zero, List.set_cons_succ, List.length_cons, List.length_nil, List.append_nil, List.nil_append, List.cons_append, piApp_on, oLen_fz, oLen_lst, oLen_tup, oLt_int, oLe_int, oGt_int, oGe_int, oAdd_int, oSub_int, oIx_fz, oIx_lst, oIx_tup, oMax_int, oMin_int, oInt_bl, oInt_int, oIsi_bl, oNeg_int, oTuple_lst, oTuple_tup, iR1_eq, iR2_eq, iSq_eq, iStrM_eq, srcOf_tup, srcOf_lst, srcOf_fz, if_true, if_false, Bool.false_eq_true, Bool.true_eq_false, reduceIte, Nat.reduceAdd, Nat.reduceLeDiff, Nat.reduceEqDiff, decide_true, decide_false, and_self, and_true, true_and, oMod_int, oMul_r, oMul_l, oLen_str, oAdd_str, oSl_str, oSl_tup, oSl_lst, oSl_fz, rngOk_of, oEq_int, oEq_bl, beq_self_eq_true, Int.toNat_natCast, mFor_eq, mLc_eq, app_get0, app_get1, app_set0, app_set1, tyOk, oTuple_ref, oList_ref, oLen_refM, oIx_refM, oAppM, oExtM, srcOf_refM, ifLt24, ifLe24, B_Table_leads, mFld_eq, insOf_at h.ins, lk_there, e1, e2, e3, e4, e5, if_pos hc]
      all_goals rfl
    · have e5 : oEq true (.int e.t) (.int n) M = .ok (.bl true) M := oEq_exF rfl rfl (Nat.zero_le _) (fun z => hc (by injection z with z; omega))
      simp -implicitDefEqProofs (disch := first | assumption | omega | (simp only [List.length_cons, List.length_nil, List.length_append, List.length_map, List.length_take, List.length_drop, rngItems_len]; omega)) only [mSeq_eq, mIfS_eq, mSet_eq, mRet_eq, mRetN_eq, mExpr_eq, mPass_eq, mAsg_eq, mPar_eq, mAug_eq, bOf_eq, tOf_eq, tAndM_eq, tOrM_eq, tNotM_eq, tsYes_eq, mOp_eq, mUn_eq, mVar_eq, mC_eq, mCall_eq, mFun_eq, mFunKw_eq, mMeth_eq, mAnd_eq, mOr_eq, mNot_eq, mIf_eq, mChain_eq, mSl_eq, pNone_eq, pSome_eq, aCons_eq, aNil_eq, mTup_eq, mLst_eq, gN_eq, gT_eq, gsNil_eq, gsCons_eq, mkL_t, mkL_f, R.bind_ok, R.bind_no, R.nox_ok, List.getElem?_cons_zero, List.getElem?_cons_succ, List.set_cons_zero, List.set_cons_succ, List.length_cons, List.length_nil, List.append_nil, List.nil_append, List.cons_append, piApp_on, oLen_fz, oLen_lst, oLen_tup, oLt_int, oLe_int, oGt_int, oGe_int, oAdd_int, oSub_int, oIx_fz, oIx_lst, oIx_tup, oMax_int, oMin_int, oInt_bl, oInt_int, oIsi_bl, oNeg_int, oTuple_lst, oTuple_tup, iR1_eq, iR2_eq, iSq_eq, iStrM_eq, srcOf_tup, srcOf_lst, srcOf_fz, if_true, if_false, Bool.false_eq_true, Bool.true_eq_false, reduceIte, Nat.reduceAdd, Nat.reduceLeDiff, Nat.reduceEqDiff, decide_true, decide_false, and_self, and_true, true_and, oMod_int, oMul_r, oMul_l, oLen_str, oAdd_str, oSl_str, oSl_tup, oSl_lst, oSl_fz, rngOk_of, oEq_int, oEq_bl, beq_self_eq_true, Int.toNat_natCast, mFor_eq, mLc_eq, app_get0, app_get1, app_set0, app_set1, tyOk, oTuple_ref, oList_ref, oLen_refM, oIx_refM, oAppM, oExtM, srcOf_refM, ifLt24, ifLe24, B_Table_leads, mFld_eq, insOf_at h.ins, lk_there, e1, e2, e3, e4, e5, if_neg hc]
      all_goals rfl
/-! ### Table: what changes -/
theorem TabAt.lt {M : Mem} {i u t k : Nat} {T : Tab} (h : TabAt M i u t k T) : i < M.length ∧ u < M.length ∧ t < M.length ∧ k < M.length :=
  ⟨(List.getElem?_eq_some_iff.mp h.ins).1, (List.getElem?_eq_some_iff.mp h.us).1, (List.getElem?_eq_some_iff.mp h.th).1, (List.getElem?_eq_some_iff.mp h.kn).1⟩
theorem TabAt.setU {M : Mem} {i u t k : Nat} {T : Tab} (h : TabAt M i u t k T) (l : List Nat) : TabAt (M.set u (.lst (usedD l))) i u t k { T with used := l } := by
  obtain ⟨l1, l2, l3, l4⟩ := h.lt
  have := h.iu; have := h.ut; have := h.uk
  exact ⟨by rw [List.getElem?_set_ne (by omega)]; exact h.ins, List.getElem?_set_self l2, by rw [List.getElem?_set_ne (by omega)]; exact h.th, by rw [List.getElem?_set_ne (by omega)]; exact h.kn, h.iu, h.it, h.ik, h.ut, h.uk, h.tk⟩
theorem TabAt.setT {M : Mem} {i u t k : Nat} {T : Tab} (h : TabAt M i u t k T) (l : List En) : TabAt (M.set t (.dk false (thereK l))) i u t k { T with there := l } := by
  obtain ⟨l1, l2, l3, l4⟩ := h.lt
  have := h.it; have := h.ut; have := h.tk
  exact ⟨by rw [List.getElem?_set_ne (by omega)]; exact h.ins, by rw [List.getElem?_set_ne (by omega)]; exact h.us, List.getElem?_set_self l3, by rw [List.getElem?_set_ne (by omega)]; exact h.kn, h.iu, h.it, h.ik, h.ut, h.uk, h.tk⟩
theorem TabAt.setK {M : Mem} {i u t k : Nat} {T : Tab} (h : TabAt M i u t k T) (l : List Th) : TabAt (M.set k (.dt false (knownK l))) i u t k { T with known := l } := by
  obtain ⟨l1, l2, l3, l4⟩ := h.lt
  have := h.ik; have := h.uk; have := h.tk
  exact ⟨by rw [List.getElem?_set_ne (by omega)]; exact h.ins, by rw [List.getElem?_set_ne (by omega)]; exact h.us, by rw [List.getElem?_set_ne (by omega)]; exact h.th, List.getElem?_set_self l4, h.iu, h.it, h.ik, h.ut, h.uk, h.tk⟩
def Tab.has (T : Tab) (p : Nat) : Bool := (T.there.find? fun e => decide (e.p = p)).isSome
theorem has_iff {T : Tab} {p : Nat} : T.has p = true ↔ ∃ e ∈ T.there, e.p = p := by
  unfold Tab.has
  rw [List.find?_isSome]
  simp
theorem places : ∀ (n : Nat) (l : List En), (∀ q, q < n → ∃ e ∈ l, e.p = q) → n ≤ l.length
  | 0, _, _ => Nat.zero_le _
  | n + 1, l, h => by
    obtain ⟨e, he, hp⟩ := h n (by omega)
    have h1 := places n (l.filter fun e => decide (e.p ≠ n)) fun q hq => by
      obtain ⟨e', he', hp'⟩ := h q (by omega)
      exact ⟨e', List.mem_filter.mpr ⟨he', by simp; omega⟩, hp'⟩
    have h2 : (l.filter fun e => decide (e.p ≠ n)).length < l.length := by
      rw [List.length_filter_lt_length_iff_exists]
      exact ⟨e, he, by simp [hp]⟩
    omega
/-- the least free place -/
theorem free_is (T : Tab) : ∃ f, f ≤ T.there.length ∧ (∀ q, q < f → T.has q = true) ∧ T.has f = false := by
  have h0 : ∃ q, T.has q = false := by
    cases hh : T.has T.there.length with
    | false => exact ⟨_, hh⟩
    | true =>
      by_cases hall : ∀ q, q < T.there.length + 1 → ∃ e ∈ T.there, e.p = q
      · have := places _ _ hall; omega
      · simp only [Classical.not_forall] at hall
        obtain ⟨q, _, hq⟩ := hall
        refine ⟨q, ?_⟩
        cases hc : T.has q with
        | false => rfl
        | true => exact absurd (has_iff.mp hc) hq
  have least : ∀ n, (∃ q, q ≤ n ∧ T.has q = false) → ∃ f, (∀ q, q < f → T.has q = true) ∧ T.has f = false := by
    intro n
    induction n with
    | zero => rintro ⟨q, hq, h⟩; exact ⟨0, fun _ hh => absurd hh (by omega), by rw [show (0 : Nat) = q by omega]; exact h⟩
    | succ n ih =>
      rintro ⟨q, hq, h⟩
      by_cases hl : ∃ q, q ≤ n ∧ T.has q = false
      · exact ih hl
      · refine ⟨q, fun q' hq' => ?_, h⟩
        cases hc : T.has q' with
        | true => rfl
        | false => exact absurd ⟨q', by omega, hc⟩ hl
  obtain ⟨q, hq⟩ := h0
  obtain ⟨f, h1, h2⟩ := least q ⟨q, Nat.le_refl _, hq⟩
  exact ⟨f, places f T.there fun q hq => has_iff.mp (h1 q hq), h1, h2⟩
theorem in_there {M : Mem} {i u t k : Nat} {T : Tab} (h : TabAt M i u t k T) (neg : Bool) (p : Nat) : oInA neg (.int p) (.ref t) M = .ok (.bl (neg != T.has p)) M := by
  rw [oInA_dk h.th, gA_there]
  unfold Tab.has
  rw [Option.isSome_map]
theorem free_loop {M : Mem} {i u t k : Nat} {T : Tab} (h : TabAt M i u t k T) : ∀ (n fuel p : Nat), n < fuel → (∀ q, q < p + n → T.has q = true) → T.has (p + n) = false →
    whileM T_Table_free_place_0 L_Table_free_place_1 fuel [some (.ref i), some (.int p)] M = .ok (.nx [some (.ref i), some (.int (p + n : Nat))]) M
  | n, 0, _, hf, _, _ => absurd hf (by omega)
  | 0, fuel + 1, p, hf, h1, h2 => by
    have e : oInA false (.int p) (.ref t) M = .ok (.bl false) M := by rw [in_there h, show T.has p = false from h2]; rfl
    have c : T_Table_free_place_0 [some (.ref i), some (.int p)] M = .ok false M := by simp -implicitDefEqProofs only [mSeq_eq, mIfS_eq, mSet_eq, mRet_eq, mRetN_eq, mExpr_eq, mPass_eq, mAsg_eq, mPar_eq, mAug_eq, bOf_eq, tOf_eq, tAndM_eq, tOrM_eq, tNotM_eq, tsYes_eq, mOp_eq, mUn_eq, mVar_eq, mC_eq, mCall_eq, mFun_eq, mFunKw_eq, mMeth_eq, mAnd_eq, mOr_eq, mNot_eq, mIf_eq, mChain_eq, mSl_eq, pNone_eq, pSome_eq, aCons_eq, aNil_eq, mTup_eq, mLst_eq, gN_eq, gT_eq, gsNil_eq, gsCons_eq, mkL_t, mkL_f, R.bind_ok, R.bind_no, R.nox_ok, List.getElem?_cons_zero, List.getElem?_cons_succ, List.set_cons_zero, List.set_cons_succ, List.length_cons, List.length_nil, List.append_nil, List.nil_append, List.cons_append, piApp_on, oLen_fz, oLen_lst, oLen_tup, oLt_int, oLe_int, oGt_int, oGe_int, oAdd_int, oSub_int, oIx_fz, oIx_lst, oIx_tup, oMax_int, oMin_int, oInt_bl, oInt_int, oIsi_bl, oNeg_int, oTuple_lst, oTuple_tup, iR1_eq, iR2_eq, iSq_eq, iStrM_eq, srcOf_tup, srcOf_lst, srcOf_fz, if_true, if_false, Bool.false_eq_true, Bool.true_eq_false, reduceIte, Nat.reduceAdd, Nat.reduceLeDiff, Nat.reduceEqDiff, decide_true, decide_false, and_self, and_true, true_and, T_Table_free_place_0, mFld_eq, insOf_at h.ins, lk_there, e]
    simp only [whileM, c, R.bind_ok, Bool.false_eq_true, if_false, Nat.add_zero]
  | n + 1, fuel + 1, p, hf, h1, h2 => by
    have e : oInA false (.int p) (.ref t) M = .ok (.bl true) M := by rw [in_there h, h1 p (by omega)]; rfl
    have c : T_Table_free_place_0 [some (.ref i), some (.int p)] M = .ok true M := by simp -implicitDefEqProofs only [mSeq_eq, mIfS_eq, mSet_eq, mRet_eq, mRetN_eq, mExpr_eq, mPass_eq, mAsg_eq, mPar_eq, mAug_eq, bOf_eq, tOf_eq, tAndM_eq, tOrM_eq, tNotM_eq, tsYes_eq, mOp_eq, mUn_eq, mVar_eq, mC_eq, mCall_eq, mFun_eq, mFunKw_eq, mMeth_eq, mAnd_eq, mOr_eq, mNot_eq, mIf_eq, mChain_eq, mSl_eq, pNone_eq, pSome_eq, aCons_eq, aNil_eq, mTup_eq, mLst_eq, gN_eq, gT_eq, gsNil_eq, gsCons_eq, mkL_t, mkL_f, R.bind_ok, R.bind_no, R.nox_ok, List.getElem?_cons_zero, List.getElem?_cons_succ, List.set_cons_zero, List.set_cons_succ, List.length_cons, List.length_nil, List.append_nil, List.nil_append, List.cons_append, piApp_on, oLen_fz, oLen_lst, oLen_tup, oLt_int, oLe_int, oGt_int, oGe_int, oAdd_int, oSub_int, oIx_fz, oIx_lst, oIx_tup, oMax_int, oMin_int, oInt_bl, oInt_int, oIsi_bl, oNeg_int, oTuple_lst, oTuple_tup, iR1_eq, iR2_eq, iSq_eq, iStrM_eq, srcOf_tup, srcOf_lst, srcOf_fz, if_true, if_false, Bool.false_eq_true, Bool.true_eq_false, reduceIte, Nat.reduceAdd, Nat.reduceLeDiff, Nat.reduceEqDiff, decide_true, decide_false, and_self, and_true, true_and, T_Table_free_place_0, mFld_eq, insOf_at h.ins, lk_there, e]
    have b : L_Table_free_place_1 [some (.ref i), some (.int p)] M = .ok (.nx [some (.ref i), some (.int (p + 1 : Nat))]) M := rfl
    have ih := free_loop h n fuel (p + 1) (by omega) (fun q hq => h1 q (by omega)) (by rw [show p + 1 + n = p + (n + 1) by omega]; exact h2)
    rw [show p + 1 + n = p + (n + 1) by omega] at ih
    simp only [whileM, c, R.bind_ok, if_true, b, ih]
theorem free_eq {M : Mem} {i u t k : Nat} {T : Tab} (h : TabAt M i u t k T) (hl : T.there.length < 1000000) {f : Nat} (h0 : f ≤ T.there.length) (h1 : ∀ q, q < f → T.has q = true) (h2 : T.has f = false) : g_Table_free_place [.ref i] M = .ok (.int f) M := by
  refine runB_rt (N := 2) ?_
  show B_Table_free_place [some (.ref i), none] M = _
  have e := fun fuel hf => free_loop h f fuel 0 hf (by simpa using h1) (by simpa using h2)
  simp only [Nat.zero_add] at e
  have e' : mWhile T_Table_free_place_0 L_Table_free_place_1 [some (.ref i), some (.int 0)] M = .ok (.nx [some (.ref i), some (.int f)]) M := e _ (by omega)
  simp -implicitDefEqProofs (disch := first | assumption | omega | (simp only [List.length_cons, List.length_nil, List.length_append, List.length_map, List.length_take, List.length_drop, rngItems_len]; omega)) only [mSeq_eq, mIfS_eq, mSet_eq, mRet_eq, mRetN_eq, mExpr_eq, mPass_eq, mAsg_eq, mPar_eq, mAug_eq, bOf_eq, tOf_eq, tAndM_eq, tOrM_eq, tNotM_eq, tsYes_eq, mOp_eq, mUn_eq, mVar_eq, mC_eq, mCall_eq, mFun_eq, mFunKw_eq, mMeth_eq, mAnd_eq, mOr_eq, mNot_eq, mIf_eq, mChain_eq, mSl_eq, pNone_eq, pSome_eq, aCons_eq, aNil_eq, mTup_eq, mLst_eq, gN_eq, gT_eq, gsNil_eq, gsCons_eq, mkL_t, mkL_f, R.bind_ok, R.bind_no, R.nox_ok, List.getElem?_cons_zero, List.getElem?_cons_succ, List.set_cons_zero, List.set_cons_succ, List.length_cons, List.length_nil, List.append_nil, List.nil_append, List.cons_append, piApp_on, oLen_fz, oLen_lst, oLen_tup, oLt_int, oLe_int, oGt_int, oGe_int, oAdd_int, oSub_int, oIx_fz, oIx_lst, oIx_tup, oMax_int, oMin_int, oInt_bl, oInt_int, oIsi_bl, oNeg_int, oTuple_lst, oTuple_tup, iR1_eq, iR2_eq, iSq_eq, iStrM_eq, srcOf_tup, srcOf_lst, srcOf_fz, if_true, if_false, Bool.false_eq_true, Bool.true_eq_false, reduceIte, Nat.reduceAdd, Nat.reduceLeDiff, Nat.reduceEqDiff, decide_true, decide_false, and_self, and_true, true_and, oMod_int, oMul_r, oMul_l, oLen_str, oAdd_str, oSl_str, oSl_tup, oSl_lst, oSl_fz, rngOk_of, oEq_int, oEq_bl, beq_self_eq_true, Int.toNat_natCast, mFor_eq, mLc_eq, app_get0, app_get1, app_set0, app_set1, tyOk, oTuple_ref, oList_ref, oLen_refM, oIx_refM, oAppM, oExtM, srcOf_refM, ifLt24, ifLe24, B_Table_free_place, e']
/-! ### Table: drop, put -/
theorem dA_there (l : List En) (p : Nat) : dA (thereK l) (.inl (p : Int)) = thereK (l.filter fun e => decide (e.p ≠ p)) := by
  unfold dA thereK
  rw [List.filter_map]
  congr 1
  apply List.filter_congr
  intro e _
  show decide ((Sum.inl (e.p : Int) : KK) ≠ .inl (p : Int)) = _
  rw [decide_eq_decide]
  constructor
  · intro h z; exact h (by rw [z])
  · intro h z; injection z with z; exact h (by omega)
theorem drop_eq {M : Mem} {i u t k : Nat} {T : Tab} (h : TabAt M i u t k T) (p n : Nat) : g_Table_drop [.ref i, .tup [.int p, .int n]] M = match T.leads p n with
    | none => .ok (.bl false) M
    | some _ => .ok (.bl true) (M.set t (.dk false (thereK (T.there.filter fun e => decide (e.p ≠ p))))) := by
  have hl := leads_eq h p n
  have hi := insOf_at h.ins
  cases hx : T.leads p n with
  | none =>
    rw [hx] at hl
    refine runB_rt (N := 2) ?_
    show B_Table_drop [some (.ref i), some (.tup [.int p, .int n])] M = _
    have e0 : oIsN false (optD none) M = .ok (.bl true) M := rfl
    simp -implicitDefEqProofs (disch := first | assumption | omega | (simp only [List.length_cons, List.length_nil, List.length_append, List.length_map, List.length_take, List.length_drop, rngItems_len]; omega)) only [mSeq_eq, mIfS_eq, mSet_eq, mRet_eq, mRetN_eq, mExpr_eq, mPass_eq, mAsg_eq, mPar_eq, mAug_eq, bOf_eq, tOf_eq, tAndM_eq, tOrM_eq, tNotM_eq, tsYes_eq, mOp_eq, mUn_eq, mVar_eq, mC_eq, mCall_eq, mFun_eq, mFunKw_eq, mMeth_eq, mAnd_eq, mOr_eq, mNot_eq, mIf_eq, mChain_eq, mSl_eq, pNone_eq, pSome_eq, aCons_eq, aNil_eq, mTup_eq, mLst_eq, gN_eq, gT_eq, gsNil_eq, gsCons_eq, mkL_t, mkL_f, R.bind_ok, R.bind_no, R.nox_ok, List.getElem?_cons_zero, List.getElem?_cons_succ, List.set_cons_zero, List.set_cons_succ, List.length_cons, List.length_nil, List.append_nil, List.nil_append, List.cons_append, piApp_on, oLen_fz, oLen_lst, oLen_tup, oLt_int, oLe_int, oGt_int, oGe_int, oAdd_int, oSub_int, oIx_fz, oIx_lst, oIx_tup, oMax_int, oMin_int, oInt_bl, oInt_int, oIsi_bl, oNeg_int, oTuple_lst, oTuple_tup, iR1_eq, iR2_eq, iSq_eq, iStrM_eq, srcOf_tup, srcOf_lst, srcOf_fz, if_true, if_false, Bool.false_eq_true, Bool.true_eq_false, reduceIte, Nat.reduceAdd, Nat.reduceLeDiff, Nat.reduceEqDiff, decide_true, decide_false, and_self, and_true, true_and, oMod_int, oMul_r, oMul_l, oLen_str, oAdd_str, oSl_str, oSl_tup, oSl_lst, oSl_fz, rngOk_of, oEq_int, oEq_bl, beq_self_eq_true, Int.toNat_natCast, mFor_eq, mLc_eq, app_get0, app_get1, app_set0, app_set1, tyOk, oTuple_ref, oList_ref, oLen_refM, oIx_refM, oAppM, oExtM, srcOf_refM, ifLt24, ifLe24, B_Table_drop, mMth_eq, hi, lk_leads, hl, e0]
  | some x =>
    rw [hx] at hl
    refine runB_rt (N := 2) ?_
    show B_Table_drop [some (.ref i), some (.tup [.int p, .int n])] M = _
    have e0 : oIsN false (optD (some x)) M = .ok (.bl false) M := rfl
    have g := gA_there T.there p
    obtain ⟨e, he⟩ : ∃ e, T.there.find? (fun e => decide (e.p = p)) = some e := by
      unfold Tab.leads at hx
      cases hf : T.there.find? fun e => decide (e.p = p) with
      | none => rw [hf] at hx; cases hx
      | some e => exact ⟨e, rfl⟩
    rw [he] at g
    have e1 := oPopE_dk h.th g
    rw [dA_there] at e1
    have e2 : oIxA (.tup [.int p, .int n]) (.int 0) M = .ok (.int p) M := rfl
    simp -implicitDefEqProofs (disch := first | assumption | omega | (simp only [List.length_cons, List.length_nil, List.length_append, List.length_map, List.length_take, List.length_drop, rngItems_len]; omega)) only [mSeq_eq, mIfS_eq, mSet_eq, mRet_eq, mRetN_eq, mExpr_eq, mPass_eq, mAsg_eq, mPar_eq, mAug_eq, bOf_eq, tOf_eq, tAndM_eq, tOrM_eq, tNotM_eq, tsYes_eq, mOp_eq, mUn_eq, mVar_eq, mC_eq, mCall_eq, mFun_eq, mFunKw_eq, mMeth_eq, mAnd_eq, mOr_eq, mNot_eq, mIf_eq, mChain_eq, mSl_eq, pNone_eq, pSome_eq, aCons_eq, aNil_eq, mTup_eq, mLst_eq, gN_eq, gT_eq, gsNil_eq, gsCons_eq, mkL_t, mkL_f, R.bind_ok, R.bind_no, R.nox_ok, List.getElem?_cons_zero, List.getElem?_cons_succ, List.set_cons_zero, List.set_cons_succ, List.length_cons, List.length_nil, List.append_nil, List.nil_append, List.cons_append, piApp_on, oLen_fz, oLen_lst, oLen_tup, oLt_int, oLe_int, oGt_int, oGe_int, oAdd_int, oSub_int, oIx_fz, oIx_lst, oIx_tup, oMax_int, oMin_int, oInt_bl, oInt_int, oIsi_bl, oNeg_int, oTuple_lst, oTuple_tup, iR1_eq, iR2_eq, iSq_eq, iStrM_eq, srcOf_tup, srcOf_lst, srcOf_fz, if_true, if_false, Bool.false_eq_true, Bool.true_eq_false, reduceIte, Nat.reduceAdd, Nat.reduceLeDiff, Nat.reduceEqDiff, decide_true, decide_false, and_self, and_true, true_and, oMod_int, oMul_r, oMul_l, oLen_str, oAdd_str, oSl_str, oSl_tup, oSl_lst, oSl_fz, rngOk_of, oEq_int, oEq_bl, beq_self_eq_true, Int.toNat_natCast, mFor_eq, mLc_eq, app_get0, app_get1, app_set0, app_set1, tyOk, oTuple_ref, oList_ref, oLen_refM, oIx_refM, oAppM, oExtM, srcOf_refM, ifLt24, ifLe24, B_Table_drop, mMth_eq, mFld_eq, hi, lk_leads, lk_there, hl, e0, h.th, e2, e1]
theorem pA_new_there (l : List En) (e : En) (h : (l.find? fun e' => decide (e'.p = e.p)) = none) : pA (thereK l) (.inl (e.p : Int)) (.tup [.int e.t, thD e.x]) = thereK (l ++ [e]) := by
  unfold pA
  have : ((thereK l).any fun kv => decide (kv.1 = .inl (e.p : Int))) = false := by
    rw [List.any_eq_false]
    intro kv hkv
    unfold thereK at hkv
    obtain ⟨e', he', rfl⟩ := List.mem_map.mp hkv
    have := List.find?_eq_none.mp h e' he'
    simp only [decide_eq_true_eq] at this ⊢
    intro z
    have z : (Sum.inl (e'.p : Int) : KK) = .inl (e.p : Int) := z
    injection z with z
    exact this (by omega)
  rw [this, if_neg Bool.false_ne_true]
  unfold thereK
  rw [List.map_append]
  rfl
theorem pA_new_known (l : List Th) (x : Th) (h : ¬ x ∈ l) : pA (knownK l) (tkk x) (.bl true) = knownK (l ++ [x]) := by
  unfold pA
  have : ((knownK l).any fun kv => decide (kv.1 = tkk x)) = false := by
    rw [List.any_eq_false]
    intro kv hkv
    unfold knownK at hkv
    obtain ⟨y, hy, rfl⟩ := List.mem_map.mp hkv
    simp only [decide_eq_true_eq]
    intro z
    exact h (by rw [← tkk_inj z]; exact hy)
  rw [this, if_neg Bool.false_ne_true]
  unfold knownK
  rw [List.map_append]
  rfl
/-- a new thing at the place f: the table behind it; how often the place was used ahead -/
def Tab.us (T : Tab) (f : Nat) : List Nat := if f = T.used.length then T.used ++ [0] else T.used
def Tab.putAt (T : Tab) (f : Nat) (x : Th) : Tab := ⟨(T.us f).set f ((T.us f).getD f 0 + 1), T.there ++ [⟨f, (T.us f).getD f 0, x⟩], T.known ++ [x]⟩
theorem put_old {M : Mem} {i u t k : Nat} {T : Tab} (h : TabAt M i u t k T) (x : Th) (hx : x ∈ T.known) : g_Table_put [.ref i, .str x.1, .int x.2] M = .ok .non M := by
  refine runB_rt (N := 6) ?_
  show B_Table_put [some (.ref i), some (.str x.1), some (.int x.2), none, none, none] M = _
  have e0 : oInA false (thD x) (.ref k) M = .ok (.bl true) M := by rw [oInA_dt h.kn (keyT_th x), gA_known, decide_eq_true hx]; rfl
  have e1 : oInA false (.tup [.str x.1, .int x.2]) (.ref k) M = .ok (.bl true) M := e0
  simp -implicitDefEqProofs (disch := first | assumption | omega | (simp only [List.length_cons, List.length_nil, List.length_append, List.length_map, List.length_take, List.length_drop, rngItems_len]; omega)) only [mSeq_eq, mIfS_eq, mSet_eq, mRet_eq, mRetN_eq, mExpr_eq, mPass_eq, mAsg_eq, mPar_eq, mAug_eq, bOf_eq, tOf_eq, tAndM_eq, tOrM_eq, tNotM_eq, tsYes_eq, mOp_eq, mUn_eq, mVar_eq, mC_eq, mCall_eq, mFun_eq, mFunKw_eq, mMeth_eq, mAnd_eq, mOr_eq, mNot_eq, mIf_eq, mChain_eq, mSl_eq, pNone_eq, pSome_eq, aCons_eq, aNil_eq, mTup_eq, mLst_eq, gN_eq, gT_eq, gsNil_eq, gsCons_eq, mkL_t, mkL_f, R.bind_ok, R.bind_no, R.nox_ok, List.getElem?_cons_zero, List.getElem?_cons_succ, List.set_cons_zero, List.set_cons_succ, List.length_cons, List.length_nil, List.append_nil, List.nil_append, List.cons_append, piApp_on, oLen_fz, oLen_lst, oLen_tup, oLt_int, oLe_int, oGt_int, oGe_int, oAdd_int, oSub_int, oIx_fz, oIx_lst, oIx_tup, oMax_int, oMin_int, oInt_bl, oInt_int, oIsi_bl, oNeg_int, oTuple_lst, oTuple_tup, iR1_eq, iR2_eq, iSq_eq, iStrM_eq, srcOf_tup, srcOf_lst, srcOf_fz, if_true, if_false, Bool.false_eq_true, Bool.true_eq_false, reduceIte, Nat.reduceAdd, Nat.reduceLeDiff, Nat.reduceEqDiff, decide_true, decide_false, and_self, and_true, true_and, oMod_int, oMul_r, oMul_l, oLen_str, oAdd_str, oSl_str, oSl_tup, oSl_lst, oSl_fz, rngOk_of, oEq_int, oEq_bl, beq_self_eq_true, Int.toNat_natCast, mFor_eq, mLc_eq, app_get0, app_get1, app_set0, app_set1, tyOk, oTuple_ref, oList_ref, oLen_refM, oIx_refM, oAppM, oExtM, srcOf_refM, ifLt24, ifLe24, B_Table_put, mFld_eq, insOf_at h.ins, lk_known, e1]
theorem put_new {M : Mem} {i u t k : Nat} {T : Tab} (h : TabAt M i u t k T) (x : Th) (hx : ¬ x ∈ T.known) (hl : T.there.length < 1000000) (hu : T.used.length < 1000000) (hk : T.known.length < 1000000) {f : Nat} (h0 : f ≤ T.there.length) (h1 : ∀ q, q < f → T.has q = true) (h2 : T.has f = false) (hf : f ≤ T.used.length) :
    ∃ M', g_Table_put [.ref i, .str x.1, .int x.2] M = .ok (.tup [.int f, .int ((T.us f).getD f 0 : Nat)]) M' ∧ TabAt M' i u t k (T.putAt f x) ∧ M'.length = M.length ∧ ∀ j, j ≠ u → j ≠ t → j ≠ k → M'[j]? = M[j]? := by
  have e0 : oInA false (thD x) (.ref k) M = .ok (.bl false) M := by rw [oInA_dt h.kn (keyT_th x), gA_known, decide_eq_false hx]; rfl
  have e1 : oInA false (.tup [.str x.1, .int x.2]) (.ref k) M = .ok (.bl false) M := e0
  have lk : (knownK T.known).length < 16777216 := by unfold knownK; rw [List.length_map]; omega
  have e20 : sPut M (.ref k) (thD x) (.bl true) = some (M.set k (.dt false (knownK (T.known ++ [x])))) := by rw [sPut_dt h.kn (keyT_th x) lk, pA_new_known _ _ hx]
  have e2 : sPut M (.ref k) (.tup [.str x.1, .int x.2]) (.bl true) = some (M.set k (.dt false (knownK (T.known ++ [x])))) := e20
  have A1 := h.setK (T.known ++ [x])
  obtain ⟨M1, hM1⟩ : ∃ M1, M.set k (.dt false (knownK (T.known ++ [x]))) = M1 := ⟨_, rfl⟩
  rw [hM1] at e2 A1
  have e3 := free_eq A1 hl h0 h1 h2
  have i1 := insOf_at A1.ins
  have lu : (usedD T.used).length = T.used.length := by unfold usedD; rw [List.length_map]
  have e4 : oLenA [.ref u] M1 = .ok (.int T.used.length) M1 := by rw [oLenA_ref A1.us, oLen_ref A1.us, lu]
  -- what is noted of uses
  obtain ⟨M2, hM2⟩ : ∃ M2 : Mem, (if f = T.used.length then M1.set u (.lst (usedD (T.used ++ [0]))) else M1) = M2 := ⟨_, rfl⟩
  have A2 : TabAt M2 i u t k { T with known := T.known ++ [x], used := T.us f } := by
    unfold Tab.us
    by_cases hc : f = T.used.length
    · rw [if_pos hc] at hM2 ⊢; rw [← hM2]; exact A1.setU _
    · rw [if_neg hc] at hM2 ⊢; rw [← hM2]; exact A1
  have i2 := insOf_at A2.ins
  have fu : f < (T.us f).length := by
    unfold Tab.us
    split
    · simp; omega
    · omega
  obtain ⟨n, hn⟩ : ∃ n, (T.us f).getD f 0 = n := ⟨_, rfl⟩
  have at_ : L2.atI (usedD (T.us f)) (f : Int) = some (.int n) := atI_nat (by
    unfold usedD
    rw [List.getElem?_map, List.getElem?_eq_getElem fu, ← hn]
    simp [List.getD, List.getElem?_eq_getElem fu])
  have e5 : oIxA (.ref u) (.int f) M2 = .ok (.int n) M2 := by rw [oIxA_ref A2.us, oIx_refM, A2.us]; simp only [at_]
  have e6 := lGet_lst A2.us at_
  have ixf : ixN (usedD (T.us f)).length (f : Int) = some f := ixN_nat (by unfold usedD; rw [List.length_map]; exact fu)
  have us' : (usedD (T.us f)).set f (.int ((n : Int) + 1)) = usedD ((T.us f).set f (n + 1)) := by
    unfold usedD
    rw [List.map_set]
    rfl
  have e7 : sPut M2 (.ref u) (.int f) (.int ((n : Int) + 1)) = some (M2.set u (.lst (usedD ((T.us f).set f (n + 1))))) := by rw [sPut_lst A2.us ixf, us']
  have A3 := A2.setU ((T.us f).set f (n + 1))
  obtain ⟨M3, hM3⟩ : ∃ M3, M2.set u (.lst (usedD ((T.us f).set f (n + 1)))) = M3 := ⟨_, rfl⟩
  rw [hM3] at e7 A3
  have i3 := insOf_at A3.ins
  have lt : (thereK T.there).length < 16777216 := by unfold thereK; rw [List.length_map]; omega
  have hnone : (T.there.find? fun e' => decide (e'.p = f)) = none := by
    unfold Tab.has at h2
    cases hq : T.there.find? fun e' => decide (e'.p = f) with
    | none => rfl
    | some e => rw [hq] at h2; cases h2
  have e8 : sPut M3 (.ref t) (.int f) (.tup [.int n, .tup [.str x.1, .int x.2]]) = some (M3.set t (.dk false (thereK (T.there ++ [⟨f, n, x⟩])))) := by
    rw [sPut_dk A3.th lt]
    have := pA_new_there T.there ⟨f, n, x⟩ hnone
    exact congrArg (fun l => some (M3.set t (.dk false l))) this
  have A4 := A3.setT (T.there ++ [⟨f, n, x⟩])
  have oi : ∀ (a b : Int) (M : Mem), oI (fun i j => .int (i + j)) (.int a) (.int b) M = .ok (.int (a + b)) M := fun _ _ _ => rfl
  refine ⟨_, runB_rt (N := 6) ?_, by unfold Tab.putAt; rw [hn]; exact A4, ?_, fun j j1 j2 j3 => ?_⟩
  · show B_Table_put [some (.ref i), some (.str x.1), some (.int x.2), none, none, none] M = _
    rw [hn]
    by_cases hc : f = T.used.length
    · have b : ((f : Int) == (T.used.length : Int)) = true := by rw [beq_iff_eq]; omega
      rw [if_pos hc] at hM2
      have ap : (usedD T.used) ++ [.int 0] = usedD (T.used ++ [0]) := by unfold usedD; rw [List.map_append]; rfl
      have lu' : (usedD T.used).length < 16777216 := by omega
      have hap : oAppend (.ref u) [.int 0] M1 = .ok .non M2 := by rw [oAppend_at A1.us lu', ap, hM2]
      simp -implicitDefEqProofs (disch := first | assumption | omega | (simp only [List.length_cons, List.length_nil, List.length_append, List.length_map, List.length_take, List.length_drop, rngItems_len]; omega)) only [mSeq_eq, mIfS_eq, mSet_eq, mRet_eq, mRetN_eq, mExpr_eq, mPass_eq, mAsg_eq, mPar_eq, mAug_eq, bOf_eq, tOf_eq, tAndM_eq, tOrM_eq, tNotM_eq, tsYes_eq, mOp_eq, mUn_eq, mVar_eq, mC_eq, mCall_eq, mFun_eq, mFunKw_eq, mMeth_eq, mAnd_eq, mOr_eq, mNot_eq, mIf_eq, mChain_eq, mSl_eq, pNone_eq, pSome_eq, aCons_eq, aNil_eq, mTup_eq, mLst_eq, gN_eq, gT_eq, gsNil_eq, gsCons_eq, mkL_t, mkL_f, R.bind_ok, R.bind_no, R.nox_ok, List.getElem?_cons_zero, List.getElem?_cons_succ, List.set_cons_zero, List.set_cons_succ, List.length_cons, List.length_nil, List.append_nil, List.nil_append, List.cons_append, piApp_on, oLen_fz, oLen_lst, oLen_tup, oLt_int, oLe_int, oGt_int, oGe_int, oAdd_int, oSub_int, oIx_fz, oIx_lst, oIx_tup, oMax_int, oMin_int, oInt_bl, oInt_int, oIsi_bl, oNeg_int, oTuple_lst, oTuple_tup, iR1_eq, iR2_eq, iSq_eq, iStrM_eq, srcOf_tup, srcOf_lst, srcOf_fz, if_true, if_false, Bool.false_eq_true, Bool.true_eq_false, reduceIte, Nat.reduceAdd, Nat.reduceLeDiff, Nat.reduceEqDiff, decide_true, decide_false, and_self, and_true, true_and, oMod_int, oMul_r, oMul_l, oLen_str, oAdd_str, oSl_str, oSl_tup, oSl_lst, oSl_fz, rngOk_of, oEq_int, oEq_bl, beq_self_eq_true, Int.toNat_natCast, mFor_eq, mLc_eq, app_get0, app_get1, app_set0, app_set1, tyOk, oTuple_ref, oList_ref, oLen_refM, oIx_refM, oAppM, oExtM, srcOf_refM, ifLt24, ifLe24, B_Table_put, mFld_eq, insOf_at h.ins, lk_known, e1, gIxA_eq, e2, mMth_eq, i1, lk_free, e3, lk_used, e4, b, A1.us, hap, i2, e5, mAugIx_eq, e6, oi, e7, i3, lk_there, e8]
    · have b : ((f : Int) == (T.used.length : Int)) = false := by rw [beq_eq_false_iff_ne]; omega
      rw [if_neg hc] at hM2
      subst hM2
      simp -implicitDefEqProofs (disch := first | assumption | omega | (simp only [List.length_cons, List.length_nil, List.length_append, List.length_map, List.length_take, List.length_drop, rngItems_len]; omega)) only [mSeq_eq, mIfS_eq, mSet_eq, mRet_eq, mRetN_eq, mExpr_eq, mPass_eq, mAsg_eq, mPar_eq, mAug_eq, bOf_eq, tOf_eq, tAndM_eq, tOrM_eq, tNotM_eq, tsYes_eq, mOp_eq, mUn_eq, mVar_eq, mC_eq, mCall_eq, mFun_eq, mFunKw_eq, mMeth_eq, mAnd_eq, mOr_eq, mNot_eq, mIf_eq, mChain_eq, mSl_eq, pNone_eq, pSome_eq, aCons_eq, aNil_eq, mTup_eq, mLst_eq, gN_eq, gT_eq, gsNil_eq, gsCons_eq, mkL_t, mkL_f, R.bind_ok, R.bind_no, R.nox_ok, List.getElem?_cons_zero, List.getElem?_cons_succ, List.set_cons_zero, List.set_cons_succ, List.length_cons, List.length_nil, List.append_nil, List.nil_append, List.cons_append, piApp_on, oLen_fz, oLen_lst, oLen_tup, oLt_int, oLe_int, oGt_int, oGe_int, oAdd_int, oSub_int, oIx_fz, oIx_lst, oIx_tup, oMax_int, oMin_int, oInt_bl, oInt_int, oIsi_bl, oNeg_int, oTuple_lst, oTuple_tup, iR1_eq, iR2_eq, iSq_eq, iStrM_eq, srcOf_tup, srcOf_lst, srcOf_fz, if_true, if_false, Bool.false_eq_true, Bool.true_eq_false, reduceIte, Nat.reduceAdd, Nat.reduceLeDiff, Nat.reduceEqDiff, decide_true, decide_false, and_self, and_true, true_and, oMod_int, oMul_r, oMul_l, oLen_str, oAdd_str, oSl_str, oSl_tup, oSl_lst, oSl_fz, rngOk_of, oEq_int, oEq_bl, beq_self_eq_true, Int.toNat_natCast, mFor_eq, mLc_eq, app_get0, app_get1, app_set0, app_set1, tyOk, oTuple_ref, oList_ref, oLen_refM, oIx_refM, oAppM, oExtM, srcOf_refM, ifLt24, ifLe24, B_Table_put, mFld_eq, insOf_at h.ins, lk_known, e1, gIxA_eq, e2, mMth_eq, i1, lk_free, e3, lk_used, e4, b, i2, e5, mAugIx_eq, e6, oi, e7, i3, lk_there, e8]
  · rw [← hM3, ← hM2, ← hM1]
    split <;> simp
  · rw [← hM3, ← hM2, ← hM1]
    split <;> simp [List.getElem?_set_ne, Ne.symm j1, Ne.symm j2, Ne.symm j3]
/-! ### Table: handles -/
def hD (e : En) : D := .tup [.int e.p, .int e.t]
def pairsOk (l : List D) : Prop := ∀ d ∈ l, ∃ a b : Int, d = .tup [.int a, .int b]
theorem sortOk_pairs {l : List D} (h : pairsOk l) : sortOk l := by
  refine ⟨fun d hd => ?_, fun d hd d' hd' => ?_, .inl fun d hd => ?_⟩
  · obtain ⟨a, b, rfl⟩ := h d hd
    refine ⟨rfl, ?_⟩
    show (PyData.tuple [.int a, .int b]).depth ≤ 60
    simp [PyData.depth, PyData.depthAll]
  · obtain ⟨a, b, rfl⟩ := h d hd
    obtain ⟨a', b', rfl⟩ := h d' hd'
    rfl
  · obtain ⟨a, b, rfl⟩ := h d hd
    rfl
theorem sorted_pairs {l : List D} {M : Mem} (h : pairsOk l) : oSorted true [.lst l] M = .ok (.ref M.length) (M ++ [.lst (sortD l)]) := by
  simp only [oSorted, lstOf, if_pos (sortOk_pairs h), mkL_t]
theorem set_back {M : Mem} {t : Nat} {c d : Cell} (h : M[t]? = some c) : (M.set t d).set t c = M := by
  rw [List.set_set]
  obtain ⟨h1, h2⟩ := List.getElem?_eq_some_iff.mp h
  rw [← h2, List.set_getElem_self]
theorem handles_eq {M : Mem} {i u t k : Nat} {T : Tab} (h : TabAt M i u t k T) (hl : T.there.length < 1000000) : g_Table_handles [.ref i] M = .ok (.ref M.length) (M ++ [.lst (sortD (T.there.map hD))]) := by
  refine runB_rt (N := 4) ?_
  show B_Table_handles [some (.ref i), none, none, none] M = _
  have hi := insOf_at h.ins
  have ht : t < M.length := h.lt.2.2.1
  have hit := h.it
  have fd : (mFld 0 "there" (mVar 0)) [some (.ref i), none, none, none] M = .ok (.ref t) M := by simp -implicitDefEqProofs only [mSeq_eq, mIfS_eq, mSet_eq, mRet_eq, mRetN_eq, mExpr_eq, mPass_eq, mAsg_eq, mPar_eq, mAug_eq, bOf_eq, tOf_eq, tAndM_eq, tOrM_eq, tNotM_eq, tsYes_eq, mOp_eq, mUn_eq, mVar_eq, mC_eq, mCall_eq, mFun_eq, mFunKw_eq, mMeth_eq, mAnd_eq, mOr_eq, mNot_eq, mIf_eq, mChain_eq, mSl_eq, pNone_eq, pSome_eq, aCons_eq, aNil_eq, mTup_eq, mLst_eq, gN_eq, gT_eq, gsNil_eq, gsCons_eq, mkL_t, mkL_f, R.bind_ok, R.bind_no, R.nox_ok, List.getElem?_cons_zero, List.getElem?_cons_succ, List.set_cons_zero, List.set_cons_succ, List.length_cons, List.length_nil, List.append_nil, List.nil_append, List.cons_append, piApp_on, oLen_fz, oLen_lst, oLen_tup, oLt_int, oLe_int, oGt_int, oGe_int, oAdd_int, oSub_int, oIx_fz, oIx_lst, oIx_tup, oMax_int, oMin_int, oInt_bl, oInt_int, oIsi_bl, oNeg_int, oTuple_lst, oTuple_tup, iR1_eq, iR2_eq, iSq_eq, iStrM_eq, srcOf_tup, srcOf_lst, srcOf_fz, if_true, if_false, Bool.false_eq_true, Bool.true_eq_false, reduceIte, Nat.reduceAdd, Nat.reduceLeDiff, Nat.reduceEqDiff, decide_true, decide_false, and_self, and_true, true_and, mFld_eq, hi, lk_there]
  obtain ⟨M', hM'⟩ : ∃ M', M.set t (.dk true (thereK T.there)) = M' := ⟨_, rfl⟩
  have hi' : insOf 0 M' (.ref i) = some (i, tabF u t k) := insOf_at (by rw [← hM', List.getElem?_set_ne (Ne.symm hit)]; exact h.ins)
  have hlk : M'[t]? = some (.dk true (thereK T.there)) := by rw [← hM']; exact List.getElem?_set_self ht
  have c := compL_m (P := fun _ => True) (M := M') trivial (g := gT 2 (gsCons (gN 1) (gsCons (gT 2 (gsCons (gN 2) (gsCons (gN 3) gsNil))) gsNil))) (f := C_Table_handles_0) (env := wipeE [some (.ref i), none, none, none] [1, 2, 3]) (fun e : En => .tup [keyD (En.kv e).1, (En.kv e).2]) hD T.there fun e _ =>
    ⟨[some (.ref i), some (.int e.p), some (.int e.t), some (thD e.x)], rfl, rfl⟩
  have hs : ((thereK T.there).map fun kv => D.tup [keyD kv.1, kv.2]) = T.there.map fun e : En => .tup [keyD (En.kv e).1, (En.kv e).2] := by unfold thereK; rw [List.map_map]; rfl
  have fi : iItemsA (mFld 0 "there" (mVar 0)) [some (.ref i), none, none, none] M' = .ok ⟨T.there.map fun e : En => .tup [keyD (En.kv e).1, (En.kv e).2], fun _ => True⟩ M' := by
    have fd' : (mFld 0 "there" (mVar 0)) [some (.ref i), none, none, none] M' = .ok (.ref t) M' := by simp -implicitDefEqProofs only [mSeq_eq, mIfS_eq, mSet_eq, mRet_eq, mRetN_eq, mExpr_eq, mPass_eq, mAsg_eq, mPar_eq, mAug_eq, bOf_eq, tOf_eq, tAndM_eq, tOrM_eq, tNotM_eq, tsYes_eq, mOp_eq, mUn_eq, mVar_eq, mC_eq, mCall_eq, mFun_eq, mFunKw_eq, mMeth_eq, mAnd_eq, mOr_eq, mNot_eq, mIf_eq, mChain_eq, mSl_eq, pNone_eq, pSome_eq, aCons_eq, aNil_eq, mTup_eq, mLst_eq, gN_eq, gT_eq, gsNil_eq, gsCons_eq, mkL_t, mkL_f, R.bind_ok, R.bind_no, R.nox_ok, List.getElem?_cons_zero, List.getElem?_cons_succ, List.set_cons_zero, List.set_cons_succ, List.length_cons, List.length_nil, List.append_nil, List.nil_append, List.cons_append, piApp_on, oLen_fz, oLen_lst, oLen_tup, oLt_int, oLe_int, oGt_int, oGe_int, oAdd_int, oSub_int, oIx_fz, oIx_lst, oIx_tup, oMax_int, oMin_int, oInt_bl, oInt_int, oIsi_bl, oNeg_int, oTuple_lst, oTuple_tup, iR1_eq, iR2_eq, iSq_eq, iStrM_eq, srcOf_tup, srcOf_lst, srcOf_fz, if_true, if_false, Bool.false_eq_true, Bool.true_eq_false, reduceIte, Nat.reduceAdd, Nat.reduceLeDiff, Nat.reduceEqDiff, decide_true, decide_false, and_self, and_true, true_and, mFld_eq, hi', lk_there]
    simp only [iItemsA, fd', R.bind_ok, hlk, hs]
  have hlen : (T.there.map fun e : En => D.tup [keyD (En.kv e).1, (En.kv e).2]).length < 16777216 := by rw [List.length_map]; omega
  have e1 : (mLc false [1, 2, 3] (iItemsA (mFld 0 "there" (mVar 0))) (gT 2 (gsCons (gN 1) (gsCons (gT 2 (gsCons (gN 2) (gsCons (gN 3) gsNil))) gsNil))) tsYes C_Table_handles_0) [some (.ref i), none, none, none] M' = .ok (.lst (T.there.map hD)) M' := by
    simp only [mLc_eq, fi, R.bind_ok, hlen, if_true, c, R.nox_ok, mkL_f]
  have e2 := lock_dk (f := mLc false [1, 2, 3] (iItemsA (mFld 0 "there" (mVar 0))) (gT 2 (gsCons (gN 1) (gsCons (gT 2 (gsCons (gN 2) (gsCons (gN 3) gsNil))) gsNil))) tsYes C_Table_handles_0) fd h.th (by rw [hM']; exact e1) hlk
  rw [← hM', set_back h.th] at e2
  have e3 : mLockE (mFld 0 "there" (mVar 0)) (mLc false [1, 2, 3] (iItemsA (mFld 0 "there" (mVar 0))) (gT 2 (gsCons (gN 1) (gsCons (gT 2 (gsCons (gN 2) (gsCons (gN 3) gsNil))) gsNil))) tsYes C_Table_handles_0) [some (.ref i), none, none, none] M = .ok (.lst (T.there.map hD)) M := e2
  have e4 : oSorted true [.lst (T.there.map hD)] M = .ok (.ref M.length) (M ++ [.lst (sortD (T.there.map hD))]) := sorted_pairs fun d hd => by obtain ⟨e, _, rfl⟩ := List.mem_map.mp hd; exact ⟨_, _, rfl⟩
  simp -implicitDefEqProofs (disch := first | assumption | omega | (simp only [List.length_cons, List.length_nil, List.length_append, List.length_map, List.length_take, List.length_drop, rngItems_len]; omega)) only [mSeq_eq, mIfS_eq, mSet_eq, mRet_eq, mRetN_eq, mExpr_eq, mPass_eq, mAsg_eq, mPar_eq, mAug_eq, bOf_eq, tOf_eq, tAndM_eq, tOrM_eq, tNotM_eq, tsYes_eq, mOp_eq, mUn_eq, mVar_eq, mC_eq, mCall_eq, mFun_eq, mFunKw_eq, mMeth_eq, mAnd_eq, mOr_eq, mNot_eq, mIf_eq, mChain_eq, mSl_eq, pNone_eq, pSome_eq, aCons_eq, aNil_eq, mTup_eq, mLst_eq, gN_eq, gT_eq, gsNil_eq, gsCons_eq, mkL_t, mkL_f, R.bind_ok, R.bind_no, R.nox_ok, List.getElem?_cons_zero, List.getElem?_cons_succ, List.set_cons_zero, List.set_cons_succ, List.length_cons, List.length_nil, List.append_nil, List.nil_append, List.cons_append, piApp_on, oLen_fz, oLen_lst, oLen_tup, oLt_int, oLe_int, oGt_int, oGe_int, oAdd_int, oSub_int, oIx_fz, oIx_lst, oIx_tup, oMax_int, oMin_int, oInt_bl, oInt_int, oIsi_bl, oNeg_int, oTuple_lst, oTuple_tup, iR1_eq, iR2_eq, iSq_eq, iStrM_eq, srcOf_tup, srcOf_lst, srcOf_fz, if_true, if_false, Bool.false_eq_true, Bool.true_eq_false, reduceIte, Nat.reduceAdd, Nat.reduceLeDiff, Nat.reduceEqDiff, decide_true, decide_false, and_self, and_true, true_and, oMod_int, oMul_r, oMul_l, oLen_str, oAdd_str, oSl_str, oSl_tup, oSl_lst, oSl_fz, rngOk_of, oEq_int, oEq_bl, beq_self_eq_true, Int.toNat_natCast, mFor_eq, mLc_eq, app_get0, app_get1, app_set0, app_set1, tyOk, oTuple_ref, oList_ref, oLen_refM, oIx_refM, oAppM, oExtM, srcOf_refM, ifLt24, ifLe24, B_Table_handles, e3, e4]
theorem init_eq (M : Mem) : g_Table___init__ [.ref M.length] (M ++ [.ins 0 []]) = .ok .non (M ++ [.ins 0 (tabF (M.length + 1) (M.length + 2) (M.length + 3)), .lst [], .dk false [], .dt false []]) := by
  have hg : ∀ {c : Cell} {B : Mem}, (M ++ c :: B)[M.length]? = some c := fun {c B} => app_get0 rfl
  have hs : ∀ {c d : Cell} {B : Mem}, (M ++ c :: B).set M.length d = M ++ d :: B := fun {c d B} => app_set0 rfl
  have n1 : ¬ (("used" : Str) = "there") := by decide +kernel
  have n2 : ¬ (("used" : Str) = "known") := by decide +kernel
  have n3 : ¬ (("there" : Str) = "known") := by decide +kernel
  have k0 : (0 < 1000) = True := by simp
  have k1 : (1 < 1000) = True := by simp
  have k2 : (2 < 1000) = True := by simp
  have e1 : putD "used" (.ref (M.length + 1)) [] = ([("used", .ref (M.length + 1))] : List (Str × D)) := rfl
  have e2 : putD "there" (.ref (M.length + 2)) ([("used", .ref (M.length + 1))] : List (Str × D)) = ([("used", .ref (M.length + 1)), ("there", .ref (M.length + 2))] : List (Str × D)) := by simp only [putD, n1, if_false]
  have e3 : putD "known" (.ref (M.length + 3)) ([("used", .ref (M.length + 1)), ("there", .ref (M.length + 2))] : List (Str × D)) = tabF (M.length + 1) (M.length + 2) (M.length + 3) := by simp only [putD, tabF, n2, n3, if_false]
  refine runB_nx (N := 1) (env := [some (.ref M.length)]) ?_
  show B_Table___init__ [some (.ref M.length)] (M ++ [.ins 0 []]) = _
  simp -implicitDefEqProofs only [mSeq_eq, mIfS_eq, mSet_eq, mRet_eq, mRetN_eq, mExpr_eq, mPass_eq, mAsg_eq, mPar_eq, mAug_eq, bOf_eq, tOf_eq, tAndM_eq, tOrM_eq, tNotM_eq, tsYes_eq, mOp_eq, mUn_eq, mVar_eq, mC_eq, mCall_eq, mFun_eq, mFunKw_eq, mMeth_eq, mAnd_eq, mOr_eq, mNot_eq, mIf_eq, mChain_eq, mSl_eq, pNone_eq, pSome_eq, aCons_eq, aNil_eq, mTup_eq, mLst_eq, gN_eq, gT_eq, gsNil_eq, gsCons_eq, mkL_t, mkL_f, R.bind_ok, R.bind_no, R.nox_ok, List.getElem?_cons_zero, List.getElem?_cons_succ, List.set_cons_zero, List.set_cons_succ, List.length_cons, List.length_nil, List.append_nil, List.nil_append, List.cons_append, piApp_on, oLen_fz, oLen_lst, oLen_tup, oLt_int, oLe_int, oGt_int, oGe_int, oAdd_int, oSub_int, oIx_fz, oIx_lst, oIx_tup, oMax_int, oMin_int, oInt_bl, oInt_int, oIsi_bl, oNeg_int, oTuple_lst, oTuple_tup, iR1_eq, iR2_eq, iSq_eq, iStrM_eq, srcOf_tup, srcOf_lst, srcOf_fz, if_true, if_false, Bool.false_eq_true, Bool.true_eq_false, reduceIte, Nat.reduceAdd, Nat.reduceLeDiff, Nat.reduceEqDiff, decide_true, decide_false, and_self, and_true, true_and, B_Table___init__, mFldSet_eq, insOf_at hg, hs, e1, e2, e3, mDNewK_eq, mDNewT_eq, List.length_append, List.append_assoc, k0, k1, k2]
/-! ### pairs of ints, sorted -/
def le2 (x y : Int × Int) : Bool := decide (x.1 < y.1 ∨ (x.1 = y.1 ∧ x.2 ≤ y.2))
def prD2 (x : Int × Int) : D := .tup [.int x.1, .int x.2]
theorem le2_trans (a b c : Int × Int) (h1 : le2 a b = true) (h2 : le2 b c = true) : le2 a c = true := by
  simp only [le2, decide_eq_true_eq] at *; omega
theorem le2_total (a b : Int × Int) : (le2 a b || le2 b a) = true := by
  simp only [le2, Bool.or_eq_true, decide_eq_true_eq]; omega
theorem le2_anti {a b : Int × Int} (h1 : le2 a b = true) (h2 : le2 b a = true) : a = b := by
  simp only [le2, decide_eq_true_eq] at *
  exact Prod.ext (by omega) (by omega)
theorem sort_perm {l m : List (Int × Int)} (h : l.Perm m) : l.mergeSort le2 = m.mergeSort le2 := by
  have p : (l.mergeSort le2).Perm (m.mergeSort le2) := (List.mergeSort_perm l le2).trans (h.trans (List.mergeSort_perm m le2).symm)
  exact p.eq_of_pairwise (le := fun a b => le2 a b = true) (fun a b _ _ h1 h2 => le2_anti h1 h2) (List.pairwise_mergeSort le2_trans le2_total l) (List.pairwise_mergeSort le2_trans le2_total m)
theorem leD_pairs (a b : Int × Int) : leD (prD2 a) (prD2 b) = le2 a b := by
  have h := congrFun (congrFun (PySem.W.dataLe_ii (β := Int × Int) (fun x => x.1) (fun x => x.2)) a) b
  show PySem.W.dataLe false (fun x : Int × Int => .tuple [.int x.1, .int x.2]) a b = _
  rw [h]
  rfl
theorem sortD_pairs (l : List (Int × Int)) : sortD (l.map prD2) = (l.mergeSort le2).map prD2 := by
  unfold sortD
  symm
  apply List.map_mergeSort
  intro a _ b _
  exact (leD_pairs a b).symm
theorem sortD_perm {l m : List (Int × Int)} (h : l.Perm m) : sortD (l.map prD2) = sortD (m.map prD2) := by
  rw [sortD_pairs, sortD_pairs, sort_perm h]
/-! ### alike: a thing and itself -/
mutual
def axD : D → Bool
  | .non | .bl _ | .int _ | .str _ => true
  | .tup l => axL l
  | _ => false
def axL : List D → Bool
  | [] => true
  | d :: r => axD d && axL r
end
mutual
def szD : D → Nat
  | .tup l => 1 + szL l
  | _ => 1
def szL : List D → Nat
  | [] => 0
  | d :: r => szD d + szL r
end
theorem szD_pos (d : D) : 1 ≤ szD d := by cases d <;> simp [szD]
theorem axL_mem {l : List D} (h : axL l = true) : ∀ d ∈ l, axD d = true := by
  induction l with
  | nil => intro d hd; cases hd
  | cons a r ih =>
    simp only [axL, Bool.and_eq_true] at h
    intro d hd
    rcases List.mem_cons.mp hd with rfl | hd
    · exact h.1
    · exact ih h.2 d hd
theorem szL_append (l m : List D) : szL (l ++ m) = szL l + szL m := by
  induction l with
  | nil => simp [szL]
  | cons a r ih => simp only [List.cons_append, szL, ih]; omega
theorem szL_len (l : List D) : l.length ≤ szL l := by
  induction l with
  | nil => simp [szL]
  | cons a r ih => have := szD_pos a; simp only [List.length_cons, szL]; omega
def dd (d : D) : D := .tup [d, d]
theorem zip_self (l : List D) : zipD l l = l.map dd := by
  induction l with
  | nil => rfl
  | cons a r ih => simp only [zipD, List.zipWith_cons_cons, List.map_cons, dd] at ih ⊢; rw [ih]
def isTup : D → Bool
  | .tup _ => true
  | _ => false
theorem isi_tup {d : D} (h : axD d = true) (M : Mem) : oIsi "tuple" d M = .ok (.bl (isTup d)) M := by
  cases d <;> first | rfl | (cases h; done)
theorem isi_bool {d : D} (h : axD d = true) : ∃ b, ∀ M, oIsi "bool" d M = .ok (.bl b) M := by
  cases d <;> first | exact ⟨_, fun M => rfl⟩ | (cases h; done)
theorem isi_str {d : D} (h : axD d = true) : ∃ b, ∀ M, oIsi "str" d M = .ok (.bl b) M := by
  cases d <;> first | exact ⟨_, fun M => rfl⟩ | (cases h; done)
theorem ne_self {d : D} (h : axD d = true) (ht : isTup d = false) (M : Mem) : oEq true d d M = .ok (.bl false) M := by
  cases d with
  | non => exact oEq_exT rfl (by simp [dpD])
  | bl b => rw [oEq_bl]; simp
  | int i => rw [oEq_int]; simp
  | str x => exact oEq_exT rfl (by simp [dpD])
  | tup l => cases ht
  | _ => cases h
theorem bl_ne (b : Bool) (M : Mem) : oEq true (.bl b) (.bl b) M = .ok (.bl false) M := by rw [oEq_bl]; simp
theorem int_ne (b : Int) (M : Mem) : oEq true (.int b) (.int b) M = .ok (.bl false) M := by rw [oEq_int]; simp
theorem alike_turn {A : Mem} {N : Nat} (hN : A.length = N) (stk : List D) (d : D) (hd : axD d = true) (hl : szL (stk ++ [d]) ≤ 1000000) (x0 x1 x3 x4 : Option D) :
    ∃ stk' y3 y4, szL stk' + 1 = szL (stk ++ [d]) ∧ (axL stk = true → ∀ e ∈ stk', axD e = true) ∧ L_law_alike_1 [x0, x1, some (.ref N), x3, x4] (A ++ [.lst ((stk ++ [d]).map dd)]) = .ok (.nx [x0, x1, some (.ref N), y3, y4]) (A ++ [.lst (stk'.map dd)]) := by
  have g : ∀ X, (A ++ [Cell.lst X])[N]? = some (.lst X) := fun X => app_get0 hN
  have s : ∀ X Y, (A ++ [Cell.lst X]).set N (.lst Y) = A ++ [.lst Y] := fun X Y => app_set0 hN
  have po : oPop (.ref N) [] (A ++ [.lst ((stk ++ [d]).map dd)]) = .ok (dd d) (A ++ [.lst (stk.map dd)]) := by
    simp only [oPop, g]
    have e1 : ((stk ++ [d]).map dd)[((stk ++ [d]).map dd).length - 1]? = some (dd d) := by simp
    rw [e1]
    simp only [s, List.map_append, List.map_cons, List.map_nil, List.dropLast_concat]
  have e2 : dd d = .tup [d, d] := rfl
  have it := isi_tup hd
  obtain ⟨b, ib⟩ := isi_bool hd
  obtain ⟨c, ic⟩ := isi_str hd
  rw [e2] at po
  cases ht : isTup d with
  | true =>
    obtain ⟨l, rfl⟩ : ∃ l, d = .tup l := by cases d <;> first | exact ⟨_, rfl⟩ | cases ht
    have hs : szL (stk ++ [.tup l]) = szL stk + (1 + szL l) := by rw [szL_append]; simp [szL, szD]
    have l1 := szL_len l
    have l2 := szL_len stk
    have zp : ∀ M, oListZip [.tup l, .tup l] M = .ok (.lst (l.map dd)) M := fun M => by
      simp only [oListZip]
      rw [if_pos (by omega), zip_self]
    have ex := oExtend_at (i := N) (M := A ++ [.lst (stk.map dd)]) (l := stk.map dd) (l' := l.map dd) (d := .lst (l.map dd)) (g _) rfl (by rw [List.length_map, List.length_map]; omega)
    rw [s] at ex
    refine ⟨stk ++ l, some (.tup l), some (.tup l), by rw [szL_append, hs]; omega, fun h e he => ?_, ?_⟩
    · rcases List.mem_append.mp he with z | z
      · exact axL_mem h e z
      · exact axL_mem (show axL l = true from hd) e z
    · rw [ht] at it
      unfold L_law_alike_1
      simp -implicitDefEqProofs only [mSeq_eq, mIfS_eq, mSet_eq, mRet_eq, mRetN_eq, mExpr_eq, mPass_eq, mAsg_eq, mPar_eq, mAug_eq, bOf_eq, tOf_eq, tAndM_eq, tOrM_eq, tNotM_eq, tsYes_eq, mOp_eq, mUn_eq, mVar_eq, mC_eq, mCall_eq, mFun_eq, mFunKw_eq, mMeth_eq, mAnd_eq, mOr_eq, mNot_eq, mIf_eq, mChain_eq, mSl_eq, pNone_eq, pSome_eq, aCons_eq, aNil_eq, mTup_eq, mLst_eq, gN_eq, gT_eq, gsNil_eq, gsCons_eq, mkL_t, mkL_f, R.bind_ok, R.bind_no, R.nox_ok, List.getElem?_cons_zero, List.getElem?_cons_succ, List.set_cons_zero, List.set_cons_succ, List.length_cons, List.length_nil, List.append_nil, List.nil_append, List.cons_append, piApp_on, oLen_fz, oLen_lst, oLen_tup, oLt_int, oLe_int, oGt_int, oGe_int, oAdd_int, oSub_int, oIx_fz, oIx_lst, oIx_tup, oMax_int, oMin_int, oInt_bl, oInt_int, oIsi_bl, oNeg_int, oTuple_lst, oTuple_tup, iR1_eq, iR2_eq, iSq_eq, iStrM_eq, srcOf_tup, srcOf_lst, srcOf_fz, if_true, if_false, Bool.false_eq_true, Bool.true_eq_false, reduceIte, Nat.reduceAdd, Nat.reduceLeDiff, Nat.reduceEqDiff, decide_true, decide_false, and_self, and_true, true_and, po, tyOk_at (g _), it, ib, bl_ne, int_ne, zp, ex]
      rw [List.map_append]
  | false =>
    have ns := ne_self hd ht
    rw [ht] at it
    refine ⟨stk, some d, some d, by rw [szL_append]; have : szD d = 1 := (by cases d <;> first | rfl | cases ht); simp [szL, this], fun h e he => axL_mem h e he, ?_⟩
    unfold L_law_alike_1
    simp -implicitDefEqProofs only [mSeq_eq, mIfS_eq, mSet_eq, mRet_eq, mRetN_eq, mExpr_eq, mPass_eq, mAsg_eq, mPar_eq, mAug_eq, bOf_eq, tOf_eq, tAndM_eq, tOrM_eq, tNotM_eq, tsYes_eq, mOp_eq, mUn_eq, mVar_eq, mC_eq, mCall_eq, mFun_eq, mFunKw_eq, mMeth_eq, mAnd_eq, mOr_eq, mNot_eq, mIf_eq, mChain_eq, mSl_eq, pNone_eq, pSome_eq, aCons_eq, aNil_eq, mTup_eq, mLst_eq, gN_eq, gT_eq, gsNil_eq, gsCons_eq, mkL_t, mkL_f, R.bind_ok, R.bind_no, R.nox_ok, List.getElem?_cons_zero, List.getElem?_cons_succ, List.set_cons_zero, List.set_cons_succ, List.length_cons, List.length_nil, List.append_nil, List.nil_append, List.cons_append, piApp_on, oLen_fz, oLen_lst, oLen_tup, oLt_int, oLe_int, oGt_int, oGe_int, oAdd_int, oSub_int, oIx_fz, oIx_lst, oIx_tup, oMax_int, oMin_int, oInt_bl, oInt_int, oIsi_bl, oNeg_int, oTuple_lst, oTuple_tup, iR1_eq, iR2_eq, iSq_eq, iStrM_eq, srcOf_tup, srcOf_lst, srcOf_fz, if_true, if_false, Bool.false_eq_true, Bool.true_eq_false, reduceIte, Nat.reduceAdd, Nat.reduceLeDiff, Nat.reduceEqDiff, decide_true, decide_false, and_self, and_true, true_and, po, tyOk_at (g _), it, ib, ic, bl_ne, ns]
theorem axL_of {l : List D} (h : ∀ d ∈ l, axD d = true) : axL l = true := by
  induction l with
  | nil => rfl
  | cons a r ih => simp only [axL, h a (List.mem_cons_self ..), ih fun d hd => h d (List.mem_cons_of_mem _ hd), Bool.and_self]
theorem alike_loop {A : Mem} {N : Nat} (hN : A.length = N) (x0 x1 : Option D) : ∀ (fuel : Nat) (stk : List D) (x3 x4 : Option D), (∀ e ∈ stk, axD e = true) → szL stk ≤ fuel → szL stk ≤ 1000000 →
    ∃ y3 y4, whileM T_law_alike_0 L_law_alike_1 (fuel + 1) [x0, x1, some (.ref N), x3, x4] (A ++ [.lst (stk.map dd)]) = .ok (.nx [x0, x1, some (.ref N), y3, y4]) (A ++ [.lst []])
  | fuel, stk, x3, x4, h, hf, hs => by
    have g : ∀ X, (A ++ [Cell.lst X])[N]? = some (.lst X) := fun X => app_get0 hN
    have ht : T_law_alike_0 [x0, x1, some (.ref N), x3, x4] (A ++ [.lst (stk.map dd)]) = .ok (decide (0 < ((stk.map dd).length : Int))) (A ++ [.lst (stk.map dd)]) := by
      unfold T_law_alike_0
      simp -implicitDefEqProofs only [mSeq_eq, mIfS_eq, mSet_eq, mRet_eq, mRetN_eq, mExpr_eq, mPass_eq, mAsg_eq, mPar_eq, mAug_eq, bOf_eq, tOf_eq, tAndM_eq, tOrM_eq, tNotM_eq, tsYes_eq, mOp_eq, mUn_eq, mVar_eq, mC_eq, mCall_eq, mFun_eq, mFunKw_eq, mMeth_eq, mAnd_eq, mOr_eq, mNot_eq, mIf_eq, mChain_eq, mSl_eq, pNone_eq, pSome_eq, aCons_eq, aNil_eq, mTup_eq, mLst_eq, gN_eq, gT_eq, gsNil_eq, gsCons_eq, mkL_t, mkL_f, R.bind_ok, R.bind_no, R.nox_ok, List.getElem?_cons_zero, List.getElem?_cons_succ, List.set_cons_zero, List.set_cons_succ, List.length_cons, List.length_nil, List.append_nil, List.nil_append, List.cons_append, piApp_on, oLen_fz, oLen_lst, oLen_tup, oLt_int, oLe_int, oGt_int, oGe_int, oAdd_int, oSub_int, oIx_fz, oIx_lst, oIx_tup, oMax_int, oMin_int, oInt_bl, oInt_int, oIsi_bl, oNeg_int, oTuple_lst, oTuple_tup, iR1_eq, iR2_eq, iSq_eq, iStrM_eq, srcOf_tup, srcOf_lst, srcOf_fz, if_true, if_false, Bool.false_eq_true, Bool.true_eq_false, reduceIte, Nat.reduceAdd, Nat.reduceLeDiff, Nat.reduceEqDiff, decide_true, decide_false, and_self, and_true, true_and, oLen_ref (g _)]
    rw [whileM_succ, ht, R.bind_ok]
    rcases List.eq_nil_or_concat stk with rfl | ⟨r, d, rfl⟩
    · exact ⟨x3, x4, rfl⟩
    · rw [List.concat_eq_append] at h hf hs ⊢
      have hp : decide (0 < (((r ++ [d]).map dd).length : Int)) = true := by simp
      rw [hp, if_pos rfl]
      have hd : axD d = true := h d (by simp)
      have hr : axL r = true := axL_of fun e he => h e (by simp [he])
      obtain ⟨stk', y3, y4, h1, h2, e⟩ := alike_turn hN r d hd hs x0 x1 x3 x4
      rw [e, R.bind_ok]
      cases fuel with
      | zero => omega
      | succ fuel =>
        obtain ⟨z3, z4, e2⟩ := alike_loop hN x0 x1 fuel stk' y3 y4 (h2 hr) (by omega) (by omega)
        exact ⟨z3, z4, e2⟩
theorem alike_eq {d : D} (h : axD d = true) (hs : szD d ≤ 1000000) (M : Mem) : g_law_alike [d, d] M = .ok (.bl true) M := by
  obtain ⟨y3, y4, e⟩ := alike_loop (A := M) rfl (some d) (some d) 999999999 [d] none none (fun e he => by rw [List.mem_singleton.mp he]; exact h) (by simp [szL]; omega) (by simp [szL]; omega)
  have hB : B_law_alike [some d, some d, none, none, none] M = .ok (.rt (.bl true)) (M ++ [.lst []]) := by
    unfold B_law_alike
    simp -implicitDefEqProofs only [mSeq_eq, mIfS_eq, mSet_eq, mRet_eq, mRetN_eq, mExpr_eq, mPass_eq, mAsg_eq, mPar_eq, mAug_eq, bOf_eq, tOf_eq, tAndM_eq, tOrM_eq, tNotM_eq, tsYes_eq, mOp_eq, mUn_eq, mVar_eq, mC_eq, mCall_eq, mFun_eq, mFunKw_eq, mMeth_eq, mAnd_eq, mOr_eq, mNot_eq, mIf_eq, mChain_eq, mSl_eq, pNone_eq, pSome_eq, aCons_eq, aNil_eq, mTup_eq, mLst_eq, gN_eq, gT_eq, gsNil_eq, gsCons_eq, mkL_t, mkL_f, R.bind_ok, R.bind_no, R.nox_ok, List.getElem?_cons_zero, List.getElem?_cons_succ, List.set_cons_zero, List.set_cons_succ, List.length_cons, List.length_nil, List.append_nil, List.nil_append, List.cons_append, piApp_on, oLen_fz, oLen_lst, oLen_tup, oLt_int, oLe_int, oGt_int, oGe_int, oAdd_int, oSub_int, oIx_fz, oIx_lst, oIx_tup, oMax_int, oMin_int, oInt_bl, oInt_int, oIsi_bl, oNeg_int, oTuple_lst, oTuple_tup, iR1_eq, iR2_eq, iSq_eq, iStrM_eq, srcOf_tup, srcOf_lst, srcOf_fz, if_true, if_false, Bool.false_eq_true, Bool.true_eq_false, reduceIte, Nat.reduceAdd, Nat.reduceLeDiff, Nat.reduceEqDiff, decide_true, decide_false, and_self, and_true, true_and]
    unfold mWhile
    rw [show (1000000000 : Nat) = 999999999 + 1 from rfl]
    have e' : whileM T_law_alike_0 L_law_alike_1 (999999999 + 1) [some d, some d, some (.ref M.length), none, none] (M ++ [.lst [.tup [d, d]]]) = _ := e
    rw [e']
    rfl
  exact gc_val0 (p := .bool true) (runB_rt (N := 5) hB) rfl
/-! ### k12: the things -/
theorem flApp {M0 M B : Mem} {i : Nat} (h : FlAt M0 i M) : FlAt (M0 ++ B) i (M ++ B) := by
  obtain ⟨s, hs, e⟩ := h.at_
  have hl := h.lt
  exact ⟨⟨s, hs, by rw [e, List.set_append_left _ _ hl]⟩, by rw [List.length_append]; omega⟩
theorem flUnapp {M0 M B : Mem} {i : Nat} (hi : i < M0.length) (h : FlAt (M0 ++ B) i M) : ∃ A, M = A ++ B ∧ FlAt M0 i A := by
  obtain ⟨s, hs, e⟩ := h.at_
  rw [List.set_append_left _ _ hi] at e
  exact ⟨_, e, ⟨s, hs, rfl⟩, hi⟩
theorem draw_app {M0 A B : Mem} {i : Nat} (h : FlAt M0 i A) (many : Int) (h0 : 0 < many) (h1 : many < 1000000000000000000000000) : ∃ (v : Nat) (A' : Mem), (v : Int) < many ∧ FlAt M0 i A' ∧ g_law_draw [.ref i, .int many] (A ++ B) = .ok (.int v) (A' ++ B) := by
  obtain ⟨v, M', hv, hf, e⟩ := draw_eq (flApp (B := B) h) many h0 h1
  obtain ⟨A', rfl, h'⟩ := flUnapp h.lt hf
  exact ⟨v, A', hv, h', e⟩
/-- a thing of the pool -/
def ThOk (x : Th) : Prop := isNm x.1 = true ∧ 0 ≤ x.2 ∧ x.2 < 200
theorem things_turn {M0 A : Mem} {i N : Nat} (h : FlAt M0 i A) (hN : A.length = N) {F : List (List Nat)} (hF : F.length = 3) (hw : ∀ w ∈ F, isNm w = true) (xs : List Th) (hl : xs.length < 1000) (x1 x4 : Option D) :
    ∃ (x : Th) (A' : Mem), ThOk x ∧ FlAt M0 i A' ∧ L_law_things_0 [some (.ref i), x1, some (.lst (F.map .str)), some (.ref N), x4] (A ++ [.lst (xs.map thD)]) = .ok (.nx [some (.ref i), x1, some (.lst (F.map .str)), some (.ref N), x4]) (A' ++ [.lst ((xs ++ [x]).map thD)]) := by
  obtain ⟨v, A1, v1, h1, e1⟩ := draw_app (B := [.lst (xs.map thD)]) h 3 (by omega) (by omega)
  obtain ⟨a, A2, a1, h2, e2⟩ := draw_app (B := [.lst (xs.map thD)]) h1 4 (by omega) (by omega)
  obtain ⟨b, A3, b1, h3, e3⟩ := draw_app (B := [.lst (xs.map thD)]) h2 200 (by omega) (by omega)
  obtain ⟨c, A4, c1, h4, e4⟩ := draw_app (B := [.lst (xs.map thD)]) h3 2 (by omega) (by omega)
  obtain ⟨dw, hd, hm⟩ := atI_some (xs := F.map D.str) (i := (v : Int)) (by omega) (by rw [List.length_map]; omega)
  obtain ⟨w, hmw, rfl⟩ := List.mem_map.mp hm
  obtain ⟨n, hn, n0, n1⟩ : ∃ n : Int, atI [D.int (a : Int), .int (b : Int)] (c : Int) = some (.int n) ∧ 0 ≤ n ∧ n < 200 := by
    rcases (show c = 0 ∨ c = 1 by omega) with z | z <;> subst z
    · exact ⟨a, rfl, by omega, by omega⟩
    · exact ⟨b, rfl, by omega, by omega⟩
  have l4 : A4.length = N := by rw [h4.len, ← h.len, hN]
  have g0 : ∀ {A : Mem} {X : List D}, A.length = N → (A ++ [Cell.lst X])[N]? = some (.lst X) := fun {A X} hA => app_get0 hA
  have s4 : ∀ X Y, (A4 ++ [Cell.lst X]).set N (.lst Y) = A4 ++ [.lst Y] := fun X Y => app_set0 l4
  have ll : (xs.map thD).length < 16777216 := by rw [List.length_map]; omega
  have ap := oAppend_at (d := .tup [.str w, .int n]) (g0 (X := xs.map thD) l4) ll
  rw [s4] at ap
  refine ⟨(w, n), A4, ⟨hw w hmw, n0, n1⟩, h4, ?_⟩
  unfold L_law_things_0
  simp -implicitDefEqProofs only [mSeq_eq, mIfS_eq, mSet_eq, mRet_eq, mRetN_eq, mExpr_eq, mPass_eq, mAsg_eq, mPar_eq, mAug_eq, bOf_eq, tOf_eq, tAndM_eq, tOrM_eq, tNotM_eq, tsYes_eq, mOp_eq, mUn_eq, mVar_eq, mC_eq, mCall_eq, mFun_eq, mFunKw_eq, mMeth_eq, mAnd_eq, mOr_eq, mNot_eq, mIf_eq, mChain_eq, mSl_eq, pNone_eq, pSome_eq, aCons_eq, aNil_eq, mTup_eq, mLst_eq, gN_eq, gT_eq, gsNil_eq, gsCons_eq, mkL_t, mkL_f, R.bind_ok, R.bind_no, R.nox_ok, List.getElem?_cons_zero, List.getElem?_cons_succ, List.set_cons_zero, List.set_cons_succ, List.length_cons, List.length_nil, List.append_nil, List.nil_append, List.cons_append, piApp_on, oLen_fz, oLen_lst, oLen_tup, oLt_int, oLe_int, oGt_int, oGe_int, oAdd_int, oSub_int, oIx_fz, oIx_lst, oIx_tup, oMax_int, oMin_int, oInt_bl, oInt_int, oIsi_bl, oNeg_int, oTuple_lst, oTuple_tup, iR1_eq, iR2_eq, iSq_eq, iStrM_eq, srcOf_tup, srcOf_lst, srcOf_fz, if_true, if_false, Bool.false_eq_true, Bool.true_eq_false, reduceIte, Nat.reduceAdd, Nat.reduceLeDiff, Nat.reduceEqDiff, decide_true, decide_false, and_self, and_true, true_and, tyOk_at (g0 hN), e1, hd, e2, e3, e4, hn, ap]
  rw [List.map_append]
  all_goals rfl
theorem things_eq {M0 M : Mem} {i : Nat} (h : FlAt M0 i M) (many : Nat) (hm : many ≤ 100) : ∃ (xs : List Th) (M' : Mem), (∀ x ∈ xs, ThOk x) ∧ xs.length = many ∧ FlAt M0 i M' ∧ g_law_things [.ref i, .int many] M = .ok (.lst (xs.map thD)) M' := by
  obtain ⟨F, A, hw, _, hF, h1, e1⟩ := names_eq h.self 3 (by omega) (by omega)
  have hA : A.length = M.length := h1.len
  obtain ⟨env', m', e6, xs, A', y4, rfl, rfl, hx, hl, h2⟩ := forL_inv (g := gN 4) (body := L_law_things_0) (fun k env M2 => ∃ (xs : List Th) (A' : Mem) (y4 : Option D), env = [some (.ref i), some (.int many), some (.lst (F.map .str)), some (.ref M.length), y4] ∧ M2 = A' ++ [.lst (xs.map thD)] ∧ (∀ x ∈ xs, ThOk x) ∧ xs.length = k ∧ FlAt M i A') (rngItems 0 many) 0 [some (.ref i), some (.int many), some (.lst (F.map .str)), some (.ref M.length), none] (A ++ [.lst []])
    ⟨[], A, none, rfl, rfl, fun _ h => (by cases h), rfl, h1⟩ (by
      rintro k d env M2 hk ⟨xs, A', y4, rfl, rfl, hx, hl, h2⟩
      obtain ⟨rfl, hkm⟩ := rngItems_get hk
      rw [Nat.zero_add] at hl ⊢
      obtain ⟨x, A2, ox, h3, e⟩ := things_turn h2 h2.len hF hw xs (by omega) (some (.int many)) (some (.int (0 + (k : Int))))
      refine ⟨_, _, e, xs ++ [x], A2, _, rfl, rfl, fun y hy => ?_, by rw [List.length_append, hl]; rfl, h3⟩
      rcases List.mem_append.mp hy with z | z
      · exact hx y z
      · rw [List.mem_singleton.mp z]; exact ox)
  rw [rngItems_len, Nat.zero_add] at hl
  refine ⟨xs, A', hx, hl, h.trans h2, ?_⟩
  have hB : B_law_things [some (.ref i), some (.int many), none, none, none] M = .ok (.rt (.ref M.length)) (A' ++ [.lst (xs.map thD)]) := by
    unfold B_law_things
    have e1' : g_law_names [.ref i, .int 3] M = .ok (.lst (F.map .str)) A := e1
    simp -implicitDefEqProofs (disch := first | assumption | omega | (simp only [List.length_cons, List.length_nil, List.length_append, List.length_map, List.length_take, List.length_drop, rngItems_len]; omega)) only [mSeq_eq, mIfS_eq, mSet_eq, mRet_eq, mRetN_eq, mExpr_eq, mPass_eq, mAsg_eq, mPar_eq, mAug_eq, bOf_eq, tOf_eq, tAndM_eq, tOrM_eq, tNotM_eq, tsYes_eq, mOp_eq, mUn_eq, mVar_eq, mC_eq, mCall_eq, mFun_eq, mFunKw_eq, mMeth_eq, mAnd_eq, mOr_eq, mNot_eq, mIf_eq, mChain_eq, mSl_eq, pNone_eq, pSome_eq, aCons_eq, aNil_eq, mTup_eq, mLst_eq, gN_eq, gT_eq, gsNil_eq, gsCons_eq, mkL_t, mkL_f, R.bind_ok, R.bind_no, R.nox_ok, List.getElem?_cons_zero, List.getElem?_cons_succ, List.set_cons_zero, List.set_cons_succ, List.length_cons, List.length_nil, List.append_nil, List.nil_append, List.cons_append, piApp_on, oLen_fz, oLen_lst, oLen_tup, oLt_int, oLe_int, oGt_int, oGe_int, oAdd_int, oSub_int, oIx_fz, oIx_lst, oIx_tup, oMax_int, oMin_int, oInt_bl, oInt_int, oIsi_bl, oNeg_int, oTuple_lst, oTuple_tup, iR1_eq, iR2_eq, iSq_eq, iStrM_eq, srcOf_tup, srcOf_lst, srcOf_fz, if_true, if_false, Bool.false_eq_true, Bool.true_eq_false, reduceIte, Nat.reduceAdd, Nat.reduceLeDiff, Nat.reduceEqDiff, decide_true, decide_false, and_self, and_true, true_and, oMod_int, oMul_r, oMul_l, oLen_str, oAdd_str, oSl_str, oSl_tup, oSl_lst, oSl_fz, rngOk_of, oEq_int, oEq_bl, beq_self_eq_true, Int.toNat_natCast, mFor_eq, mLc_eq, app_get0, app_get1, app_set0, app_set1, tyOk, oTuple_ref, oList_ref, oLen_refM, oIx_refM, oAppM, oExtM, srcOf_refM, ifLt24, ifLe24, e1', hA, e6]
  refine gc_flow (n := 1) h2 (junk := []) (runB_rt (N := 5) hB) fun d hd => ?_
  obtain ⟨x, _, rfl⟩ := List.mem_map.mp hd
  exact Pl.tup (PlL.cons (Pl.str _) (PlL.cons (Pl.int _) PlL.nil))
/-! ### the law's model: place by place -/
structure Rw where
  c : Nat
  r : Nat
  row : List Th
  b : Bool
structure Ml (M : Mem) (m : Nat) (R' : List Rw) (n : Nat) : Prop where
  top : M[m]? = some (.lst (R'.map fun x => .ref x.c))
  cl : ∀ (k : Nat) (x : Rw), R'[k]? = some x → M[x.c]? = some (.lst [.ref x.r, .bl x.b])
  rw_ : ∀ (k : Nat) (x : Rw), R'[k]? = some x → M[x.r]? = some (.lst (x.row.map thD))
  ne : ∀ (k : Nat) (x : Rw), R'[k]? = some x → x.b = true → x.row ≠ []
  few : R'.length ≤ n
  rowl : ∀ (k : Nat) (x : Rw), R'[k]? = some x → x.row.length ≤ n
  mc : ∀ (k : Nat) (x : Rw), R'[k]? = some x → x.c ≠ m ∧ x.r ≠ m ∧ x.c ≠ x.r
  cc : ∀ (k k' : Nat) (x x' : Rw), R'[k]? = some x → R'[k']? = some x' → k ≠ k' → x.c ≠ x'.c ∧ x.c ≠ x'.r ∧ x.r ≠ x'.c ∧ x.r ≠ x'.r
def ldM (R' : List Rw) (p n : Nat) : Option Th := match R'[p]? with
  | some x => if x.b = true ∧ n + 1 = x.row.length then x.row.getLast? else none
  | none => none
def dOp : Option Th → D
  | none => .non
  | some x => thD x
theorem getLast_at {l : List D} {d : D} (h : l.getLast? = some d) : atI l (-1) = some d := by
  obtain ⟨r, rfl⟩ : ∃ r, l = r ++ [d] := by
    rcases List.eq_nil_or_concat l with rfl | ⟨r, x, rfl⟩
    · simp at h
    · rw [List.concat_eq_append] at h ⊢
      simp at h
      exact ⟨r, by rw [h]⟩
  exact atLast _ _
theorem mleads_eq {M : Mem} {m w : Nat} {R' : List Rw} (h : Ml M m R' w) (p n : Nat) : g_law_model_leads [.ref m, .tup [.int p, .int n]] M = .ok (dOp (ldM R' p n)) M := by
  refine runB_rt (N := 4) (?_ : B_law_model_leads [some (.ref m), some (.tup [.int p, .int n]), none, none] M = _)
  have lm := oLen_ref h.top
  rw [List.length_map] at lm
  have z0 : decide ((0 : Int) ≤ (p : Int)) = true := decide_eq_true (by omega)
  cases hp : R'[p]? with
  | none =>
    have hge : R'.length ≤ p := by simpa using hp
    have z1 : decide ((p : Int) < (R'.length : Int)) = false := decide_eq_false (by omega)
    have e : ldM R' p n = none := by simp only [ldM, hp]
    rw [e]
    unfold B_law_model_leads
    simp -implicitDefEqProofs only [mSeq_eq, mIfS_eq, mSet_eq, mRet_eq, mRetN_eq, mExpr_eq, mPass_eq, mAsg_eq, mPar_eq, mAug_eq, bOf_eq, tOf_eq, tAndM_eq, tOrM_eq, tNotM_eq, tsYes_eq, mOp_eq, mUn_eq, mVar_eq, mC_eq, mCall_eq, mFun_eq, mFunKw_eq, mMeth_eq, mAnd_eq, mOr_eq, mNot_eq, mIf_eq, mChain_eq, mSl_eq, pNone_eq, pSome_eq, aCons_eq, aNil_eq, mTup_eq, mLst_eq, gN_eq, gT_eq, gsNil_eq, gsCons_eq, mkL_t, mkL_f, R.bind_ok, R.bind_no, R.nox_ok, List.getElem?_cons_zero, List.getElem?_cons_succ, List.set_cons_zero, List.set_cons_succ, List.length_cons, List.length_nil, List.append_nil, List.nil_append, List.cons_append, piApp_on, oLen_fz, oLen_lst, oLen_tup, oLt_int, oLe_int, oGt_int, oGe_int, oAdd_int, oSub_int, oIx_fz, oIx_lst, oIx_tup, oMax_int, oMin_int, oInt_bl, oInt_int, oIsi_bl, oNeg_int, oTuple_lst, oTuple_tup, iR1_eq, iR2_eq, iSq_eq, iStrM_eq, srcOf_tup, srcOf_lst, srcOf_fz, if_true, if_false, Bool.false_eq_true, Bool.true_eq_false, reduceIte, Nat.reduceAdd, Nat.reduceLeDiff, Nat.reduceEqDiff, decide_true, decide_false, and_self, and_true, true_and, z0, z1, lm, Bool.not_false, Bool.not_true]
    rfl
  | some x =>
    have hlt : p < R'.length := (List.getElem?_eq_some_iff.mp hp).1
    have z1 : decide ((p : Int) < (R'.length : Int)) = true := decide_eq_true (by omega)
    have i1 : oIx (.ref m) (.int (p : Int)) M = .ok (.ref x.c) M := by
      rw [oIx_ref h.top, atI_nat (v := D.ref x.c) (by rw [List.getElem?_map, hp]; rfl)]
    have c1 := h.cl p x hp
    have r1 := h.rw_ p x hp
    have i2 : oIx (.ref x.c) (.int 1) M = .ok (.bl x.b) M := by rw [oIx_ref c1, at21]
    have i3 : oIx (.ref x.c) (.int 0) M = .ok (.ref x.r) M := by rw [oIx_ref c1, at20]
    have lr := oLen_ref r1
    rw [List.length_map] at lr
    have tb : ∀ m, truD m (.bl x.b) = some x.b := fun m => rfl
    cases hb : x.b with
    | false =>
      have e : ldM R' p n = none := by simp only [ldM, hp, hb]; rfl
      rw [e]
      rw [hb] at tb i2
      unfold B_law_model_leads
      simp -implicitDefEqProofs only [mSeq_eq, mIfS_eq, mSet_eq, mRet_eq, mRetN_eq, mExpr_eq, mPass_eq, mAsg_eq, mPar_eq, mAug_eq, bOf_eq, tOf_eq, tAndM_eq, tOrM_eq, tNotM_eq, tsYes_eq, mOp_eq, mUn_eq, mVar_eq, mC_eq, mCall_eq, mFun_eq, mFunKw_eq, mMeth_eq, mAnd_eq, mOr_eq, mNot_eq, mIf_eq, mChain_eq, mSl_eq, pNone_eq, pSome_eq, aCons_eq, aNil_eq, mTup_eq, mLst_eq, gN_eq, gT_eq, gsNil_eq, gsCons_eq, mkL_t, mkL_f, R.bind_ok, R.bind_no, R.nox_ok, List.getElem?_cons_zero, List.getElem?_cons_succ, List.set_cons_zero, List.set_cons_succ, List.length_cons, List.length_nil, List.append_nil, List.nil_append, List.cons_append, piApp_on, oLen_fz, oLen_lst, oLen_tup, oLt_int, oLe_int, oGt_int, oGe_int, oAdd_int, oSub_int, oIx_fz, oIx_lst, oIx_tup, oMax_int, oMin_int, oInt_bl, oInt_int, oIsi_bl, oNeg_int, oTuple_lst, oTuple_tup, iR1_eq, iR2_eq, iSq_eq, iStrM_eq, srcOf_tup, srcOf_lst, srcOf_fz, if_true, if_false, Bool.false_eq_true, Bool.true_eq_false, reduceIte, Nat.reduceAdd, Nat.reduceLeDiff, Nat.reduceEqDiff, decide_true, decide_false, and_self, and_true, true_and, z0, z1, lm, i1, i2, tb, Bool.not_false, Bool.not_true]
      rfl
    | true =>
      rw [hb] at tb i2
      by_cases c : n + 1 = x.row.length
      · obtain ⟨y, hy⟩ : ∃ y, x.row.getLast? = some y := ⟨x.row.getLast (h.ne p x hp hb), List.getLast?_eq_getLast (h.ne p x hp hb)⟩
        have e : ldM R' p n = some y := by simp only [ldM, hp, hb, c, hy]; rfl
        rw [e]
        have z2 : ((n : Int) == ((x.row.length : Int) - 1)) = true := by simp; omega
        have i4 : oIx (.ref x.r) (.int (-1)) M = .ok (thD y) M := by
          rw [oIx_ref r1, getLast_at (d := thD y) (by rw [List.getLast?_map, hy]; rfl)]
        unfold B_law_model_leads
        simp -implicitDefEqProofs only [mSeq_eq, mIfS_eq, mSet_eq, mRet_eq, mRetN_eq, mExpr_eq, mPass_eq, mAsg_eq, mPar_eq, mAug_eq, bOf_eq, tOf_eq, tAndM_eq, tOrM_eq, tNotM_eq, tsYes_eq, mOp_eq, mUn_eq, mVar_eq, mC_eq, mCall_eq, mFun_eq, mFunKw_eq, mMeth_eq, mAnd_eq, mOr_eq, mNot_eq, mIf_eq, mChain_eq, mSl_eq, pNone_eq, pSome_eq, aCons_eq, aNil_eq, mTup_eq, mLst_eq, gN_eq, gT_eq, gsNil_eq, gsCons_eq, mkL_t, mkL_f, R.bind_ok, R.bind_no, R.nox_ok, List.getElem?_cons_zero, List.getElem?_cons_succ, List.set_cons_zero, List.set_cons_succ, List.length_cons, List.length_nil, List.append_nil, List.nil_append, List.cons_append, piApp_on, oLen_fz, oLen_lst, oLen_tup, oLt_int, oLe_int, oGt_int, oGe_int, oAdd_int, oSub_int, oIx_fz, oIx_lst, oIx_tup, oMax_int, oMin_int, oInt_bl, oInt_int, oIsi_bl, oNeg_int, oTuple_lst, oTuple_tup, iR1_eq, iR2_eq, iSq_eq, iStrM_eq, srcOf_tup, srcOf_lst, srcOf_fz, if_true, if_false, Bool.false_eq_true, Bool.true_eq_false, reduceIte, Nat.reduceAdd, Nat.reduceLeDiff, Nat.reduceEqDiff, decide_true, decide_false, and_self, and_true, true_and, z0, z1, lm, i1, i2, tb, i3, lr, oEq_int, z2, i4, Bool.not_false, Bool.not_true]
        rfl
      · have e : ldM R' p n = none := by simp only [ldM, hp, hb, c]; rfl
        rw [e]
        have z2 : ((n : Int) == ((x.row.length : Int) - 1)) = false := by simp; omega
        unfold B_law_model_leads
        simp -implicitDefEqProofs only [mSeq_eq, mIfS_eq, mSet_eq, mRet_eq, mRetN_eq, mExpr_eq, mPass_eq, mAsg_eq, mPar_eq, mAug_eq, bOf_eq, tOf_eq, tAndM_eq, tOrM_eq, tNotM_eq, tsYes_eq, mOp_eq, mUn_eq, mVar_eq, mC_eq, mCall_eq, mFun_eq, mFunKw_eq, mMeth_eq, mAnd_eq, mOr_eq, mNot_eq, mIf_eq, mChain_eq, mSl_eq, pNone_eq, pSome_eq, aCons_eq, aNil_eq, mTup_eq, mLst_eq, gN_eq, gT_eq, gsNil_eq, gsCons_eq, mkL_t, mkL_f, R.bind_ok, R.bind_no, R.nox_ok, List.getElem?_cons_zero, List.getElem?_cons_succ, List.set_cons_zero, List.set_cons_succ, List.length_cons, List.length_nil, List.append_nil, List.nil_append, List.cons_append, piApp_on, oLen_fz, oLen_lst, oLen_tup, oLt_int, oLe_int, oGt_int, oGe_int, oAdd_int, oSub_int, oIx_fz, oIx_lst, oIx_tup, oMax_int, oMin_int, oInt_bl, oInt_int, oIsi_bl, oNeg_int, oTuple_lst, oTuple_tup, iR1_eq, iR2_eq, iSq_eq, iStrM_eq, srcOf_tup, srcOf_lst, srcOf_fz, if_true, if_false, Bool.false_eq_true, Bool.true_eq_false, reduceIte, Nat.reduceAdd, Nat.reduceLeDiff, Nat.reduceEqDiff, decide_true, decide_false, and_self, and_true, true_and, z0, z1, lm, i1, i2, tb, i3, lr, oEq_int, z2, Bool.not_false, Bool.not_true]
        rfl
/-! ### the model's handles -/
def hdF (x : Nat × Rw) : D := .tup [.int x.1, .int ((x.2.row.length : Int) - 1)]
def ixR (R' : List Rw) : List (Nat × Rw) := R'.zipIdx.map fun x => (x.2, x.1)
def hdM (R' : List Rw) : List D := ((ixR R').filter fun x => x.2.b).map hdF
theorem ixR_get {R' : List Rw} {x : Nat × Rw} (h : x ∈ ixR R') : R'[x.1]? = some x.2 := by
  unfold ixR at h
  obtain ⟨y, hy, rfl⟩ := List.mem_map.mp h
  exact List.mem_zipIdx_iff_getElem?.mp hy
theorem numb_ix (R' : List Rw) : numb (R'.map fun x => D.ref x.c) = (ixR R').map fun x : Nat × Rw => .tup [.int x.1, .ref x.2.c] := by
  apply List.ext_getElem?
  intro k
  cases hk : R'[k]? with
  | none =>
    have hge : R'.length ≤ k := by simpa using hk
    rw [List.getElem?_eq_none (by simp [numb]; omega), List.getElem?_eq_none (by simp [ixR]; omega)]
  | some x =>
    have hlt : k < R'.length := (List.getElem?_eq_some_iff.mp hk).1
    unfold numb
    rw [List.getElem?_zipWith, List.length_map, List.getElem?_range hlt, List.getElem?_map, hk]
    simp [ixR, List.getElem?_zipIdx, hk]
theorem mhandles_eq {M : Mem} {m w : Nat} {R' : List Rw} (h : Ml M m R' w) (hw : w < 100000) : g_law_model_handles [.ref m] M = .ok (.lst (hdM R')) M := by
  refine runB_rt (N := 4) (?_ : B_law_model_handles [some (.ref m), none, none, none] M = _)
  have hls : lstOf M (.ref m) = some (R'.map fun x => .ref x.c) := lstOf_at h.top
  have hsr : srcOf M (.ref m) = some ⟨R'.map fun x => .ref x.c, fun M' => M'[m]? = some (.lst (R'.map fun x => .ref x.c))⟩ := by rw [srcOf_refM, h.top]
  have c := compL_fm (P := fun M' : Mem => M'[m]? = some (.lst (R'.map fun x => D.ref x.c))) (M := M) h.top (g := gT 2 (gsCons (gN 1) (gsCons (gTA 2 (gsCons (gN 2) (gsCons (gN 3) gsNil))) gsNil))) (t := T_law_model_handles_0) (f := C_law_model_handles_1) (env := [some (.ref m), none, none, none]) (fun x : Nat × Rw => .tup [.int x.1, .ref x.2.c]) (fun x => x.2.b) hdF (ixR R') fun x hx => by
    have hx := ixR_get hx
    have c1 := h.cl _ _ hx
    have r1 := h.rw_ _ _ hx
    have lr := oLen_ref r1
    rw [List.length_map] at lr
    have tb : ∀ m, truD m (.bl x.2.b) = some x.2.b := fun m => rfl
    refine ⟨[some (.ref m), some (.int x.1), some (.ref x.2.r), some (.bl x.2.b)], ?_, ?_, fun hb => ?_⟩
    · simp -implicitDefEqProofs only [mSeq_eq, mIfS_eq, mSet_eq, mRet_eq, mRetN_eq, mExpr_eq, mPass_eq, mAsg_eq, mPar_eq, mAug_eq, bOf_eq, tOf_eq, tAndM_eq, tOrM_eq, tNotM_eq, tsYes_eq, mOp_eq, mUn_eq, mVar_eq, mC_eq, mCall_eq, mFun_eq, mFunKw_eq, mMeth_eq, mAnd_eq, mOr_eq, mNot_eq, mIf_eq, mChain_eq, mSl_eq, pNone_eq, pSome_eq, aCons_eq, aNil_eq, mTup_eq, mLst_eq, gN_eq, gT_eq, gsNil_eq, gsCons_eq, mkL_t, mkL_f, R.bind_ok, R.bind_no, R.nox_ok, List.getElem?_cons_zero, List.getElem?_cons_succ, List.set_cons_zero, List.set_cons_succ, List.length_cons, List.length_nil, List.append_nil, List.nil_append, List.cons_append, piApp_on, oLen_fz, oLen_lst, oLen_tup, oLt_int, oLe_int, oGt_int, oGe_int, oAdd_int, oSub_int, oIx_fz, oIx_lst, oIx_tup, oMax_int, oMin_int, oInt_bl, oInt_int, oIsi_bl, oNeg_int, oTuple_lst, oTuple_tup, iR1_eq, iR2_eq, iSq_eq, iStrM_eq, srcOf_tup, srcOf_lst, srcOf_fz, if_true, if_false, Bool.false_eq_true, Bool.true_eq_false, reduceIte, Nat.reduceAdd, Nat.reduceLeDiff, Nat.reduceEqDiff, decide_true, decide_false, and_self, and_true, true_and, gTA_ref c1]
    · unfold T_law_model_handles_0
      simp -implicitDefEqProofs only [mSeq_eq, mIfS_eq, mSet_eq, mRet_eq, mRetN_eq, mExpr_eq, mPass_eq, mAsg_eq, mPar_eq, mAug_eq, bOf_eq, tOf_eq, tAndM_eq, tOrM_eq, tNotM_eq, tsYes_eq, mOp_eq, mUn_eq, mVar_eq, mC_eq, mCall_eq, mFun_eq, mFunKw_eq, mMeth_eq, mAnd_eq, mOr_eq, mNot_eq, mIf_eq, mChain_eq, mSl_eq, pNone_eq, pSome_eq, aCons_eq, aNil_eq, mTup_eq, mLst_eq, gN_eq, gT_eq, gsNil_eq, gsCons_eq, mkL_t, mkL_f, R.bind_ok, R.bind_no, R.nox_ok, List.getElem?_cons_zero, List.getElem?_cons_succ, List.set_cons_zero, List.set_cons_succ, List.length_cons, List.length_nil, List.append_nil, List.nil_append, List.cons_append, piApp_on, oLen_fz, oLen_lst, oLen_tup, oLt_int, oLe_int, oGt_int, oGe_int, oAdd_int, oSub_int, oIx_fz, oIx_lst, oIx_tup, oMax_int, oMin_int, oInt_bl, oInt_int, oIsi_bl, oNeg_int, oTuple_lst, oTuple_tup, iR1_eq, iR2_eq, iSq_eq, iStrM_eq, srcOf_tup, srcOf_lst, srcOf_fz, if_true, if_false, Bool.false_eq_true, Bool.true_eq_false, reduceIte, Nat.reduceAdd, Nat.reduceLeDiff, Nat.reduceEqDiff, decide_true, decide_false, and_self, and_true, true_and, tb]
    · unfold C_law_model_handles_1
      simp -implicitDefEqProofs only [mSeq_eq, mIfS_eq, mSet_eq, mRet_eq, mRetN_eq, mExpr_eq, mPass_eq, mAsg_eq, mPar_eq, mAug_eq, bOf_eq, tOf_eq, tAndM_eq, tOrM_eq, tNotM_eq, tsYes_eq, mOp_eq, mUn_eq, mVar_eq, mC_eq, mCall_eq, mFun_eq, mFunKw_eq, mMeth_eq, mAnd_eq, mOr_eq, mNot_eq, mIf_eq, mChain_eq, mSl_eq, pNone_eq, pSome_eq, aCons_eq, aNil_eq, mTup_eq, mLst_eq, gN_eq, gT_eq, gsNil_eq, gsCons_eq, mkL_t, mkL_f, R.bind_ok, R.bind_no, R.nox_ok, List.getElem?_cons_zero, List.getElem?_cons_succ, List.set_cons_zero, List.set_cons_succ, List.length_cons, List.length_nil, List.append_nil, List.nil_append, List.cons_append, piApp_on, oLen_fz, oLen_lst, oLen_tup, oLt_int, oLe_int, oGt_int, oGe_int, oAdd_int, oSub_int, oIx_fz, oIx_lst, oIx_tup, oMax_int, oMin_int, oInt_bl, oInt_int, oIsi_bl, oNeg_int, oTuple_lst, oTuple_tup, iR1_eq, iR2_eq, iSq_eq, iStrM_eq, srcOf_tup, srcOf_lst, srcOf_fz, if_true, if_false, Bool.false_eq_true, Bool.true_eq_false, reduceIte, Nat.reduceAdd, Nat.reduceLeDiff, Nat.reduceEqDiff, decide_true, decide_false, and_self, and_true, true_and, lr]
      rfl
  rw [← numb_ix] at c
  have ll : (numb (R'.map fun x => D.ref x.c)).length < 16777216 := by have := h.few; simp [numb]; omega
  have wp : wipeE [some (.ref m), none, none, none] [1, 2, 3] = [some (.ref m), none, none, none] := rfl
  unfold B_law_model_handles
  simp -implicitDefEqProofs only [mSeq_eq, mIfS_eq, mSet_eq, mRet_eq, mRetN_eq, mExpr_eq, mPass_eq, mAsg_eq, mPar_eq, mAug_eq, bOf_eq, tOf_eq, tAndM_eq, tOrM_eq, tNotM_eq, tsYes_eq, mOp_eq, mUn_eq, mVar_eq, mC_eq, mCall_eq, mFun_eq, mFunKw_eq, mMeth_eq, mAnd_eq, mOr_eq, mNot_eq, mIf_eq, mChain_eq, mSl_eq, pNone_eq, pSome_eq, aCons_eq, aNil_eq, mTup_eq, mLst_eq, gN_eq, gT_eq, gsNil_eq, gsCons_eq, mkL_t, mkL_f, R.bind_ok, R.bind_no, R.nox_ok, List.getElem?_cons_zero, List.getElem?_cons_succ, List.set_cons_zero, List.set_cons_succ, List.length_cons, List.length_nil, List.append_nil, List.nil_append, List.cons_append, piApp_on, oLen_fz, oLen_lst, oLen_tup, oLt_int, oLe_int, oGt_int, oGe_int, oAdd_int, oSub_int, oIx_fz, oIx_lst, oIx_tup, oMax_int, oMin_int, oInt_bl, oInt_int, oIsi_bl, oNeg_int, oTuple_lst, oTuple_tup, iR1_eq, iR2_eq, iSq_eq, iStrM_eq, srcOf_tup, srcOf_lst, srcOf_fz, if_true, if_false, Bool.false_eq_true, Bool.true_eq_false, reduceIte, Nat.reduceAdd, Nat.reduceLeDiff, Nat.reduceEqDiff, decide_true, decide_false, and_self, and_true, true_and, mLc_eq, iEnumM, hls, hsr, ll, wp, c]
  rfl
/-! ### the model: what changes -/
theorem get_set {R' : List Rw} {f k : Nat} {x' z : Rw} (h : (R'.set f x')[k]? = some z) : (k = f ∧ z = x') ∨ (k ≠ f ∧ R'[k]? = some z) := by
  by_cases hk : f = k
  · subst hk
    have hl : f < R'.length := by have := (List.getElem?_eq_some_iff.mp h).1; rw [List.length_set] at this; exact this
    rw [List.getElem?_set_self hl] at h
    exact .inl ⟨rfl, (Option.some.inj h).symm⟩
  · rw [List.getElem?_set_ne hk] at h
    exact .inr ⟨Ne.symm hk, h⟩
theorem get_app {R' : List Rw} {k : Nat} {x' z : Rw} (h : (R' ++ [x'])[k]? = some z) : (k = R'.length ∧ z = x') ∨ (k < R'.length ∧ R'[k]? = some z) := by
  by_cases hk : k < R'.length
  · rw [List.getElem?_append_left hk] at h; exact .inr ⟨hk, h⟩
  · have hl := (List.getElem?_eq_some_iff.mp h).1
    rw [List.length_append, List.length_singleton] at hl
    have : k = R'.length := by omega
    subst this
    rw [List.getElem?_append_right (Nat.le_refl _), Nat.sub_self] at h
    exact .inl ⟨rfl, (Option.some.inj h).symm⟩
theorem map_set_same {α : Type} {g : Rw → α} {R' : List Rw} {f : Nat} {x x' : Rw} (hf : R'[f]? = some x) (hc : g x' = g x) : (R'.set f x').map g = R'.map g := by
  apply List.ext_getElem?
  intro k
  rw [List.getElem?_map, List.getElem?_map]
  by_cases hk : f = k
  · subst hk
    rw [List.getElem?_set_self (List.getElem?_eq_some_iff.mp hf).1, hf]
    simp only [Option.map_some, hc]
  · rw [List.getElem?_set_ne hk]
theorem Ml.keep {M M' : Mem} {m n : Nat} {R' : List Rw} (h : Ml M m R' n) (e0 : M'[m]? = M[m]?) (e1 : ∀ (k : Nat) (x : Rw), R'[k]? = some x → M'[x.c]? = M[x.c]? ∧ M'[x.r]? = M[x.r]?) : Ml M' m R' n :=
  ⟨e0.trans h.top, fun k x hx => (e1 k x hx).1.trans (h.cl k x hx), fun k x hx => (e1 k x hx).2.trans (h.rw_ k x hx), h.ne, h.few, h.rowl, h.mc, h.cc⟩
theorem Ml.mono {M : Mem} {m n n' : Nat} {R' : List Rw} (h : Ml M m R' n) (hn : n ≤ n') : Ml M m R' n' :=
  ⟨h.top, h.cl, h.rw_, h.ne, Nat.le_trans h.few hn, fun k x hx => Nat.le_trans (h.rowl k x hx) hn, h.mc, h.cc⟩
theorem Ml.put {M M' : Mem} {m n n' f : Nat} {R' : List Rw} {x : Rw} (h : Ml M m R' n) (hf : R'[f]? = some x) (row : List Th) (b : Bool) (hrow : b = true → row ≠ []) (hl : row.length ≤ n') (hn : n ≤ n')
    (e1 : M'[x.c]? = some (.lst [.ref x.r, .bl b])) (e2 : M'[x.r]? = some (.lst (row.map thD))) (same : ∀ j, j ≠ x.c → j ≠ x.r → M'[j]? = M[j]?) : Ml M' m (R'.set f ⟨x.c, x.r, row, b⟩) n' := by
  obtain ⟨m1, m2, m3⟩ := h.mc f x hf
  refine ⟨?_, fun k z hz => ?_, fun k z hz => ?_, fun k z hz hb => ?_, by rw [List.length_set]; exact Nat.le_trans h.few hn, fun k z hz => ?_, fun k z hz => ?_, fun k k' z z' hz hz' hk => ?_⟩
  · rw [same m (Ne.symm m1) (Ne.symm m2), h.top, map_set_same (g := fun x => D.ref x.c) (x' := ⟨x.c, x.r, row, b⟩) hf rfl]
  · rcases get_set hz with ⟨rfl, rfl⟩ | ⟨hk, hz⟩
    · exact e1
    · obtain ⟨a, b', c, d⟩ := h.cc k f z x hz hf hk
      rw [same _ a b']; exact h.cl k z hz
  · rcases get_set hz with ⟨rfl, rfl⟩ | ⟨hk, hz⟩
    · exact e2
    · obtain ⟨a, b', c, d⟩ := h.cc k f z x hz hf hk
      rw [same _ c d]; exact h.rw_ k z hz
  · rcases get_set hz with ⟨rfl, rfl⟩ | ⟨hk, hz⟩
    · exact hrow hb
    · exact h.ne k z hz hb
  · rcases get_set hz with ⟨rfl, rfl⟩ | ⟨hk, hz⟩
    · exact hl
    · exact Nat.le_trans (h.rowl k z hz) hn
  · rcases get_set hz with ⟨rfl, rfl⟩ | ⟨hk, hz⟩
    · exact ⟨m1, m2, m3⟩
    · exact h.mc k z hz
  · rcases get_set hz with ⟨q1, rfl⟩ | ⟨h1, g1⟩ <;> rcases get_set hz' with ⟨q2, rfl⟩ | ⟨h2, g2⟩
    · exact absurd (q1.trans q2.symm) hk
    · subst q1; exact h.cc k k' x z' hf g2 hk
    · subst q2; exact h.cc k k' z x g1 hf hk
    · exact h.cc k k' z z' g1 g2 hk
theorem Ml.lts {M : Mem} {m n : Nat} {R' : List Rw} (h : Ml M m R' n) : m < M.length ∧ ∀ (k : Nat) (x : Rw), R'[k]? = some x → x.c < M.length ∧ x.r < M.length :=
  ⟨lt_of_get h.top, fun k x hx => ⟨lt_of_get (h.cl k x hx), lt_of_get (h.rw_ k x hx)⟩⟩
theorem Ml.app {M M' : Mem} {m n n' : Nat} {R' : List Rw} (h : Ml M m R' n) (hn : n ≤ n') (hlen : R'.length + 1 ≤ n') (c r : Nat) (hc : M.length ≤ c) (hr : M.length ≤ r) (hcr : c ≠ r)
    (e1 : M'[c]? = some (.lst [.ref r, .bl false])) (e2 : M'[r]? = some (.lst [])) (e0 : M'[m]? = some (.lst ((R'.map fun x => D.ref x.c) ++ [.ref c]))) (same : ∀ j, j < M.length → j ≠ m → M'[j]? = M[j]?) : Ml M' m (R' ++ [⟨c, r, [], false⟩]) n' := by
  obtain ⟨lm, lts⟩ := h.lts
  refine ⟨?_, fun k z hz => ?_, fun k z hz => ?_, fun k z hz hb => ?_, by rw [List.length_append]; exact hlen, fun k z hz => ?_, fun k z hz => ?_, fun k k' z z' hz hz' hk => ?_⟩
  · rw [e0, List.map_append]; rfl
  · rcases get_app hz with ⟨rfl, rfl⟩ | ⟨hk, hz⟩
    · exact e1
    · rw [same _ (lts k z hz).1 (h.mc k z hz).1]; exact h.cl k z hz
  · rcases get_app hz with ⟨rfl, rfl⟩ | ⟨hk, hz⟩
    · exact e2
    · rw [same _ (lts k z hz).2 (h.mc k z hz).2.1]; exact h.rw_ k z hz
  · rcases get_app hz with ⟨rfl, rfl⟩ | ⟨hk, hz⟩
    · cases hb
    · exact h.ne k z hz hb
  · rcases get_app hz with ⟨rfl, rfl⟩ | ⟨hk, hz⟩
    · exact Nat.zero_le _
    · exact Nat.le_trans (h.rowl k z hz) hn
  · rcases get_app hz with ⟨rfl, rfl⟩ | ⟨hk, hz⟩
    · exact ⟨Nat.ne_of_gt (Nat.lt_of_lt_of_le lm hc), Nat.ne_of_gt (Nat.lt_of_lt_of_le lm hr), hcr⟩
    · exact h.mc k z hz
  · rcases get_app hz with ⟨q1, rfl⟩ | ⟨h1, g1⟩ <;> rcases get_app hz' with ⟨q2, rfl⟩ | ⟨h2, g2⟩
    · exact absurd (q1.trans q2.symm) hk
    · obtain ⟨a, b⟩ := lts k' z' g2
      exact ⟨Nat.ne_of_gt (Nat.lt_of_lt_of_le a hc), Nat.ne_of_gt (Nat.lt_of_lt_of_le b hc), Nat.ne_of_gt (Nat.lt_of_lt_of_le a hr), Nat.ne_of_gt (Nat.lt_of_lt_of_le b hr)⟩
    · obtain ⟨a, b⟩ := lts k z g1
      exact ⟨Nat.ne_of_lt (Nat.lt_of_lt_of_le a hc), Nat.ne_of_lt (Nat.lt_of_lt_of_le a hr), Nat.ne_of_lt (Nat.lt_of_lt_of_le b hc), Nat.ne_of_lt (Nat.lt_of_lt_of_le b hr)⟩
    · exact h.cc k k' z z' g1 g2 hk
/-! ### the model's drop -/
theorem ldM_some {R' : List Rw} {p q : Nat} {y : Th} (h : ldM R' p q = some y) : ∃ x, R'[p]? = some x ∧ x.b = true ∧ q + 1 = x.row.length ∧ x.row.getLast? = some y := by
  unfold ldM at h
  cases hp : R'[p]? with
  | none => rw [hp] at h; cases h
  | some x =>
    rw [hp] at h
    simp only at h
    by_cases c : x.b = true ∧ q + 1 = x.row.length
    · rw [if_pos c] at h; exact ⟨x, rfl, c.1, c.2, h⟩
    · rw [if_neg c] at h; cases h
theorem ix20 : ixN 2 0 = some 0 := rfl
theorem ix21 : ixN 2 1 = some 1 := rfl
theorem mdrop_none {M : Mem} {m n p q : Nat} {R' : List Rw} (h : Ml M m R' n) (e : ldM R' p q = none) : g_law_model_drop [.ref m, .tup [.int p, .int q]] M = .ok (.bl false) M := by
  have hl := mleads_eq h p q
  rw [e] at hl
  refine runB_rt (N := 2) (?_ : B_law_model_drop [some (.ref m), some (.tup [.int p, .int q])] M = _)
  have e0 : oIsN false (dOp none) M = .ok (.bl true) M := rfl
  unfold B_law_model_drop
  simp -implicitDefEqProofs only [mSeq_eq, mIfS_eq, mSet_eq, mRet_eq, mRetN_eq, mExpr_eq, mPass_eq, mAsg_eq, mPar_eq, mAug_eq, bOf_eq, tOf_eq, tAndM_eq, tOrM_eq, tNotM_eq, tsYes_eq, mOp_eq, mUn_eq, mVar_eq, mC_eq, mCall_eq, mFun_eq, mFunKw_eq, mMeth_eq, mAnd_eq, mOr_eq, mNot_eq, mIf_eq, mChain_eq, mSl_eq, pNone_eq, pSome_eq, aCons_eq, aNil_eq, mTup_eq, mLst_eq, gN_eq, gT_eq, gsNil_eq, gsCons_eq, mkL_t, mkL_f, R.bind_ok, R.bind_no, R.nox_ok, List.getElem?_cons_zero, List.getElem?_cons_succ, List.set_cons_zero, List.set_cons_succ, List.length_cons, List.length_nil, List.append_nil, List.nil_append, List.cons_append, piApp_on, oLen_fz, oLen_lst, oLen_tup, oLt_int, oLe_int, oGt_int, oGe_int, oAdd_int, oSub_int, oIx_fz, oIx_lst, oIx_tup, oMax_int, oMin_int, oInt_bl, oInt_int, oIsi_bl, oNeg_int, oTuple_lst, oTuple_tup, iR1_eq, iR2_eq, iSq_eq, iStrM_eq, srcOf_tup, srcOf_lst, srcOf_fz, if_true, if_false, Bool.false_eq_true, Bool.true_eq_false, reduceIte, Nat.reduceAdd, Nat.reduceLeDiff, Nat.reduceEqDiff, decide_true, decide_false, and_self, and_true, true_and, hl, e0]
theorem mix_eq {M : Mem} {m n f : Nat} {R' : List Rw} {x : Rw} (h : Ml M m R' n) (hf : R'[f]? = some x) : oIx (.ref m) (.int (f : Int)) M = .ok (.ref x.c) M := by
  rw [oIx_ref h.top, atI_nat (v := D.ref x.c) (by rw [List.getElem?_map, hf]; rfl)]
theorem mdrop_some {M : Mem} {m n p q : Nat} {R' : List Rw} {y : Th} {x : Rw} (h : Ml M m R' n) (e : ldM R' p q = some y) (hp : R'[p]? = some x) : g_law_model_drop [.ref m, .tup [.int p, .int q]] M = .ok (.bl true) (M.set x.c (.lst [.ref x.r, .bl false])) := by
  have hl := mleads_eq h p q
  rw [e] at hl
  refine runB_rt (N := 2) (?_ : B_law_model_drop [some (.ref m), some (.tup [.int p, .int q])] M = _)
  have e0 : oIsN false (dOp (some y)) M = .ok (.bl false) M := rfl
  have i1 := mix_eq h hp
  have c1 := h.cl p x hp
  unfold B_law_model_drop
  simp -implicitDefEqProofs only [mSeq_eq, mIfS_eq, mSet_eq, mRet_eq, mRetN_eq, mExpr_eq, mPass_eq, mAsg_eq, mPar_eq, mAug_eq, bOf_eq, tOf_eq, tAndM_eq, tOrM_eq, tNotM_eq, tsYes_eq, mOp_eq, mUn_eq, mVar_eq, mC_eq, mCall_eq, mFun_eq, mFunKw_eq, mMeth_eq, mAnd_eq, mOr_eq, mNot_eq, mIf_eq, mChain_eq, mSl_eq, pNone_eq, pSome_eq, aCons_eq, aNil_eq, mTup_eq, mLst_eq, gN_eq, gT_eq, gsNil_eq, gsCons_eq, mkL_t, mkL_f, R.bind_ok, R.bind_no, R.nox_ok, List.getElem?_cons_zero, List.getElem?_cons_succ, List.set_cons_zero, List.set_cons_succ, List.length_cons, List.length_nil, List.append_nil, List.nil_append, List.cons_append, piApp_on, oLen_fz, oLen_lst, oLen_tup, oLt_int, oLe_int, oGt_int, oGe_int, oAdd_int, oSub_int, oIx_fz, oIx_lst, oIx_tup, oMax_int, oMin_int, oInt_bl, oInt_int, oIsi_bl, oNeg_int, oTuple_lst, oTuple_tup, iR1_eq, iR2_eq, iSq_eq, iStrM_eq, srcOf_tup, srcOf_lst, srcOf_fz, if_true, if_false, Bool.false_eq_true, Bool.true_eq_false, reduceIte, Nat.reduceAdd, Nat.reduceLeDiff, Nat.reduceEqDiff, decide_true, decide_false, and_self, and_true, true_and, hl, e0, gIx_eq, at20, i1, c1, ix21]
theorem drop_ml {M : Mem} {m n p : Nat} {R' : List Rw} {x : Rw} (h : Ml M m R' n) (hp : R'[p]? = some x) : Ml (M.set x.c (.lst [.ref x.r, .bl false])) m (R'.set p ⟨x.c, x.r, x.row, false⟩) n := by
  obtain ⟨m1, m2, m3⟩ := h.mc p x hp
  exact h.put hp x.row false (fun hb => by cases hb) (h.rowl p x hp) (Nat.le_refl _) (List.getElem?_set_self (lt_of_get (h.cl p x hp))) (by rw [List.getElem?_set_ne m3]; exact h.rw_ p x hp) (fun j j1 j2 => by rw [List.getElem?_set_ne (Ne.symm j1)])
/-! ### in a list of exact data -/
open Classical in
theorem any_ex : ∀ {l : List D} {ps : List PyData} {a : D} {p : PyData}, exL l = true → exD a = true → pyL l = some ps → pyD a = some p → (ps.any fun z => PyData.eqv z p) = decide (a ∈ l)
  | [], ps, a, p, _, _, h, _ => by cases h; simp
  | d :: r, ps, a, p, hl, ha, h, hp => by
    simp only [exL, Bool.and_eq_true] at hl
    simp only [pyL] at h
    split at h
    · rename_i x xs k1 k2
      cases h
      have h1 := eqv_ex d a x p hl.1 ha k1 hp
      have h2 := any_ex (a := a) (p := p) hl.2 ha k2 hp
      rw [List.any_cons, h2, Bool.eq_iff_iff]
      simp only [Bool.or_eq_true, decide_eq_true_eq, h1, List.mem_cons]
      constructor
      · rintro (h | h)
        · exact .inl h.symm
        · exact .inr h
      · rintro (h | h)
        · exact .inl h.symm
        · exact .inr h
    · cases h
open Classical in
theorem oInD_cell {neg : Bool} {a : D} {b : Nat} {l : List D} {M : Mem} (hb : M[b]? = some (.lst l)) (hl : exL l = true) (ha : exD a = true) (hd : dpD a ≤ 60) : oInD neg a (.ref b) M = .ok (.bl (neg != decide (a ∈ l))) M := by
  obtain ⟨p, p1, p2⟩ := ex_py a ha
  obtain ⟨ps, q1, q2⟩ := ex_pyL l hl
  have k1 : pyM M a = some p := pyGo_of p1
  have k2 : pyM M (.ref b) = some (.list ps) := by
    show kN M 4 b = _
    simp only [kN, hb, pyGoL_of q1, Option.map_some]
  simp only [oInD, k1, k2]
  rw [if_pos (by omega), any_ex hl ha q1 p1]
  cases neg <;> simp
/-! ### the model's put -/
theorem thD_inj {x y : Th} (h : thD x = thD y) : x = y := by
  unfold thD at h
  injection h with h
  injection h with h1 h2
  injection h1 with h1
  injection h2 with h2 _
  injection h2 with h2
  exact Prod.ext h1 h2
theorem exL_th (l : List Th) : exL (l.map thD) = true := exL_iff.mpr fun d hd => by obtain ⟨x, _, rfl⟩ := List.mem_map.mp hd; rfl
theorem oInD_row {M : Mem} {r : Nat} {row : List Th} {y : Th} (h : M[r]? = some (.lst (row.map thD))) : oInD false (thD y) (.ref r) M = .ok (.bl (decide (y ∈ row))) M := by
  rw [oInD_cell (neg := false) (a := thD y) h (exL_th row) rfl (show (1 : Nat) ≤ 60 by omega)]
  by_cases c : y ∈ row
  · have h2 : thD y ∈ row.map thD := List.mem_map.mpr ⟨y, c, rfl⟩
    rw [decide_eq_true c, @decide_eq_true _ (_) h2]; rfl
  · have h2 : ¬ thD y ∈ row.map thD := fun z => by obtain ⟨x, hx, e⟩ := List.mem_map.mp z; rw [thD_inj e] at hx; exact c hx
    rw [decide_eq_false c, @decide_eq_false _ (_) h2]; rfl
noncomputable def putOld : FS := (mIfS (bOf (mOp oGt (mCall oLen (aCons (mLc false [2, 3] (iSq (mVar 0)) (gTA 2 (gsCons (gN 2) (gsCons (gN 3) gsNil))) T_law_model_put_0 C_law_model_put_1) aNil)) (mC (.int 0)))) (mRet (mC .non)) mPass)
noncomputable def putFree : FS := (mSet 4 (mLc false [5] (iR1 (aCons (mCall oLen (aCons (mVar 0) aNil)) aNil)) (gN 5) T_law_model_put_2 C_law_model_put_3))
noncomputable def putGrow : FS := (mIfS (bOf (mOp (oEq false) (mCall oLen (aCons (mVar 4) aNil)) (mC (.int 0)))) (mSeq (mSet 4 (mLst false (aCons (mCall oLen (aCons (mVar 0) aNil)) aNil))) (mExpr (mMeth "list" oAppend (mVar 0) (aCons (mLst true (aCons (mLst true aNil) (aCons (mC (.bl false)) aNil))) aNil)))) mPass)
noncomputable def putRest : FS := (mSeq (mExpr (mMeth "list" oAppend (mOp oIx (mOp oIx (mVar 0) (mOp oIx (mVar 4) (mC (.int 0)))) (mC (.int 0))) (aCons (mVar 1) aNil))) (mSeq (mAsg (mC (.bl true)) (gIx (mOp oIx (mVar 0) (mOp oIx (mVar 4) (mC (.int 0)))) (mC (.int 1)))) (mRet (mTup (aCons (mOp oIx (mVar 4) (mC (.int 0))) (aCons (mOp oSub (mCall oLen (aCons (mOp oIx (mOp oIx (mVar 0) (mOp oIx (mVar 4) (mC (.int 0)))) (mC (.int 0))) aNil)) (mC (.int 1))) aNil))))))
theorem put_is : B_law_model_put = mSeq putOld (mSeq putFree (mSeq putGrow putRest)) := rfl
theorem putOld_eq {M : Mem} {m n : Nat} {R' : List Rw} (h : Ml M m R' n) (hn : n < 100000) (y : Th) : putOld [some (.ref m), some (thD y), none, none, none, none] M = if (∃ x ∈ R', y ∈ x.row) then .ok (.rt .non) M else .ok (.nx [some (.ref m), some (thD y), none, none, none, none]) M := by
  have hsr : srcOf M (.ref m) = some ⟨R'.map fun x => .ref x.c, fun M' => M'[m]? = some (.lst (R'.map fun x => .ref x.c))⟩ := by rw [srcOf_refM, h.top]
  have c := compL_fm (P := fun M' : Mem => M'[m]? = some (.lst (R'.map fun x => D.ref x.c))) (M := M) h.top (g := gTA 2 (gsCons (gN 2) (gsCons (gN 3) gsNil))) (t := T_law_model_put_0) (f := C_law_model_put_1) (env := [some (.ref m), some (thD y), none, none, none, none]) (fun x : Rw => .ref x.c) (fun x => decide (y ∈ x.row)) (fun x => .ref x.r) R' fun x hx => by
    obtain ⟨k, hk⟩ := List.getElem?_of_mem hx
    have c1 := h.cl _ _ hk
    have i1 := oInD_row (y := y) (h.rw_ _ _ hk)
    refine ⟨[some (.ref m), some (thD y), some (.ref x.r), some (.bl x.b), none, none], ?_, ?_, fun _ => ?_⟩
    · simp -implicitDefEqProofs only [mSeq_eq, mIfS_eq, mSet_eq, mRet_eq, mRetN_eq, mExpr_eq, mPass_eq, mAsg_eq, mPar_eq, mAug_eq, bOf_eq, tOf_eq, tAndM_eq, tOrM_eq, tNotM_eq, tsYes_eq, mOp_eq, mUn_eq, mVar_eq, mC_eq, mCall_eq, mFun_eq, mFunKw_eq, mMeth_eq, mAnd_eq, mOr_eq, mNot_eq, mIf_eq, mChain_eq, mSl_eq, pNone_eq, pSome_eq, aCons_eq, aNil_eq, mTup_eq, mLst_eq, gN_eq, gT_eq, gsNil_eq, gsCons_eq, mkL_t, mkL_f, R.bind_ok, R.bind_no, R.nox_ok, List.getElem?_cons_zero, List.getElem?_cons_succ, List.set_cons_zero, List.set_cons_succ, List.length_cons, List.length_nil, List.append_nil, List.nil_append, List.cons_append, piApp_on, oLen_fz, oLen_lst, oLen_tup, oLt_int, oLe_int, oGt_int, oGe_int, oAdd_int, oSub_int, oIx_fz, oIx_lst, oIx_tup, oMax_int, oMin_int, oInt_bl, oInt_int, oIsi_bl, oNeg_int, oTuple_lst, oTuple_tup, iR1_eq, iR2_eq, iSq_eq, iStrM_eq, srcOf_tup, srcOf_lst, srcOf_fz, if_true, if_false, Bool.false_eq_true, Bool.true_eq_false, reduceIte, Nat.reduceAdd, Nat.reduceLeDiff, Nat.reduceEqDiff, decide_true, decide_false, and_self, and_true, true_and, gTA_ref c1]
    · unfold T_law_model_put_0
      simp -implicitDefEqProofs only [mSeq_eq, mIfS_eq, mSet_eq, mRet_eq, mRetN_eq, mExpr_eq, mPass_eq, mAsg_eq, mPar_eq, mAug_eq, bOf_eq, tOf_eq, tAndM_eq, tOrM_eq, tNotM_eq, tsYes_eq, mOp_eq, mUn_eq, mVar_eq, mC_eq, mCall_eq, mFun_eq, mFunKw_eq, mMeth_eq, mAnd_eq, mOr_eq, mNot_eq, mIf_eq, mChain_eq, mSl_eq, pNone_eq, pSome_eq, aCons_eq, aNil_eq, mTup_eq, mLst_eq, gN_eq, gT_eq, gsNil_eq, gsCons_eq, mkL_t, mkL_f, R.bind_ok, R.bind_no, R.nox_ok, List.getElem?_cons_zero, List.getElem?_cons_succ, List.set_cons_zero, List.set_cons_succ, List.length_cons, List.length_nil, List.append_nil, List.nil_append, List.cons_append, piApp_on, oLen_fz, oLen_lst, oLen_tup, oLt_int, oLe_int, oGt_int, oGe_int, oAdd_int, oSub_int, oIx_fz, oIx_lst, oIx_tup, oMax_int, oMin_int, oInt_bl, oInt_int, oIsi_bl, oNeg_int, oTuple_lst, oTuple_tup, iR1_eq, iR2_eq, iSq_eq, iStrM_eq, srcOf_tup, srcOf_lst, srcOf_fz, if_true, if_false, Bool.false_eq_true, Bool.true_eq_false, reduceIte, Nat.reduceAdd, Nat.reduceLeDiff, Nat.reduceEqDiff, decide_true, decide_false, and_self, and_true, true_and, i1]
    · rfl
  have ll : (R'.map fun x => D.ref x.c).length < 16777216 := by have := h.few; rw [List.length_map]; omega
  have wp : wipeE [some (.ref m), some (thD y), none, none, none, none] [2, 3] = [some (.ref m), some (thD y), none, none, none, none] := rfl
  by_cases hy : ∃ x ∈ R', y ∈ x.row
  · rw [if_pos hy]
    obtain ⟨x, hx, hxy⟩ := hy
    have hp : 0 < (R'.filter fun x => decide (y ∈ x.row)).length := List.length_pos_of_mem (List.mem_filter.mpr ⟨hx, decide_eq_true hxy⟩)
    have z : decide (((0 : Int)) < (((R'.filter fun x => decide (y ∈ x.row)).map fun x => D.ref x.r).length : Int)) = true := by rw [List.length_map]; exact decide_eq_true (by omega)
    unfold putOld
    simp -implicitDefEqProofs only [mSeq_eq, mIfS_eq, mSet_eq, mRet_eq, mRetN_eq, mExpr_eq, mPass_eq, mAsg_eq, mPar_eq, mAug_eq, bOf_eq, tOf_eq, tAndM_eq, tOrM_eq, tNotM_eq, tsYes_eq, mOp_eq, mUn_eq, mVar_eq, mC_eq, mCall_eq, mFun_eq, mFunKw_eq, mMeth_eq, mAnd_eq, mOr_eq, mNot_eq, mIf_eq, mChain_eq, mSl_eq, pNone_eq, pSome_eq, aCons_eq, aNil_eq, mTup_eq, mLst_eq, gN_eq, gT_eq, gsNil_eq, gsCons_eq, mkL_t, mkL_f, R.bind_ok, R.bind_no, R.nox_ok, List.getElem?_cons_zero, List.getElem?_cons_succ, List.set_cons_zero, List.set_cons_succ, List.length_cons, List.length_nil, List.append_nil, List.nil_append, List.cons_append, piApp_on, oLen_fz, oLen_lst, oLen_tup, oLt_int, oLe_int, oGt_int, oGe_int, oAdd_int, oSub_int, oIx_fz, oIx_lst, oIx_tup, oMax_int, oMin_int, oInt_bl, oInt_int, oIsi_bl, oNeg_int, oTuple_lst, oTuple_tup, iR1_eq, iR2_eq, iSq_eq, iStrM_eq, srcOf_tup, srcOf_lst, srcOf_fz, if_true, if_false, Bool.false_eq_true, Bool.true_eq_false, reduceIte, Nat.reduceAdd, Nat.reduceLeDiff, Nat.reduceEqDiff, decide_true, decide_false, and_self, and_true, true_and, mLc_eq, hsr, ll, wp, c, z]
  · rw [if_neg hy]
    have hp : (R'.filter fun x => decide (y ∈ x.row)) = [] := List.filter_eq_nil_iff.mpr fun x hx z => hy ⟨x, hx, of_decide_eq_true z⟩
    rw [hp] at c
    have z : decide (((0 : Int)) < ((([] : List Rw).map fun x => D.ref x.r).length : Int)) = false := rfl
    unfold putOld
    simp -implicitDefEqProofs only [mSeq_eq, mIfS_eq, mSet_eq, mRet_eq, mRetN_eq, mExpr_eq, mPass_eq, mAsg_eq, mPar_eq, mAug_eq, bOf_eq, tOf_eq, tAndM_eq, tOrM_eq, tNotM_eq, tsYes_eq, mOp_eq, mUn_eq, mVar_eq, mC_eq, mCall_eq, mFun_eq, mFunKw_eq, mMeth_eq, mAnd_eq, mOr_eq, mNot_eq, mIf_eq, mChain_eq, mSl_eq, pNone_eq, pSome_eq, aCons_eq, aNil_eq, mTup_eq, mLst_eq, gN_eq, gT_eq, gsNil_eq, gsCons_eq, mkL_t, mkL_f, R.bind_ok, R.bind_no, R.nox_ok, List.getElem?_cons_zero, List.getElem?_cons_succ, List.set_cons_zero, List.set_cons_succ, List.length_cons, List.length_nil, List.append_nil, List.nil_append, List.cons_append, piApp_on, oLen_fz, oLen_lst, oLen_tup, oLt_int, oLe_int, oGt_int, oGe_int, oAdd_int, oSub_int, oIx_fz, oIx_lst, oIx_tup, oMax_int, oMin_int, oInt_bl, oInt_int, oIsi_bl, oNeg_int, oTuple_lst, oTuple_tup, iR1_eq, iR2_eq, iSq_eq, iStrM_eq, srcOf_tup, srcOf_lst, srcOf_fz, if_true, if_false, Bool.false_eq_true, Bool.true_eq_false, reduceIte, Nat.reduceAdd, Nat.reduceLeDiff, Nat.reduceEqDiff, decide_true, decide_false, and_self, and_true, true_and, mLc_eq, hsr, ll, wp, c, z]
def bAt (R' : List Rw) (k : Nat) : Bool := match R'[k]? with | some x => x.b | none => false
def frees (R' : List Rw) : List Nat := (List.range R'.length).filter fun k => !bAt R' k
theorem putFree_eq {M : Mem} {m n : Nat} {R' : List Rw} (h : Ml M m R' n) (hn : n < 100000) (y : Th) : putFree [some (.ref m), some (thD y), none, none, none, none] M = .ok (.nx [some (.ref m), some (thD y), none, none, some (.lst ((frees R').map fun k : Nat => .int (0 + (k : Int)))), none]) M := by
  have c := compL_fm (P := fun _ : Mem => True) (M := M) trivial (g := gN 5) (t := T_law_model_put_2) (f := C_law_model_put_3) (env := [some (.ref m), some (thD y), none, none, none, none]) (fun k : Nat => .int (0 + (k : Int))) (fun k => !bAt R' k) (fun k : Nat => .int (0 + (k : Int))) (List.range R'.length) fun k hk => by
    have hk := List.mem_range.mp hk
    have hx : R'[k]? = some R'[k] := List.getElem?_eq_getElem hk
    obtain ⟨x, hxx⟩ : ∃ x, R'[k] = x := ⟨_, rfl⟩
    rw [hxx] at hx
    have i1 := mix_eq h hx
    have c1 := h.cl k x hx
    have i2 : oIx (.ref x.c) (.int 1) M = .ok (.bl x.b) M := by rw [oIx_ref c1, at21]
    have tb : ∀ m, truD m (.bl x.b) = some x.b := fun m => rfl
    have hb : bAt R' k = x.b := by unfold bAt; rw [hx]
    refine ⟨[some (.ref m), some (thD y), none, none, none, some (.int (0 + (k : Int)))], rfl, ?_, fun _ => rfl⟩
    rw [show (0 + (k : Int)) = (k : Int) by omega, hb]
    unfold T_law_model_put_2
    simp -implicitDefEqProofs only [mSeq_eq, mIfS_eq, mSet_eq, mRet_eq, mRetN_eq, mExpr_eq, mPass_eq, mAsg_eq, mPar_eq, mAug_eq, bOf_eq, tOf_eq, tAndM_eq, tOrM_eq, tNotM_eq, tsYes_eq, mOp_eq, mUn_eq, mVar_eq, mC_eq, mCall_eq, mFun_eq, mFunKw_eq, mMeth_eq, mAnd_eq, mOr_eq, mNot_eq, mIf_eq, mChain_eq, mSl_eq, pNone_eq, pSome_eq, aCons_eq, aNil_eq, mTup_eq, mLst_eq, gN_eq, gT_eq, gsNil_eq, gsCons_eq, mkL_t, mkL_f, R.bind_ok, R.bind_no, R.nox_ok, List.getElem?_cons_zero, List.getElem?_cons_succ, List.set_cons_zero, List.set_cons_succ, List.length_cons, List.length_nil, List.append_nil, List.nil_append, List.cons_append, piApp_on, oLen_fz, oLen_lst, oLen_tup, oLt_int, oLe_int, oGt_int, oGe_int, oAdd_int, oSub_int, oIx_fz, oIx_lst, oIx_tup, oMax_int, oMin_int, oInt_bl, oInt_int, oIsi_bl, oNeg_int, oTuple_lst, oTuple_tup, iR1_eq, iR2_eq, iSq_eq, iStrM_eq, srcOf_tup, srcOf_lst, srcOf_fz, if_true, if_false, Bool.false_eq_true, Bool.true_eq_false, reduceIte, Nat.reduceAdd, Nat.reduceLeDiff, Nat.reduceEqDiff, decide_true, decide_false, and_self, and_true, true_and, i1, i2, tb]
  have lm := oLen_ref h.top
  rw [List.length_map] at lm
  have hf := h.few
  have ro : rngOk (R'.length : Int) = true := rngOk_of (by omega) (by omega)
  have tn : (R'.length : Int).toNat = R'.length := by omega
  have ll : (rngItems 0 R'.length).length < 16777216 := by rw [rngItems_len]; omega
  have wp : wipeE [some (.ref m), some (thD y), none, none, none, none] [5] = [some (.ref m), some (thD y), none, none, none, none] := rfl
  have c' : compL (fun _ => True) (gN 5) T_law_model_put_2 C_law_model_put_3 [some (.ref m), some (thD y), none, none, none, none] (rngItems 0 R'.length) M = .ok ((frees R').map fun k : Nat => .int (0 + (k : Int))) M := c
  unfold putFree
  simp -implicitDefEqProofs only [mSeq_eq, mIfS_eq, mSet_eq, mRet_eq, mRetN_eq, mExpr_eq, mPass_eq, mAsg_eq, mPar_eq, mAug_eq, bOf_eq, tOf_eq, tAndM_eq, tOrM_eq, tNotM_eq, tsYes_eq, mOp_eq, mUn_eq, mVar_eq, mC_eq, mCall_eq, mFun_eq, mFunKw_eq, mMeth_eq, mAnd_eq, mOr_eq, mNot_eq, mIf_eq, mChain_eq, mSl_eq, pNone_eq, pSome_eq, aCons_eq, aNil_eq, mTup_eq, mLst_eq, gN_eq, gT_eq, gsNil_eq, gsCons_eq, mkL_t, mkL_f, R.bind_ok, R.bind_no, R.nox_ok, List.getElem?_cons_zero, List.getElem?_cons_succ, List.set_cons_zero, List.set_cons_succ, List.length_cons, List.length_nil, List.append_nil, List.nil_append, List.cons_append, piApp_on, oLen_fz, oLen_lst, oLen_tup, oLt_int, oLe_int, oGt_int, oGe_int, oAdd_int, oSub_int, oIx_fz, oIx_lst, oIx_tup, oMax_int, oMin_int, oInt_bl, oInt_int, oIsi_bl, oNeg_int, oTuple_lst, oTuple_tup, iR1_eq, iR2_eq, iSq_eq, iStrM_eq, srcOf_tup, srcOf_lst, srcOf_fz, if_true, if_false, Bool.false_eq_true, Bool.true_eq_false, reduceIte, Nat.reduceAdd, Nat.reduceLeDiff, Nat.reduceEqDiff, decide_true, decide_false, and_self, and_true, true_and, mLc_eq, lm, ro, tn, ll, wp, c']
theorem putRest_eq {M : Mem} {m n f : Nat} {R' : List Rw} {x : Rw} (h : Ml M m R' n) (hn : n < 100000) (hf : R'[f]? = some x) (hb : x.b = false) (y : Th) (l : List D) (x2 x3 x5 : Option D) :
    ∃ M', putRest [some (.ref m), some (thD y), x2, x3, some (.lst (.int f :: l)), x5] M = .ok (.rt (.tup [.int f, .int x.row.length])) M' ∧ Ml M' m (R'.set f ⟨x.c, x.r, x.row ++ [y], true⟩) (n + 1) ∧ M'.length = M.length ∧ ∀ j, j ≠ x.c → j ≠ x.r → M'[j]? = M[j]? := by
  obtain ⟨m1, m2, m3⟩ := h.mc f x hf
  have c1 := h.cl f x hf
  have r1 := h.rw_ f x hf
  have rl := h.rowl f x hf
  have lc := lt_of_get c1
  have lr := lt_of_get r1
  rw [hb] at c1
  have ia : ∀ M, oIx (.lst (.int f :: l)) (.int 0) M = .ok (.int f) M := fun M => by
    rw [oIx_lst, show (0 : Int) = ((0 : Nat) : Int) from rfl, atI_nat (v := D.int f) rfl]
  have i1 := mix_eq h hf
  have i2 : oIx (.ref x.c) (.int 0) M = .ok (.ref x.r) M := by rw [oIx_ref c1, at20]
  have ap := oAppend_at (d := thD y) r1 (by rw [List.length_map]; omega)
  have ae : (x.row.map thD) ++ [thD y] = (x.row ++ [y]).map thD := by rw [List.map_append]; rfl
  rw [ae] at ap
  obtain ⟨M1, hM1⟩ : ∃ M1, M.set x.r (.lst ((x.row ++ [y]).map thD)) = M1 := ⟨_, rfl⟩
  rw [hM1] at ap
  have g1 : ∀ j, j ≠ x.r → M1[j]? = M[j]? := fun j hj => by rw [← hM1, List.getElem?_set_ne (Ne.symm hj)]
  have r2 : M1[x.r]? = some (.lst ((x.row ++ [y]).map thD)) := by rw [← hM1]; exact List.getElem?_set_self lr
  have c2 : M1[x.c]? = some (.lst [.ref x.r, .bl false]) := by rw [g1 _ m3]; exact c1
  have t2 : M1[m]? = some (.lst (R'.map fun x => .ref x.c)) := by rw [g1 _ (Ne.symm m2)]; exact h.top
  have j1 : oIx (.ref m) (.int (f : Int)) M1 = .ok (.ref x.c) M1 := by
    rw [oIx_ref t2, atI_nat (v := D.ref x.c) (by rw [List.getElem?_map, hf]; rfl)]
  obtain ⟨M2, hM2⟩ : ∃ M2, M1.set x.c (.lst [.ref x.r, .bl true]) = M2 := ⟨_, rfl⟩
  have l1 : M1.length = M.length := by rw [← hM1, List.length_set]
  have g2 : ∀ j, j ≠ x.c → M2[j]? = M1[j]? := fun j hj => by rw [← hM2, List.getElem?_set_ne (Ne.symm hj)]
  have c3 : M2[x.c]? = some (.lst [.ref x.r, .bl true]) := by rw [← hM2]; exact List.getElem?_set_self (by rw [l1]; exact lc)
  have r3 : M2[x.r]? = some (.lst ((x.row ++ [y]).map thD)) := by rw [g2 _ (Ne.symm m3)]; exact r2
  have t3 : M2[m]? = some (.lst (R'.map fun x => .ref x.c)) := by rw [g2 _ (Ne.symm m1)]; exact t2
  have k1 : oIx (.ref m) (.int (f : Int)) M2 = .ok (.ref x.c) M2 := by
    rw [oIx_ref t3, atI_nat (v := D.ref x.c) (by rw [List.getElem?_map, hf]; rfl)]
  have k2 : oIx (.ref x.c) (.int 0) M2 = .ok (.ref x.r) M2 := by rw [oIx_ref c3, at20]
  have k3 := oLen_ref r3
  have ln : (((x.row ++ [y]).map thD).length : Int) - 1 = (x.row.length : Int) := by rw [List.length_map, List.length_append, List.length_singleton]; omega
  have sm : ∀ j, j ≠ x.c → j ≠ x.r → M2[j]? = M[j]? := fun j a b => (g2 j a).trans (g1 j b)
  refine ⟨M2, ?_, h.put hf (x.row ++ [y]) true (fun _ => by simp) (by rw [List.length_append, List.length_singleton]; omega) (by omega) c3 r3 sm, by rw [← hM2, List.length_set, l1], sm⟩
  unfold putRest
  simp -implicitDefEqProofs only [mSeq_eq, mIfS_eq, mSet_eq, mRet_eq, mRetN_eq, mExpr_eq, mPass_eq, mAsg_eq, mPar_eq, mAug_eq, bOf_eq, tOf_eq, tAndM_eq, tOrM_eq, tNotM_eq, tsYes_eq, mOp_eq, mUn_eq, mVar_eq, mC_eq, mCall_eq, mFun_eq, mFunKw_eq, mMeth_eq, mAnd_eq, mOr_eq, mNot_eq, mIf_eq, mChain_eq, mSl_eq, pNone_eq, pSome_eq, aCons_eq, aNil_eq, mTup_eq, mLst_eq, gN_eq, gT_eq, gsNil_eq, gsCons_eq, mkL_t, mkL_f, R.bind_ok, R.bind_no, R.nox_ok, List.getElem?_cons_zero, List.getElem?_cons_succ, List.set_cons_zero, List.set_cons_succ, List.length_cons, List.length_nil, List.append_nil, List.nil_append, List.cons_append, piApp_on, oLen_fz, oLen_lst, oLen_tup, oLt_int, oLe_int, oGt_int, oGe_int, oAdd_int, oSub_int, oIx_fz, oIx_lst, oIx_tup, oMax_int, oMin_int, oInt_bl, oInt_int, oIsi_bl, oNeg_int, oTuple_lst, oTuple_tup, iR1_eq, iR2_eq, iSq_eq, iStrM_eq, srcOf_tup, srcOf_lst, srcOf_fz, if_true, if_false, Bool.false_eq_true, Bool.true_eq_false, reduceIte, Nat.reduceAdd, Nat.reduceLeDiff, Nat.reduceEqDiff, decide_true, decide_false, and_self, and_true, true_and, ia, i1, i2, tyOk_at r1, ap, gIx_eq, j1, c2, ix21, hM2, k1, k2, k3, ln]
theorem frees_nil {R' : List Rw} (h : frees R' = []) (q : Nat) (hq : q < R'.length) : ∃ z, R'[q]? = some z ∧ z.b = true := by
  have := List.filter_eq_nil_iff.mp h q (List.mem_range.mpr hq)
  unfold bAt at this
  rw [List.getElem?_eq_getElem hq] at this
  simp only [Bool.not_eq_true', Bool.not_eq_false] at this
  exact ⟨_, List.getElem?_eq_getElem hq, this⟩
theorem frees_cons {R' : List Rw} {f : Nat} {l : List Nat} (h : frees R' = f :: l) : (∃ x, R'[f]? = some x ∧ x.b = false) ∧ ∀ q, q < f → ∃ z, R'[q]? = some z ∧ z.b = true := by
  have hm : f ∈ frees R' := by rw [h]; exact List.mem_cons_self ..
  unfold frees at hm
  obtain ⟨h1, h2⟩ := List.mem_filter.mp hm
  have h1 := List.mem_range.mp h1
  have pw : (frees R').Pairwise (· < ·) := List.Pairwise.sublist List.filter_sublist List.pairwise_lt_range
  rw [h] at pw
  refine ⟨⟨_, List.getElem?_eq_getElem h1, ?_⟩, fun q hq => ⟨_, List.getElem?_eq_getElem (by omega), ?_⟩⟩
  · unfold bAt at h2
    rw [List.getElem?_eq_getElem h1] at h2
    simpa using h2
  · cases hb : (R'[q]'(by omega)).b with
    | true => rfl
    | false =>
      have : q ∈ frees R' := List.mem_filter.mpr ⟨List.mem_range.mpr (by omega), by unfold bAt; rw [List.getElem?_eq_getElem (show q < R'.length by omega)]; simp [hb]⟩
      rw [h] at this
      rcases List.mem_cons.mp this with z | z
      · omega
      · have := (List.pairwise_cons.mp pw).1 q z; omega
/-- the model, grown by a place if none is free -/
def Up (R' R1 : List Rw) (f N : Nat) : Prop := (R1 = R' ∧ f < R'.length) ∨ (f = R'.length ∧ ∃ c r, N ≤ c ∧ N ≤ r ∧ R1 = R' ++ [⟨c, r, [], false⟩])
theorem mput_old {M : Mem} {m n : Nat} {R' : List Rw} (h : Ml M m R' n) (hn : n < 100000) (y : Th) (hy : ∃ x ∈ R', y ∈ x.row) : g_law_model_put [.ref m, thD y] M = .ok .non M := by
  have e := putOld_eq h hn y
  rw [if_pos hy] at e
  refine runB_rt (N := 6) (?_ : B_law_model_put [some (.ref m), some (thD y), none, none, none, none] M = _)
  rw [put_is]
  simp -implicitDefEqProofs only [mSeq_eq, mIfS_eq, mSet_eq, mRet_eq, mRetN_eq, mExpr_eq, mPass_eq, mAsg_eq, mPar_eq, mAug_eq, bOf_eq, tOf_eq, tAndM_eq, tOrM_eq, tNotM_eq, tsYes_eq, mOp_eq, mUn_eq, mVar_eq, mC_eq, mCall_eq, mFun_eq, mFunKw_eq, mMeth_eq, mAnd_eq, mOr_eq, mNot_eq, mIf_eq, mChain_eq, mSl_eq, pNone_eq, pSome_eq, aCons_eq, aNil_eq, mTup_eq, mLst_eq, gN_eq, gT_eq, gsNil_eq, gsCons_eq, mkL_t, mkL_f, R.bind_ok, R.bind_no, R.nox_ok, List.getElem?_cons_zero, List.getElem?_cons_succ, List.set_cons_zero, List.set_cons_succ, List.length_cons, List.length_nil, List.append_nil, List.nil_append, List.cons_append, piApp_on, oLen_fz, oLen_lst, oLen_tup, oLt_int, oLe_int, oGt_int, oGe_int, oAdd_int, oSub_int, oIx_fz, oIx_lst, oIx_tup, oMax_int, oMin_int, oInt_bl, oInt_int, oIsi_bl, oNeg_int, oTuple_lst, oTuple_tup, iR1_eq, iR2_eq, iSq_eq, iStrM_eq, srcOf_tup, srcOf_lst, srcOf_fz, if_true, if_false, Bool.false_eq_true, Bool.true_eq_false, reduceIte, Nat.reduceAdd, Nat.reduceLeDiff, Nat.reduceEqDiff, decide_true, decide_false, and_self, and_true, true_and, e]
theorem mput_new {M : Mem} {m n : Nat} {R' : List Rw} (h : Ml M m R' n) (hn : n < 99990) (y : Th) (hy : ¬ ∃ x ∈ R', y ∈ x.row) :
    ∃ f x R1 M', Up R' R1 f M.length ∧ R1[f]? = some x ∧ x.b = false ∧ (∀ q, q < f → ∃ z, R'[q]? = some z ∧ z.b = true) ∧ g_law_model_put [.ref m, thD y] M = .ok (.tup [.int f, .int x.row.length]) M' ∧ Ml M' m (R1.set f ⟨x.c, x.r, x.row ++ [y], true⟩) (n + 2) ∧ M.length ≤ M'.length ∧ ∀ j, j < M.length → j ≠ m → (∀ z ∈ R', j ≠ z.c ∧ j ≠ z.r) → M'[j]? = M[j]? := by
  have e := putOld_eq h (by omega) y
  rw [if_neg hy] at e
  have e2 := putFree_eq h (by omega) y
  have hfew := h.few
  have hB : ∀ {d : D} {M' : Mem}, B_law_model_put [some (.ref m), some (thD y), none, none, none, none] M = .ok (.rt d) M' → g_law_model_put [.ref m, thD y] M = .ok d M' := fun h => runB_rt (N := 6) h
  cases hfr : frees R' with
  | nil =>
    rw [hfr] at e2
    have lm := oLen_ref h.top
    rw [List.length_map] at lm
    have hl : (R'.map fun x => D.ref x.c).length < 16777216 := by rw [List.length_map]; omega
    have z0 : (((((([] : List Nat).map fun k : Nat => D.int (0 + (k : Int))).length : Nat) : Int)) == 0) = true := rfl
    have lt := h.lts.1
    have t1 : (M ++ [Cell.lst [], .lst [.ref M.length, .bl false]])[m]? = some (.lst (R'.map fun x => .ref x.c)) := by rw [List.getElem?_append_left lt]; exact h.top
    have ap := oAppend_at (d := .ref (M.length + 1)) t1 hl
    obtain ⟨M1, hM1⟩ : ∃ M1, (M ++ [Cell.lst [], .lst [.ref M.length, .bl false]]).set m (.lst ((R'.map fun x => D.ref x.c) ++ [.ref (M.length + 1)])) = M1 := ⟨_, rfl⟩
    rw [hM1] at ap
    have len1 : M1.length = M.length + 2 := by rw [← hM1, List.length_set, List.length_append]; rfl
    have same : ∀ j, j < M.length → j ≠ m → M1[j]? = M[j]? := fun j hj hm => by rw [← hM1, List.getElem?_set_ne (Ne.symm hm), List.getElem?_append_left hj]
    have q1 : M1[M.length + 1]? = some (.lst [.ref M.length, .bl false]) := by
      rw [← hM1, List.getElem?_set_ne (by omega), List.getElem?_append_right (by omega), show M.length + 1 - M.length = 1 by omega]; rfl
    have q2 : M1[M.length]? = some (.lst []) := by
      rw [← hM1, List.getElem?_set_ne (by omega), List.getElem?_append_right (by omega), show M.length - M.length = 0 by omega]; rfl
    have q0 : M1[m]? = some (.lst ((R'.map fun x => D.ref x.c) ++ [.ref (M.length + 1)])) := by
      rw [← hM1]; exact List.getElem?_set_self (by rw [List.length_append]; omega)
    have h1 : Ml M1 m (R' ++ [⟨M.length + 1, M.length, [], false⟩]) (n + 1) := h.app (by omega) (by omega) (M.length + 1) M.length (by omega) (by omega) (by omega) q1 q2 q0 same
    have hx : (R' ++ [(⟨M.length + 1, M.length, [], false⟩ : Rw)])[R'.length]? = some ⟨M.length + 1, M.length, [], false⟩ := by
      rw [List.getElem?_append_right (Nat.le_refl _), Nat.sub_self]; rfl
    obtain ⟨M', e3, h2, l2, s2⟩ := putRest_eq h1 (by omega) hx rfl y [] none none none
    refine ⟨R'.length, ⟨M.length + 1, M.length, [], false⟩, R' ++ [⟨M.length + 1, M.length, [], false⟩], M', .inr ⟨rfl, M.length + 1, M.length, by omega, by omega, rfl⟩, hx, rfl, fun q hq => frees_nil hfr q hq, hB ?_, h2, by omega, fun j hj hjm _ => ?_⟩
    · have e4 : putGrow [some (.ref m), some (thD y), none, none, some (.lst (([] : List Nat).map fun k : Nat => .int (0 + (k : Int)))), none] M = .ok (.nx [some (.ref m), some (thD y), none, none, some (.lst [.int R'.length]), none]) M1 := by
        unfold putGrow
        simp -implicitDefEqProofs only [mSeq_eq, mIfS_eq, mSet_eq, mRet_eq, mRetN_eq, mExpr_eq, mPass_eq, mAsg_eq, mPar_eq, mAug_eq, bOf_eq, tOf_eq, tAndM_eq, tOrM_eq, tNotM_eq, tsYes_eq, mOp_eq, mUn_eq, mVar_eq, mC_eq, mCall_eq, mFun_eq, mFunKw_eq, mMeth_eq, mAnd_eq, mOr_eq, mNot_eq, mIf_eq, mChain_eq, mSl_eq, pNone_eq, pSome_eq, aCons_eq, aNil_eq, mTup_eq, mLst_eq, gN_eq, gT_eq, gsNil_eq, gsCons_eq, mkL_t, mkL_f, R.bind_ok, R.bind_no, R.nox_ok, List.getElem?_cons_zero, List.getElem?_cons_succ, List.set_cons_zero, List.set_cons_succ, List.length_cons, List.length_nil, List.append_nil, List.nil_append, List.cons_append, piApp_on, oLen_fz, oLen_lst, oLen_tup, oLt_int, oLe_int, oGt_int, oGe_int, oAdd_int, oSub_int, oIx_fz, oIx_lst, oIx_tup, oMax_int, oMin_int, oInt_bl, oInt_int, oIsi_bl, oNeg_int, oTuple_lst, oTuple_tup, iR1_eq, iR2_eq, iSq_eq, iStrM_eq, srcOf_tup, srcOf_lst, srcOf_fz, if_true, if_false, Bool.false_eq_true, Bool.true_eq_false, reduceIte, Nat.reduceAdd, Nat.reduceLeDiff, Nat.reduceEqDiff, decide_true, decide_false, and_self, and_true, true_and, z0, oEq_int, lm, tyOk_at h.top, List.append_assoc, List.length_append]
        rw [ap]
        rfl
      rw [put_is]
      simp -implicitDefEqProofs only [mSeq_eq, mIfS_eq, mSet_eq, mRet_eq, mRetN_eq, mExpr_eq, mPass_eq, mAsg_eq, mPar_eq, mAug_eq, bOf_eq, tOf_eq, tAndM_eq, tOrM_eq, tNotM_eq, tsYes_eq, mOp_eq, mUn_eq, mVar_eq, mC_eq, mCall_eq, mFun_eq, mFunKw_eq, mMeth_eq, mAnd_eq, mOr_eq, mNot_eq, mIf_eq, mChain_eq, mSl_eq, pNone_eq, pSome_eq, aCons_eq, aNil_eq, mTup_eq, mLst_eq, gN_eq, gT_eq, gsNil_eq, gsCons_eq, mkL_t, mkL_f, R.bind_ok, R.bind_no, R.nox_ok, List.getElem?_cons_zero, List.getElem?_cons_succ, List.set_cons_zero, List.set_cons_succ, List.length_cons, List.length_nil, List.append_nil, List.nil_append, List.cons_append, piApp_on, oLen_fz, oLen_lst, oLen_tup, oLt_int, oLe_int, oGt_int, oGe_int, oAdd_int, oSub_int, oIx_fz, oIx_lst, oIx_tup, oMax_int, oMin_int, oInt_bl, oInt_int, oIsi_bl, oNeg_int, oTuple_lst, oTuple_tup, iR1_eq, iR2_eq, iSq_eq, iStrM_eq, srcOf_tup, srcOf_lst, srcOf_fz, if_true, if_false, Bool.false_eq_true, Bool.true_eq_false, reduceIte, Nat.reduceAdd, Nat.reduceLeDiff, Nat.reduceEqDiff, decide_true, decide_false, and_self, and_true, true_and, e, e2, e4, e3]
    · have : j ≠ M.length + 1 := by omega
      have : j ≠ M.length := by omega
      rw [s2 j (by assumption) (by assumption)]; exact same j hj hjm
  | cons f l =>
    rw [hfr] at e2
    obtain ⟨⟨x, hx, hb⟩, hlt⟩ := frees_cons hfr
    obtain ⟨M', e3, h2, l2, s2⟩ := putRest_eq h (by omega) hx hb y (l.map fun k : Nat => .int (0 + (k : Int))) none none none
    refine ⟨f, x, R', M', .inl ⟨rfl, (List.getElem?_eq_some_iff.mp hx).1⟩, hx, hb, hlt, hB ?_, h2.mono (by omega), by omega, fun j hj hjm hj2 => ?_⟩
    · have z0 : (((((f :: l).map fun k : Nat => D.int (0 + (k : Int))).length : Nat) : Int) == 0) = false := by
        rw [beq_eq_false_iff_ne, List.length_map, List.length_cons]; omega
      have e4 : putGrow [some (.ref m), some (thD y), none, none, some (.lst ((f :: l).map fun k : Nat => .int (0 + (k : Int)))), none] M = .ok (.nx [some (.ref m), some (thD y), none, none, some (.lst (.int f :: l.map fun k : Nat => .int (0 + (k : Int)))), none]) M := by
        unfold putGrow
        simp -implicitDefEqProofs only [mSeq_eq, mIfS_eq, mSet_eq, mRet_eq, mRetN_eq, mExpr_eq, mPass_eq, mAsg_eq, mPar_eq, mAug_eq, bOf_eq, tOf_eq, tAndM_eq, tOrM_eq, tNotM_eq, tsYes_eq, mOp_eq, mUn_eq, mVar_eq, mC_eq, mCall_eq, mFun_eq, mFunKw_eq, mMeth_eq, mAnd_eq, mOr_eq, mNot_eq, mIf_eq, mChain_eq, mSl_eq, pNone_eq, pSome_eq, aCons_eq, aNil_eq, mTup_eq, mLst_eq, gN_eq, gT_eq, gsNil_eq, gsCons_eq, mkL_t, mkL_f, R.bind_ok, R.bind_no, R.nox_ok, List.getElem?_cons_zero, List.getElem?_cons_succ, List.set_cons_zero, List.set_cons_succ, List.length_cons, List.length_nil, List.append_nil, List.nil_append, List.cons_append, piApp_on, oLen_fz, oLen_lst, oLen_tup, oLt_int, oLe_int, oGt_int, oGe_int, oAdd_int, oSub_int, oIx_fz, oIx_lst, oIx_tup, oMax_int, oMin_int, oInt_bl, oInt_int, oIsi_bl, oNeg_int, oTuple_lst, oTuple_tup, iR1_eq, iR2_eq, iSq_eq, iStrM_eq, srcOf_tup, srcOf_lst, srcOf_fz, if_true, if_false, Bool.false_eq_true, Bool.true_eq_false, reduceIte, Nat.reduceAdd, Nat.reduceLeDiff, Nat.reduceEqDiff, decide_true, decide_false, and_self, and_true, true_and]
        simp only [oLen_lst, R.bind_ok, oEq_int, z0, Bool.false_eq_true, if_false]
        rw [List.map_cons, Int.zero_add]
      rw [put_is]
      simp -implicitDefEqProofs only [mSeq_eq, mIfS_eq, mSet_eq, mRet_eq, mRetN_eq, mExpr_eq, mPass_eq, mAsg_eq, mPar_eq, mAug_eq, bOf_eq, tOf_eq, tAndM_eq, tOrM_eq, tNotM_eq, tsYes_eq, mOp_eq, mUn_eq, mVar_eq, mC_eq, mCall_eq, mFun_eq, mFunKw_eq, mMeth_eq, mAnd_eq, mOr_eq, mNot_eq, mIf_eq, mChain_eq, mSl_eq, pNone_eq, pSome_eq, aCons_eq, aNil_eq, mTup_eq, mLst_eq, gN_eq, gT_eq, gsNil_eq, gsCons_eq, mkL_t, mkL_f, R.bind_ok, R.bind_no, R.nox_ok, List.getElem?_cons_zero, List.getElem?_cons_succ, List.set_cons_zero, List.set_cons_succ, List.length_cons, List.length_nil, List.append_nil, List.nil_append, List.cons_append, piApp_on, oLen_fz, oLen_lst, oLen_tup, oLt_int, oLe_int, oGt_int, oGe_int, oAdd_int, oSub_int, oIx_fz, oIx_lst, oIx_tup, oMax_int, oMin_int, oInt_bl, oInt_int, oIsi_bl, oNeg_int, oTuple_lst, oTuple_tup, iR1_eq, iR2_eq, iSq_eq, iStrM_eq, srcOf_tup, srcOf_lst, srcOf_fz, if_true, if_false, Bool.false_eq_true, Bool.true_eq_false, reduceIte, Nat.reduceAdd, Nat.reduceLeDiff, Nat.reduceEqDiff, decide_true, decide_false, and_self, and_true, true_and, e, e2, e4, e3]
    · obtain ⟨a, b⟩ := hj2 x (List.mem_of_getElem? hx)
      exact s2 j a b
/-! ### the table and the model -/
structure Tie (T : Tab) (R' : List Rw) : Prop where
  used : T.used = R'.map fun x => x.row.length
  nd : (T.there.map (·.p)).Nodup
  fwd : ∀ e ∈ T.there, ∃ x, R'[e.p]? = some x ∧ x.b = true ∧ e.t + 1 = x.row.length ∧ x.row.getLast? = some e.x
  bwd : ∀ (k : Nat) (x : Rw), R'[k]? = some x → x.b = true → ∃ e ∈ T.there, e.p = k
  known : ∀ y : Th, y ∈ T.known ↔ ∃ (k : Nat) (x : Rw), R'[k]? = some x ∧ y ∈ x.row
theorem optD_dOp (o : Option Th) : optD o = dOp o := by cases o <;> rfl
theorem Tie.leads {T : Tab} {R' : List Rw} (h : Tie T R') (p n : Nat) : T.leads p n = ldM R' p n := by
  unfold Tab.leads ldM
  cases hf : T.there.find? fun e => decide (e.p = p) with
  | none =>
    have no := List.find?_eq_none.mp hf
    cases hp : R'[p]? with
    | none => rfl
    | some x =>
      cases hb : x.b with
      | true =>
        obtain ⟨e, he, hep⟩ := h.bwd p x hp hb
        exact absurd (decide_eq_true hep) (no e he)
      | false => simp [hb]
  | some e =>
    have he := List.mem_of_find?_eq_some hf
    have hep : e.p = p := of_decide_eq_true (List.find?_some (p := fun e : En => decide (e.p = p)) hf)
    obtain ⟨x, hx, hb, ht, hl⟩ := h.fwd e he
    rw [hep] at hx
    rw [hx]
    simp only [hb, true_and]
    by_cases c : e.t = n
    · rw [if_pos c, if_pos (by omega), hl]
    · rw [if_neg c, if_neg (by omega)]
theorem Tie.has {T : Tab} {R' : List Rw} (h : Tie T R') {k : Nat} : T.has k = true ↔ ∃ x, R'[k]? = some x ∧ x.b = true := by
  rw [has_iff]
  constructor
  · rintro ⟨e, he, rfl⟩
    obtain ⟨x, hx, hb, _⟩ := h.fwd e he
    exact ⟨x, hx, hb⟩
  · rintro ⟨x, hx, hb⟩
    exact h.bwd k x hx hb
theorem Tie.drop {T : Tab} {R' : List Rw} (h : Tie T R') {p : Nat} {x : Rw} (hp : R'[p]? = some x) : Tie { T with there := T.there.filter fun e => decide (e.p ≠ p) } (R'.set p ⟨x.c, x.r, x.row, false⟩) := by
  have hlt := (List.getElem?_eq_some_iff.mp hp).1
  refine ⟨?_, h.nd.sublist (List.filter_sublist.map _), fun e he => ?_, fun k z hz hb => ?_, fun y => ?_⟩
  · rw [map_set_same (g := fun x => x.row.length) (x' := ⟨x.c, x.r, x.row, false⟩) hp rfl]; exact h.used
  · obtain ⟨he, hne⟩ := List.mem_filter.mp he
    have hne : e.p ≠ p := of_decide_eq_true hne
    obtain ⟨z, hz, r⟩ := h.fwd e he
    exact ⟨z, by rw [List.getElem?_set_ne (Ne.symm hne)]; exact hz, r⟩
  · rcases get_set hz with ⟨rfl, rfl⟩ | ⟨hk, hz⟩
    · cases hb
    · obtain ⟨e, he, hek⟩ := h.bwd k z hz hb
      exact ⟨e, List.mem_filter.mpr ⟨he, decide_eq_true (by rw [hek]; exact hk)⟩, hek⟩
  · refine (h.known y).trans ⟨fun ⟨k, z, hz, hy⟩ => ?_, fun ⟨k, z, hz, hy⟩ => ?_⟩
    · by_cases hk : p = k
      · subst hk
        rw [hp] at hz
        cases hz
        exact ⟨p, _, List.getElem?_set_self hlt, hy⟩
      · exact ⟨k, z, by rw [List.getElem?_set_ne hk]; exact hz, hy⟩
    · rcases get_set hz with ⟨rfl, rfl⟩ | ⟨hk, hz⟩
      · exact ⟨k, x, hp, hy⟩
      · exact ⟨k, z, hz, hy⟩
theorem Tie.put {T : Tab} {R' : List Rw} (h : Tie T R') {f : Nat} {x : Rw} (hf : R'[f]? = some x) (hb : x.b = false) (y : Th) : Tie ⟨T.used.set f (x.row.length + 1), T.there ++ [⟨f, x.row.length, y⟩], T.known ++ [y]⟩ (R'.set f ⟨x.c, x.r, x.row ++ [y], true⟩) := by
  have hlt := (List.getElem?_eq_some_iff.mp hf).1
  have self := List.getElem?_set_self (l := R') (a := (⟨x.c, x.r, x.row ++ [y], true⟩ : Rw)) hlt
  have away : ∀ e ∈ T.there, e.p ≠ f := fun e he z => by
    obtain ⟨w, hw, hwb, _⟩ := h.fwd e he
    rw [z, hf] at hw
    cases hw
    rw [hb] at hwb
    cases hwb
  refine ⟨?_, ?_, fun e he => ?_, fun k z hz hzb => ?_, fun w => ?_⟩
  · simp only [h.used, List.map_set]
    rw [List.length_append]
    rfl
  · simp only [List.map_append]
    rw [List.nodup_append]
    refine ⟨h.nd, by simp, fun a ha b hb2 e => ?_⟩
    obtain ⟨e', he', rfl⟩ := List.mem_map.mp ha
    have hb2 : b = f := by simpa using hb2
    exact away e' he' (e.trans hb2)
  · rcases List.mem_append.mp he with he | he
    · obtain ⟨z, hz, r⟩ := h.fwd e he
      exact ⟨z, by rw [List.getElem?_set_ne (Ne.symm (away e he))]; exact hz, r⟩
    · have he : e = ⟨f, x.row.length, y⟩ := by simpa using he
      subst he
      exact ⟨_, self, rfl, by rw [List.length_append]; rfl, by simp⟩
  · rcases get_set hz with ⟨rfl, rfl⟩ | ⟨hk, hz⟩
    · exact ⟨⟨k, x.row.length, y⟩, List.mem_append_right _ (List.mem_singleton.mpr rfl), rfl⟩
    · obtain ⟨e, he, hek⟩ := h.bwd k z hz hzb
      exact ⟨e, List.mem_append_left _ he, hek⟩
  · constructor
    · intro hw
      rcases List.mem_append.mp hw with hw | hw
      · obtain ⟨k, z, hz, hy⟩ := (h.known w).mp hw
        by_cases hk : f = k
        · subst hk
          rw [hf] at hz
          cases hz
          exact ⟨f, _, self, List.mem_append_left _ hy⟩
        · exact ⟨k, z, by rw [List.getElem?_set_ne hk]; exact hz, hy⟩
      · rw [List.mem_singleton.mp hw]
        exact ⟨f, _, self, List.mem_append_right _ (List.mem_singleton.mpr rfl)⟩
    · rintro ⟨k, z, hz, hy⟩
      rcases get_set hz with ⟨rfl, rfl⟩ | ⟨hk, hz⟩
      · rcases List.mem_append.mp hy with hy | hy
        · exact List.mem_append_left _ ((h.known w).mpr ⟨k, x, hf, hy⟩)
        · exact List.mem_append_right _ hy
      · exact List.mem_append_left _ ((h.known w).mpr ⟨k, z, hz, hy⟩)
theorem Tie.app {T : Tab} {R' : List Rw} (h : Tie T R') (c r : Nat) : Tie { T with used := T.used ++ [0] } (R' ++ [⟨c, r, [], false⟩]) := by
  refine ⟨?_, h.nd, fun e he => ?_, fun k z hz hb => ?_, fun y => (h.known y).trans ⟨fun ⟨k, z, hz, hy⟩ => ?_, fun ⟨k, z, hz, hy⟩ => ?_⟩⟩
  · simp only [h.used, List.map_append]; rfl
  · obtain ⟨z, hz, q⟩ := h.fwd e he
    exact ⟨z, by rw [List.getElem?_append_left (List.getElem?_eq_some_iff.mp hz).1]; exact hz, q⟩
  · rcases get_app hz with ⟨rfl, rfl⟩ | ⟨hk, hz⟩
    · cases hb
    · exact h.bwd k z hz hb
  · exact ⟨k, z, by rw [List.getElem?_append_left (List.getElem?_eq_some_iff.mp hz).1]; exact hz, hy⟩
  · rcases get_app hz with ⟨rfl, rfl⟩ | ⟨hk, hz⟩
    · cases hy
    · exact ⟨k, z, hz, hy⟩
/-- a put of a new thing -/
theorem Tie.putAt {T : Tab} {R' R1 : List Rw} {f N : Nat} {x : Rw} (h : Tie T R') (hu : Up R' R1 f N) (hx : R1[f]? = some x) (hb : x.b = false) (y : Th) : Tie (T.putAt f y) (R1.set f ⟨x.c, x.r, x.row ++ [y], true⟩) ∧ (T.us f).getD f 0 = x.row.length ∧ f ≤ T.used.length := by
  have ul : T.used.length = R'.length := by rw [h.used, List.length_map]
  have h1 : Tie { T with used := T.us f } R1 ∧ f ≤ T.used.length := by
    rcases hu with ⟨rfl, hlt⟩ | ⟨rfl, c, r, _, _, rfl⟩
    · have : T.us f = T.used := by unfold Tab.us; rw [if_neg (by omega)]
      rw [this]
      exact ⟨h, by omega⟩
    · have : T.us R'.length = T.used ++ [0] := by unfold Tab.us; rw [if_pos ul.symm]
      rw [this]
      exact ⟨h.app c r, by omega⟩
  have hg : (T.us f).getD f 0 = x.row.length := by
    have := h1.1.used
    have this : T.us f = _ := this
    rw [this, List.getD, List.getElem?_map, hx]
    rfl
  refine ⟨?_, hg, h1.2⟩
  unfold Tab.putAt
  rw [hg]
  exact h1.1.put hx hb y
/-! ### handles, rising -/
def prN (x : Nat × Rw) : Int × Int := ((x.1 : Int), (x.2.row.length : Int) - 1)
theorem hdM_prN (R' : List Rw) : hdM R' = (((ixR R').filter fun x => x.2.b).map prN).map prD2 := by
  unfold hdM
  rw [List.map_map]
  rfl
theorem ixR_pw (R' : List Rw) : (ixR R').Pairwise fun a b => a.1 < b.1 := by
  rw [List.pairwise_iff_getElem]
  intro i j hi hj hij
  simp only [ixR, List.getElem_map, List.getElem_zipIdx]
  omega
theorem Tie.sorted {T : Tab} {R' : List Rw} (h : Tie T R') : sortD (T.there.map hD) = hdM R' ∧ T.there.length = (hdM R').length := by
  have e1 : T.there.map hD = (T.there.map fun e => (((e.p : Nat) : Int), ((e.t : Nat) : Int))).map prD2 := by rw [List.map_map]; rfl
  have pw2 : ((ixR R').filter fun x => x.2.b).Pairwise fun a b => a.1 < b.1 := (ixR_pw R').sublist List.filter_sublist
  have n1 : (T.there.map fun e => (((e.p : Nat) : Int), ((e.t : Nat) : Int))).Nodup := by
    have := h.nd
    unfold List.Nodup at this ⊢
    rw [List.pairwise_map] at this ⊢
    exact this.imp fun {a b} hab z => hab (by injection z with z _; omega)
  have pw : (((ixR R').filter fun x => x.2.b).map prN).Pairwise fun a b => a.1 < b.1 := by
    rw [List.pairwise_map]
    exact pw2.imp fun {a b} hab => by show (a.1 : Int) < (b.1 : Int); omega
  have n2 : (((ixR R').filter fun x => x.2.b).map prN).Nodup := pw.imp fun {a b} hab z => by rw [z] at hab; omega
  have pm : (T.there.map fun e => (((e.p : Nat) : Int), ((e.t : Nat) : Int))).Perm (((ixR R').filter fun x => x.2.b).map prN) := by
    rw [List.perm_ext_iff_of_nodup n1 n2]
    intro a
    constructor
    · intro ha
      obtain ⟨e, he, rfl⟩ := List.mem_map.mp ha
      obtain ⟨x, hx, hb, ht, _⟩ := h.fwd e he
      refine List.mem_map.mpr ⟨(e.p, x), List.mem_filter.mpr ⟨?_, hb⟩, ?_⟩
      · unfold ixR
        exact List.mem_map.mpr ⟨(x, e.p), List.mem_zipIdx_iff_getElem?.mpr hx, rfl⟩
      · unfold prN
        exact Prod.ext rfl (by show (x.row.length : Int) - 1 = (e.t : Int); omega)
    · intro ha
      obtain ⟨z, hz, rfl⟩ := List.mem_map.mp ha
      obtain ⟨hz, hb⟩ := List.mem_filter.mp hz
      have hg := ixR_get hz
      obtain ⟨e, he, hep⟩ := h.bwd z.1 z.2 hg hb
      obtain ⟨x, hx, _, ht, _⟩ := h.fwd e he
      rw [hep, hg] at hx
      cases hx
      refine List.mem_map.mpr ⟨e, he, ?_⟩
      unfold prN
      exact Prod.ext (by show (e.p : Int) = (z.1 : Int); omega) (by show (e.t : Int) = (z.2.row.length : Int) - 1; omega)
  refine ⟨?_, by rw [hdM_prN, List.length_map, ← pm.length_eq, List.length_map]⟩
  rw [e1, sortD_perm pm, sortD_pairs, hdM_prN]
  congr 1
  apply List.mergeSort_of_pairwise
  exact pw.imp fun {a b} hab => by unfold le2; exact decide_eq_true (.inl hab)
/-! ### whether a board is as the model -/
theorem axL_hdM (R' : List Rw) : axD (.tup (hdM R')) = true := by
  show axL (hdM R') = true
  exact axL_of fun d hd => by unfold hdM at hd; obtain ⟨x, _, rfl⟩ := List.mem_map.mp hd; rfl
theorem szL_le {c : Nat} : ∀ {l : List D}, (∀ d ∈ l, szD d ≤ c) → szL l ≤ c * l.length
  | [], _ => Nat.zero_le _
  | d :: r, h => by
    have h1 := h d (List.mem_cons_self ..)
    have h2 := szL_le (l := r) fun x hx => h x (List.mem_cons_of_mem _ hx)
    simp only [szL, List.length_cons, Nat.mul_succ]
    omega
theorem hdM_len (R' : List Rw) : (hdM R').length ≤ R'.length := by
  unfold hdM
  rw [List.length_map]
  refine Nat.le_trans (List.length_filter_le _ _) ?_
  unfold ixR
  rw [List.length_map, List.length_zipIdx]
  exact Nat.le_refl _
theorem TabAt.keep {M M' : Mem} {i u t k : Nat} {T : Tab} (h : TabAt M i u t k T) (e1 : M'[i]? = M[i]?) (e2 : M'[u]? = M[u]?) (e3 : M'[t]? = M[t]?) (e4 : M'[k]? = M[k]?) : TabAt M' i u t k T :=
  ⟨e1.trans h.ins, e2.trans h.us, e3.trans h.th, e4.trans h.kn, h.iu, h.it, h.ik, h.ut, h.uk, h.tk⟩
theorem TabAt.app {M : Mem} {i u t k : Nat} {T : Tab} (h : TabAt M i u t k T) (B : Mem) : TabAt (M ++ B) i u t k T := by
  obtain ⟨a, b, c, d⟩ := h.lt
  exact h.keep (List.getElem?_append_left a) (List.getElem?_append_left b) (List.getElem?_append_left c) (List.getElem?_append_left d)
theorem Ml.appM {M : Mem} {m n : Nat} {R' : List Rw} (h : Ml M m R' n) (B : Mem) : Ml (M ++ B) m R' n := by
  obtain ⟨a, b⟩ := h.lts
  exact h.keep (List.getElem?_append_left a) fun k x hx => ⟨List.getElem?_append_left (b k x hx).1, List.getElem?_append_left (b k x hx).2⟩
theorem stands_turn {M : Mem} {b u t k m n : Nat} {T : Tab} {R' : List Rw} (h : TabAt M b u t k T) (ml : Ml M m R' n) (tie : Tie T R') (hn : n < 1000) (hl : T.there.length ≤ n) (x2 x3 : Option D) :
    L_law_stands_0 [some (.ref b), some (.ref m), x2, x3] M = .ok (.nx [some (.ref b), some (.ref m), x2, some (.ref M.length)]) (M ++ [.lst (hdM R' ++ [.tup [.int 99, .int 99]])]) := by
  have e1 := handles_eq h (by omega)
  rw [tie.sorted.1] at e1
  have lh := hdM_len R'
  have few := ml.few
  obtain ⟨H, hH⟩ : ∃ H, hdM R' = H := ⟨_, rfl⟩
  have hz : szD (.tup (hdM R')) ≤ 1000000 := by
    have : szL (hdM R') ≤ 3 * (hdM R').length := szL_le fun d hd => by unfold hdM at hd; obtain ⟨x, _, rfl⟩ := List.mem_map.mp hd; exact Nat.le_refl 3
    show 1 + szL (hdM R') ≤ 1000000
    omega
  have al := alike_eq (d := .tup (hdM R')) (axL_hdM R') hz
  have e2 := mhandles_eq (ml.appM [.lst (hdM R')]) (by omega)
  rw [hH] at e1 al e2 lh ⊢
  have g0 : (M ++ [Cell.lst H])[M.length]? = some (.lst H) := app_get0 rfl
  have is : oIsi "list" (.ref M.length) (M ++ [.lst H]) = .ok (.bl true) (M ++ [.lst H]) := by
    simp only [oIsi, tyD, g0]
    rfl
  have ot : oTuple [.ref M.length] (M ++ [Cell.lst H]) = .ok (.tup H) (M ++ [.lst H]) := by rw [oTuple_ref, g0]
  have ap := oAppend_at (d := .tup [.int 99, .int 99]) g0 (by omega)
  rw [app_set0 rfl] at ap
  unfold L_law_stands_0
  simp -implicitDefEqProofs only [mSeq_eq, mIfS_eq, mSet_eq, mRet_eq, mRetN_eq, mExpr_eq, mPass_eq, mAsg_eq, mPar_eq, mAug_eq, bOf_eq, tOf_eq, tAndM_eq, tOrM_eq, tNotM_eq, tsYes_eq, mOp_eq, mUn_eq, mVar_eq, mC_eq, mCall_eq, mFun_eq, mFunKw_eq, mMeth_eq, mAnd_eq, mOr_eq, mNot_eq, mIf_eq, mChain_eq, mSl_eq, pNone_eq, pSome_eq, aCons_eq, aNil_eq, mTup_eq, mLst_eq, gN_eq, gT_eq, gsNil_eq, gsCons_eq, mkL_t, mkL_f, R.bind_ok, R.bind_no, R.nox_ok, List.getElem?_cons_zero, List.getElem?_cons_succ, List.set_cons_zero, List.set_cons_succ, List.length_cons, List.length_nil, List.append_nil, List.nil_append, List.cons_append, piApp_on, oLen_fz, oLen_lst, oLen_tup, oLt_int, oLe_int, oGt_int, oGe_int, oAdd_int, oSub_int, oIx_fz, oIx_lst, oIx_tup, oMax_int, oMin_int, oInt_bl, oInt_int, oIsi_bl, oNeg_int, oTuple_lst, oTuple_tup, iR1_eq, iR2_eq, iSq_eq, iStrM_eq, srcOf_tup, srcOf_lst, srcOf_fz, if_true, if_false, Bool.false_eq_true, Bool.true_eq_false, reduceIte, Nat.reduceAdd, Nat.reduceLeDiff, Nat.reduceEqDiff, decide_true, decide_false, and_self, and_true, true_and, mMth_eq, insOf_at h.ins, lk_handles, e1, is, ot, e2, al, Bool.not_true, tyOk_at g0, ap]
theorem len_b {M : Mem} {i u t k : Nat} {T : Tab} (h : TabAt M i u t k T) (hl : T.there.length < 1000) : oLenO 0 g_Table___len__ [.ref i] M = .ok (.int T.there.length) M := by
  have := len_eq h
  simp only [oLenO, insOf_at h.ins, this]
  rw [if_pos (by omega)]
theorem stands_eq {M : Mem} {b u t k m n : Nat} {T : Tab} {R' : List Rw} (h : TabAt M b u t k T) (ml : Ml M m R' n) (tie : Tie T R') (hn : n < 1000) (hl : T.there.length ≤ n) : g_law_stands [.ref b, .ref m] M = .ok (.bl true) M := by
  have e1 := stands_turn h ml tie hn hl (some (.int (0 + ((0 : Nat) : Int)))) none
  obtain ⟨c, hc⟩ : ∃ c, Cell.lst (hdM R' ++ [.tup [.int 99, .int 99]]) = c := ⟨_, rfl⟩
  rw [hc] at e1
  have e2 := stands_turn (h.app [c]) (ml.appM [c]) tie hn hl (some (.int (0 + ((1 : Nat) : Int)))) (some (.ref M.length))
  rw [hc] at e2
  have A := (h.app [c]).app [c]
  have e3 := len_b A (by omega)
  have e4 := mhandles_eq ((ml.appM [c]).appM [c]) (by omega)
  have le := tie.sorted.2
  obtain ⟨H, hH⟩ : ∃ H, hdM R' = H := ⟨_, rfl⟩
  rw [hH] at e4 le
  obtain ⟨N, hN⟩ : ∃ N, H.length = N := ⟨_, rfl⟩
  rw [le, hN] at e3
  have ro : rngOk 2 = true := rfl
  have tn : (2 : Int).toNat = 2 := rfl
  have ri : rngItems 0 2 = [.int (0 + ((0 : Nat) : Int)), .int (0 + ((1 : Nat) : Int))] := rfl
  have bb : ((N : Int) == (N : Int)) = true := by simp
  have hB : B_law_stands [some (.ref b), some (.ref m), none, none] M = .ok (.rt (.bl true)) (M ++ [c, c]) := by
    have fl : mFor (iR1 (aCons (mC (.int 2)) aNil)) (gN 2) L_law_stands_0 [some (.ref b), some (.ref m), none, none] M = .ok (.nx [some (.ref b), some (.ref m), some (.int (0 + ((1 : Nat) : Int))), some (.ref (M ++ [c]).length)]) ((M ++ [c]) ++ [c]) := by
      rw [mFor_eq]
      simp -implicitDefEqProofs only [mSeq_eq, mIfS_eq, mSet_eq, mRet_eq, mRetN_eq, mExpr_eq, mPass_eq, mAsg_eq, mPar_eq, mAug_eq, bOf_eq, tOf_eq, tAndM_eq, tOrM_eq, tNotM_eq, tsYes_eq, mOp_eq, mUn_eq, mVar_eq, mC_eq, mCall_eq, mFun_eq, mFunKw_eq, mMeth_eq, mAnd_eq, mOr_eq, mNot_eq, mIf_eq, mChain_eq, mSl_eq, pNone_eq, pSome_eq, aCons_eq, aNil_eq, mTup_eq, mLst_eq, gN_eq, gT_eq, gsNil_eq, gsCons_eq, mkL_t, mkL_f, R.bind_ok, R.bind_no, R.nox_ok, List.getElem?_cons_zero, List.getElem?_cons_succ, List.set_cons_zero, List.set_cons_succ, List.length_cons, List.length_nil, List.append_nil, List.nil_append, List.cons_append, piApp_on, oLen_fz, oLen_lst, oLen_tup, oLt_int, oLe_int, oGt_int, oGe_int, oAdd_int, oSub_int, oIx_fz, oIx_lst, oIx_tup, oMax_int, oMin_int, oInt_bl, oInt_int, oIsi_bl, oNeg_int, oTuple_lst, oTuple_tup, iR1_eq, iR2_eq, iSq_eq, iStrM_eq, srcOf_tup, srcOf_lst, srcOf_fz, if_true, if_false, Bool.false_eq_true, Bool.true_eq_false, reduceIte, Nat.reduceAdd, Nat.reduceLeDiff, Nat.reduceEqDiff, decide_true, decide_false, and_self, and_true, true_and, ro, tn, ri, forL_cons, forL_nil, e1, e2]
    unfold B_law_stands
    simp -implicitDefEqProofs only [mSeq_eq, mIfS_eq, mSet_eq, mRet_eq, mRetN_eq, mExpr_eq, mPass_eq, mAsg_eq, mPar_eq, mAug_eq, bOf_eq, tOf_eq, tAndM_eq, tOrM_eq, tNotM_eq, tsYes_eq, mOp_eq, mUn_eq, mVar_eq, mC_eq, mCall_eq, mFun_eq, mFunKw_eq, mMeth_eq, mAnd_eq, mOr_eq, mNot_eq, mIf_eq, mChain_eq, mSl_eq, pNone_eq, pSome_eq, aCons_eq, aNil_eq, mTup_eq, mLst_eq, gN_eq, gT_eq, gsNil_eq, gsCons_eq, mkL_t, mkL_f, R.bind_ok, R.bind_no, R.nox_ok, List.getElem?_cons_zero, List.getElem?_cons_succ, List.set_cons_zero, List.set_cons_succ, List.length_cons, List.length_nil, List.append_nil, List.nil_append, List.cons_append, piApp_on, oLen_fz, oLen_lst, oLen_tup, oLt_int, oLe_int, oGt_int, oGe_int, oAdd_int, oSub_int, oIx_fz, oIx_lst, oIx_tup, oMax_int, oMin_int, oInt_bl, oInt_int, oIsi_bl, oNeg_int, oTuple_lst, oTuple_tup, iR1_eq, iR2_eq, iSq_eq, iStrM_eq, srcOf_tup, srcOf_lst, srcOf_fz, if_true, if_false, Bool.false_eq_true, Bool.true_eq_false, reduceIte, Nat.reduceAdd, Nat.reduceLeDiff, Nat.reduceEqDiff, decide_true, decide_false, and_self, and_true, true_and, fl, e3, e4, hN, oEq_int, bb]
    rw [List.append_assoc]
    rfl
  exact gc_val0 (p := .bool true) (runB_rt (N := 4) hB) rfl
/-! ### a handle -/
def hdN (h : Nat × Nat) : D := .tup [.int h.1, .int h.2]
theorem handle_eq {M : Mem} {i td : Nat} {told : List (Nat × Nat)} (h : FlAt M i M) (ht : M[td]? = some (.lst (told.map hdN))) (hi : i ≠ td) (hl : told.length < 1000) :
    ∃ (p q : Nat) (M' : Mem), FlAt M i M' ∧ g_law_handle [.ref i, .ref td] M = .ok (.tup [.int p, .int q]) M' := by
  have hL := oLen_ref ht
  rw [List.length_map] at hL
  -- the pair, ahead
  obtain ⟨p, q, M1, h1, e1⟩ : ∃ (p q : Nat) (M1 : Mem), FlAt M i M1 ∧ (mIf (bOf (mOp oGt (mCall oLen (aCons (mVar 1) aNil)) (mC (.int 0)))) (mOp oIx (mVar 1) (mFun 2 g_law_draw [] (aCons (mVar 0) (aCons (mCall oLen (aCons (mVar 1) aNil)) aNil)))) (mTup (aCons (mC (.int 0)) (aCons (mC (.int 0)) aNil)))) [some (.ref i), some (.ref td), none, none, none] M = .ok (.tup [.int p, .int q]) M1 := by
    by_cases c : told.length = 0
    · refine ⟨0, 0, M, h, ?_⟩
      have z : decide ((0 : Int) < (told.length : Int)) = false := decide_eq_false (by omega)
      simp -implicitDefEqProofs only [mSeq_eq, mIfS_eq, mSet_eq, mRet_eq, mRetN_eq, mExpr_eq, mPass_eq, mAsg_eq, mPar_eq, mAug_eq, bOf_eq, tOf_eq, tAndM_eq, tOrM_eq, tNotM_eq, tsYes_eq, mOp_eq, mUn_eq, mVar_eq, mC_eq, mCall_eq, mFun_eq, mFunKw_eq, mMeth_eq, mAnd_eq, mOr_eq, mNot_eq, mIf_eq, mChain_eq, mSl_eq, pNone_eq, pSome_eq, aCons_eq, aNil_eq, mTup_eq, mLst_eq, gN_eq, gT_eq, gsNil_eq, gsCons_eq, mkL_t, mkL_f, R.bind_ok, R.bind_no, R.nox_ok, List.getElem?_cons_zero, List.getElem?_cons_succ, List.set_cons_zero, List.set_cons_succ, List.length_cons, List.length_nil, List.append_nil, List.nil_append, List.cons_append, piApp_on, oLen_fz, oLen_lst, oLen_tup, oLt_int, oLe_int, oGt_int, oGe_int, oAdd_int, oSub_int, oIx_fz, oIx_lst, oIx_tup, oMax_int, oMin_int, oInt_bl, oInt_int, oIsi_bl, oNeg_int, oTuple_lst, oTuple_tup, iR1_eq, iR2_eq, iSq_eq, iStrM_eq, srcOf_tup, srcOf_lst, srcOf_fz, if_true, if_false, Bool.false_eq_true, Bool.true_eq_false, reduceIte, Nat.reduceAdd, Nat.reduceLeDiff, Nat.reduceEqDiff, decide_true, decide_false, and_self, and_true, true_and, hL, z]
      rfl
    · have z : decide ((0 : Int) < (told.length : Int)) = true := decide_eq_true (by omega)
      obtain ⟨v, M1, v1, h1, e1⟩ := draw_eq h (told.length : Int) (by omega) (by omega)
      have hv : v < told.length := by omega
      refine ⟨told[v].1, told[v].2, M1, h1, ?_⟩
      have t1 : M1[td]? = some (.lst (told.map hdN)) := by rw [h1.other hi]; exact ht
      have x1 : oIx (.ref td) (.int (v : Int)) M1 = .ok (hdN told[v]) M1 := by
        rw [oIx_ref t1, atI_nat (v := hdN told[v]) (by rw [List.getElem?_map, List.getElem?_eq_getElem hv]; rfl)]
      simp -implicitDefEqProofs only [mSeq_eq, mIfS_eq, mSet_eq, mRet_eq, mRetN_eq, mExpr_eq, mPass_eq, mAsg_eq, mPar_eq, mAug_eq, bOf_eq, tOf_eq, tAndM_eq, tOrM_eq, tNotM_eq, tsYes_eq, mOp_eq, mUn_eq, mVar_eq, mC_eq, mCall_eq, mFun_eq, mFunKw_eq, mMeth_eq, mAnd_eq, mOr_eq, mNot_eq, mIf_eq, mChain_eq, mSl_eq, pNone_eq, pSome_eq, aCons_eq, aNil_eq, mTup_eq, mLst_eq, gN_eq, gT_eq, gsNil_eq, gsCons_eq, mkL_t, mkL_f, R.bind_ok, R.bind_no, R.nox_ok, List.getElem?_cons_zero, List.getElem?_cons_succ, List.set_cons_zero, List.set_cons_succ, List.length_cons, List.length_nil, List.append_nil, List.nil_append, List.cons_append, piApp_on, oLen_fz, oLen_lst, oLen_tup, oLt_int, oLe_int, oGt_int, oGe_int, oAdd_int, oSub_int, oIx_fz, oIx_lst, oIx_tup, oMax_int, oMin_int, oInt_bl, oInt_int, oIsi_bl, oNeg_int, oTuple_lst, oTuple_tup, iR1_eq, iR2_eq, iSq_eq, iStrM_eq, srcOf_tup, srcOf_lst, srcOf_fz, if_true, if_false, Bool.false_eq_true, Bool.true_eq_false, reduceIte, Nat.reduceAdd, Nat.reduceLeDiff, Nat.reduceEqDiff, decide_true, decide_false, and_self, and_true, true_and, hL, z, e1, x1]
      rfl
  obtain ⟨v, M2, v1, h2, e2⟩ := draw_eq h1 7 (by omega) (by omega)
  have m1 : ∀ q : Nat, (if (q : Int) - 1 > 0 then (q : Int) - 1 else 0) = ((q - 1 : Nat) : Int) := fun q => by split <;> omega
  obtain ⟨L, hL⟩ : ∃ L : List (Nat × Nat), L = [(p, q), (p, q), (p, q + 1), (p, q - 1), (p + 1, q), (p - 1, q), (q, p)] := ⟨_, rfl⟩
  have hl7 : L.length = 7 := by rw [hL]; rfl
  have hv : v < L.length := by omega
  have at_ : atI (L.map hdN) (v : Int) = some (hdN L[v]) := atI_nat (by rw [List.getElem?_map, List.getElem?_eq_getElem hv]; rfl)
  have s1 : oAdd false (.lst [.tup [.int p, .int q], .tup [.int p, .int q], .tup [.int p, .int ((q : Int) + 1)], .tup [.int p, .int ((q - 1 : Nat) : Int)], .tup [.int ((p : Int) + 1), .int q]]) (.lst [.tup [.int ((p - 1 : Nat) : Int), .int q], .tup [.int q, .int p]]) M1 = .ok (.lst (L.map hdN)) M1 := by
    simp only [oAdd, oAddL, Fn.ownOf]
    rw [if_pos (by simp), mkL_f, hL]
    rfl
  refine ⟨L[v].1, L[v].2, M2, h2, runB_rt (N := 5) (?_ : B_law_handle [some (.ref i), some (.ref td), none, none, none] M = _)⟩
  obtain ⟨MI, hMI⟩ : ∃ MI, (mIf (bOf (mOp oGt (mCall oLen (aCons (mVar 1) aNil)) (mC (.int 0)))) (mOp oIx (mVar 1) (mFun 2 g_law_draw [] (aCons (mVar 0) (aCons (mCall oLen (aCons (mVar 1) aNil)) aNil)))) (mTup (aCons (mC (.int 0)) (aCons (mC (.int 0)) aNil)))) = MI := ⟨_, rfl⟩
  unfold B_law_handle
  rw [hMI] at e1 ⊢
  simp -implicitDefEqProofs only [mSeq_eq, mIfS_eq, mSet_eq, mRet_eq, mRetN_eq, mExpr_eq, mPass_eq, mAsg_eq, mPar_eq, mAug_eq, bOf_eq, tOf_eq, tAndM_eq, tOrM_eq, tNotM_eq, tsYes_eq, mOp_eq, mUn_eq, mVar_eq, mC_eq, mCall_eq, mFun_eq, mFunKw_eq, mMeth_eq, mAnd_eq, mOr_eq, mNot_eq, mIf_eq, mChain_eq, mSl_eq, pNone_eq, pSome_eq, aCons_eq, aNil_eq, mTup_eq, mLst_eq, gN_eq, gT_eq, gsNil_eq, gsCons_eq, mkL_t, mkL_f, R.bind_ok, R.bind_no, R.nox_ok, List.getElem?_cons_zero, List.getElem?_cons_succ, List.set_cons_zero, List.set_cons_succ, List.length_cons, List.length_nil, List.append_nil, List.nil_append, List.cons_append, piApp_on, oLen_fz, oLen_lst, oLen_tup, oLt_int, oLe_int, oGt_int, oGe_int, oAdd_int, oSub_int, oIx_fz, oIx_lst, oIx_tup, oMax_int, oMin_int, oInt_bl, oInt_int, oIsi_bl, oNeg_int, oTuple_lst, oTuple_tup, iR1_eq, iR2_eq, iSq_eq, iStrM_eq, srcOf_tup, srcOf_lst, srcOf_fz, if_true, if_false, Bool.false_eq_true, Bool.true_eq_false, reduceIte, Nat.reduceAdd, Nat.reduceLeDiff, Nat.reduceEqDiff, decide_true, decide_false, and_self, and_true, true_and, e1, m1, s1, e2, at_]
  rfl
/-! ### a deed -/
structure Ad where
  i : Nat
  b : Nat
  u : Nat
  t : Nat
  k : Nat
  m : Nat
  td : Nat
abbrev Ad.all (a : Ad) : List Nat := [a.i, a.b, a.u, a.t, a.k, a.m, a.td]
structure W12 (M : Mem) (a : Ad) (T : Tab) (R' : List Rw) (told : List (Nat × Nat)) (n : Nat) : Prop where
  fl : FlAt M a.i M
  tb : TabAt M a.b a.u a.t a.k T
  ml : Ml M a.m R' n
  tie : Tie T R'
  td : M[a.td]? = some (.lst (told.map hdN))
  th : T.there.length ≤ n
  kn : T.known.length ≤ n
  tl : told.length ≤ n
  ne : a.all.Nodup
  fc : ∀ j ∈ a.all, ∀ (k : Nat) (x : Rw), R'[k]? = some x → j ≠ x.c ∧ j ≠ x.r
structure Ne7 (a : Ad) : Prop where
  ib : a.i ≠ a.b
  iu : a.i ≠ a.u
  it : a.i ≠ a.t
  ik : a.i ≠ a.k
  im : a.i ≠ a.m
  itd : a.i ≠ a.td
  bm : a.b ≠ a.m
  btd : a.b ≠ a.td
  um : a.u ≠ a.m
  utd : a.u ≠ a.td
  tm : a.t ≠ a.m
  ttd : a.t ≠ a.td
  km : a.k ≠ a.m
  ktd : a.k ≠ a.td
  mtd : a.m ≠ a.td
theorem Ne7.of {a : Ad} (h : a.all.Nodup) : Ne7 a := by
  simp only [Ad.all, List.nodup_cons, List.mem_cons, List.not_mem_nil, or_false, not_or] at h
  obtain ⟨⟨a1, a2, a3, a4, a5, a6⟩, ⟨b1, b2, b3, b4, b5⟩, ⟨c1, c2, c3, c4⟩, ⟨d1, d2, d3⟩, ⟨e1, e2⟩, f1, _⟩ := h
  exact ⟨a1, a2, a3, a4, a5, a6, b4, b5, c3, c4, d2, d3, e1, e2, f1⟩
theorem W12.flow {M M' : Mem} {a : Ad} {T : Tab} {R' : List Rw} {told : List (Nat × Nat)} {n : Nat} (h : W12 M a T R' told n) (f : FlAt M a.i M') : W12 M' a T R' told n := by
  have ne := Ne7.of h.ne
  have o := fun j (hj : a.i ≠ j) => f.other (j := j) hj
  have fi := h.fc a.i (by simp [Ad.all])
  exact ⟨f.self, h.tb.keep (o _ ne.ib) (o _ ne.iu) (o _ ne.it) (o _ ne.ik), h.ml.keep (o _ ne.im) fun k x hx => ⟨o _ (fi k x hx).1, o _ (fi k x hx).2⟩, h.tie, (o _ ne.itd).trans h.td, h.th, h.kn, h.tl, h.ne, h.fc⟩
theorem W12.mono {M : Mem} {a : Ad} {T : Tab} {R' : List Rw} {told : List (Nat × Nat)} {n n' : Nat} (h : W12 M a T R' told n) (hn : n ≤ n') : W12 M a T R' told n' :=
  ⟨h.fl, h.tb, h.ml.mono hn, h.tie, h.td, Nat.le_trans h.th hn, Nat.le_trans h.kn hn, Nat.le_trans h.tl hn, h.ne, h.fc⟩
theorem fl_keep {M M' : Mem} {i : Nat} (h : FlAt M i M) (e : M'[i]? = M[i]?) : FlAt M' i M' := by
  obtain ⟨s, hs, hM, _⟩ := h.get
  exact .start hs (e.trans hM)
theorem W12.drop {M : Mem} {a : Ad} {T : Tab} {R' : List Rw} {told : List (Nat × Nat)} {n p : Nat} {x : Rw} (h : W12 M a T R' told n) (hp : R'[p]? = some x) :
    Ml (M.set a.t (.dk false (thereK (T.there.filter fun e => decide (e.p ≠ p))))) a.m R' n ∧
    W12 ((M.set a.t (.dk false (thereK (T.there.filter fun e => decide (e.p ≠ p))))).set x.c (.lst [.ref x.r, .bl false])) a { T with there := T.there.filter fun e => decide (e.p ≠ p) } (R'.set p ⟨x.c, x.r, x.row, false⟩) told n := by
  have ne := Ne7.of h.ne
  have F := fun j hj => h.fc j hj
  obtain ⟨M1, hM1⟩ : ∃ M1, M.set a.t (.dk false (thereK (T.there.filter fun e => decide (e.p ≠ p)))) = M1 := ⟨_, rfl⟩
  have o1 : ∀ j, a.t ≠ j → M1[j]? = M[j]? := fun j hj => by rw [← hM1, List.getElem?_set_ne hj]
  have tb1 := h.tb.setT (T.there.filter fun e => decide (e.p ≠ p))
  rw [hM1] at tb1 ⊢
  have ft := F a.t (by simp [Ad.all])
  have ml1 : Ml M1 a.m R' n := h.ml.keep (o1 _ ne.tm) fun k z hz => ⟨o1 _ (ft k z hz).1, o1 _ (ft k z hz).2⟩
  have o2 : ∀ j, j ∈ a.all → (M1.set x.c (.lst [.ref x.r, .bl false]))[j]? = M1[j]? := fun j hj => by rw [List.getElem?_set_ne (Ne.symm (F j hj p x hp).1)]
  refine ⟨ml1, fl_keep h.fl ((o2 a.i (by simp [Ad.all])).trans (o1 _ ne.it.symm)), tb1.keep (o2 _ (by simp [Ad.all])) (o2 _ (by simp [Ad.all])) (o2 _ (by simp [Ad.all])) (o2 _ (by simp [Ad.all])), drop_ml ml1 hp, h.tie.drop hp, (o2 _ (by simp [Ad.all])).trans ((o1 _ ne.ttd).trans h.td), Nat.le_trans (List.length_filter_le _ _) h.th, h.kn, h.tl, h.ne, fun j hj k z hz => ?_⟩
  rcases get_set hz with ⟨rfl, rfl⟩ | ⟨hk, hz⟩
  · exact F j hj k x hp
  · exact F j hj k z hz
theorem W12.put {M : Mem} {a : Ad} {T : Tab} {R' : List Rw} {told : List (Nat × Nat)} {n : Nat} (h : W12 M a T R' told n) (hn : n < 1000) (y : Th) (hy : ¬ ∃ x ∈ R', y ∈ x.row) :
    ∃ M1 M2 M3 T' R2 f r, g_law_model_put [.ref a.m, thD y] M = .ok (.tup [.int (f : Nat), .int (r : Nat)]) M1 ∧ insOf 0 M1 (.ref a.b) = some (a.b, tabF a.u a.t a.k) ∧ g_Table_put [.ref a.b, .str y.1, .int y.2] M1 = .ok (.tup [.int f, .int r]) M2 ∧ M2[a.td]? = some (.lst (told.map hdN)) ∧ M2.set a.td (.lst ((told ++ [(f, r)]).map hdN)) = M3 ∧ W12 M3 a T' R2 (told ++ [(f, r)]) (n + 2) := by
  have ne := Ne7.of h.ne
  have F := h.fc
  obtain ⟨f, x, R1, M1, up, hx, hb, lt, e1, ml1, len1, s1⟩ := mput_new h.ml (by omega) y hy
  obtain ⟨tp, hg, hfu⟩ := h.tie.putAt up hx hb y
  have lts := h.tb.lt
  have lti : a.i < M.length := h.fl.lt
  have lttd : a.td < M.length := lt_of_get h.td
  have far : ∀ j ∈ a.all, j < M.length → j ≠ a.m → M1[j]? = M[j]? := fun j hj hl hm => s1 j hl hm fun z hz => by
    obtain ⟨k, hk⟩ := List.getElem?_of_mem hz
    exact F j hj k z hk
  have tb1 : TabAt M1 a.b a.u a.t a.k T := h.tb.keep (far _ (by simp [Ad.all]) lts.1 ne.bm) (far _ (by simp [Ad.all]) lts.2.1 ne.um) (far _ (by simp [Ad.all]) lts.2.2.1 ne.tm) (far _ (by simp [Ad.all]) lts.2.2.2 ne.km)
  have hnk : ¬ y ∈ T.known := fun z => by
    obtain ⟨k, w, hw, hyw⟩ := (h.tie.known y).mp z
    exact hy ⟨w, List.mem_of_getElem? hw, hyw⟩
  have has1 : ∀ q, q < f → T.has q = true := fun q hq => h.tie.has.mpr (lt q hq)
  have has2 : T.has f = false := by
    cases hc : T.has f with
    | false => rfl
    | true =>
      obtain ⟨z, hz, hzb⟩ := h.tie.has.mp hc
      rcases up with ⟨rfl, _⟩ | ⟨rfl, c, r, _, _, rfl⟩
      · rw [hx] at hz; cases hz; rw [hb] at hzb; cases hzb
      · exact absurd (List.getElem?_eq_some_iff.mp hz).1 (by omega)
  have ul : T.used.length ≤ n := by rw [h.tie.used, List.length_map]; exact h.ml.few
  have hth := h.th
  have hkn := h.kn
  obtain ⟨M2, e2, tb2, len2, s2⟩ := put_new tb1 y hnk (by omega) (by omega) (by omega) (places f T.there fun q hq => has_iff.mp (has1 q hq)) has1 has2 hfu
  rw [hg] at e2
  have ct : ∀ j ∈ a.all, j ≠ a.m → ∀ (k : Nat) (z : Rw), (R1.set f ⟨x.c, x.r, x.row ++ [y], true⟩)[k]? = some z → j < M.length → j ≠ z.c ∧ j ≠ z.r := fun j hj hjm k z hz hl => by
    have main : ∀ (k : Nat) (z : Rw), R1[k]? = some z → j ≠ z.c ∧ j ≠ z.r := by
      clear hz
      intro k z hz
      rcases up with ⟨rfl, _⟩ | ⟨rfl, c, r, hc, hr, rfl⟩
      · exact F j hj k z hz
      · rcases get_app hz with ⟨rfl, rfl⟩ | ⟨hk, g1⟩
        · exact ⟨Nat.ne_of_lt (Nat.lt_of_lt_of_le hl hc), Nat.ne_of_lt (Nat.lt_of_lt_of_le hl hr)⟩
        · exact F j hj k z g1
    rcases get_set hz with ⟨rfl, rfl⟩ | ⟨hk, hz⟩
    · exact main k x hx
    · exact main k z hz
  have fm : ∀ (k : Nat) (z : Rw), (R1.set f ⟨x.c, x.r, x.row ++ [y], true⟩)[k]? = some z → a.m ≠ z.c ∧ a.m ≠ z.r := fun k z hz => by
    obtain ⟨p, q, _⟩ := ml1.mc k z hz
    exact ⟨p.symm, q.symm⟩
  have ltall : ∀ j ∈ a.all, j ≠ a.m → j < M.length := fun j hj hm => by
    simp only [Ad.all, List.mem_cons, List.not_mem_nil, or_false] at hj
    rcases hj with rfl | rfl | rfl | rfl | rfl | rfl | rfl
    · exact lti
    · exact lts.1
    · exact lts.2.1
    · exact lts.2.2.1
    · exact lts.2.2.2
    · exact absurd rfl hm
    · exact lttd
  have fc2 : ∀ j ∈ a.all, ∀ (k : Nat) (z : Rw), (R1.set f ⟨x.c, x.r, x.row ++ [y], true⟩)[k]? = some z → j ≠ z.c ∧ j ≠ z.r := fun j hj k z hz => by
    by_cases hm : j = a.m
    · rw [hm]; exact fm k z hz
    · exact ct j hj hm k z hz (ltall j hj hm)
  have fu := fc2 a.u (by simp [Ad.all])
  have ft := fc2 a.t (by simp [Ad.all])
  have fk := fc2 a.k (by simp [Ad.all])
  have ftd := fc2 a.td (by simp [Ad.all])
  have ml2 : Ml M2 a.m (R1.set f ⟨x.c, x.r, x.row ++ [y], true⟩) (n + 2) := ml1.keep (s2 _ ne.um.symm ne.tm.symm ne.km.symm) fun k z hz => ⟨s2 _ (fu k z hz).1.symm (ft k z hz).1.symm (fk k z hz).1.symm, s2 _ (fu k z hz).2.symm (ft k z hz).2.symm (fk k z hz).2.symm⟩
  have td2 : M2[a.td]? = some (.lst (told.map hdN)) := (s2 _ ne.utd.symm ne.ttd.symm ne.ktd.symm).trans ((far _ (by simp [Ad.all]) lttd ne.mtd.symm).trans h.td)
  have i2 : M2[a.i]? = M[a.i]? := (s2 _ ne.iu ne.it ne.ik).trans (far _ (by simp [Ad.all]) lti ne.im)
  obtain ⟨M3, hM3⟩ : ∃ M3, M2.set a.td (.lst ((told ++ [(f, x.row.length)]).map hdN)) = M3 := ⟨_, rfl⟩
  have s3 : ∀ j, a.td ≠ j → M3[j]? = M2[j]? := fun j hj => by rw [← hM3, List.getElem?_set_ne hj]
  have htl := h.tl
  refine ⟨M1, M2, M3, T.putAt f y, R1.set f ⟨x.c, x.r, x.row ++ [y], true⟩, f, x.row.length, e1, insOf_at tb1.ins, e2, td2, hM3, fl_keep h.fl ((s3 _ ne.itd.symm).trans i2), tb2.keep (s3 _ ne.btd.symm) (s3 _ ne.utd.symm) (s3 _ ne.ttd.symm) (s3 _ ne.ktd.symm), ml2.keep (s3 _ ne.mtd.symm) fun k z hz => ⟨s3 _ (ftd k z hz).1, s3 _ (ftd k z hz).2⟩, tp, by rw [← hM3]; exact List.getElem?_set_self (lt_of_get td2), ?_, ?_, ?_, h.ne, fc2⟩
  · unfold Tab.putAt; simp only [List.length_append, List.length_singleton]; omega
  · unfold Tab.putAt; simp only [List.length_append, List.length_singleton]; omega
  · rw [List.length_append, List.length_singleton]; omega
noncomputable def deedPut : FS := (mIfS (bOf (mOp oLt (mVar 5) (mC (.int 3)))) (mSeq (mSet 6 (mOp oIx (mVar 3) (mFun 2 g_law_draw [] (aCons (mVar 0) (aCons (mCall oLen (aCons (mVar 3) aNil)) aNil))))) (mSeq (mPar 7 8 (aCons (mFun 2 g_law_model_put [] (aCons (mVar 2) (aCons (mVar 6) aNil))) (aCons (mMth 0 "put" 3 g_Table_put [] (mVar 1) (aCons (mOp oIx (mVar 6) (mC (.int 0))) (aCons (mOp oIx (mVar 6) (mC (.int 1))) aNil))) aNil))) (mSeq (mIfS (bOf (mUn (oIsN true) (mVar 7))) (mExpr (mMeth "list" oAppend (mVar 4) (aCons (mVar 7) aNil))) mPass) (mRet (mFun 2 g_law_alike [] (aCons (mTup (aCons (mVar 8) aNil)) (aCons (mTup (aCons (mVar 7) aNil)) aNil))))))) mPass)
noncomputable def deedRest : FS := (mSeq (mSet 9 (mFun 2 g_law_handle [] (aCons (mVar 0) (aCons (mVar 4) aNil)))) (mSeq (mIfS (bOf (mOp (oEq false) (mVar 5) (mC (.int 3)))) (mSeq (mSet 8 (mMth 0 "leads" 2 g_Table_leads [] (mVar 1) (aCons (mVar 9) aNil))) (mRet (mFun 2 g_law_alike [] (aCons (mTup (aCons (mVar 8) aNil)) (aCons (mTup (aCons (mFun 2 g_law_model_leads [] (aCons (mVar 2) (aCons (mVar 9) aNil))) aNil)) aNil))))) mPass) (mRet (mFun 2 g_law_alike [] (aCons (mTup (aCons (mMth 0 "drop" 2 g_Table_drop [] (mVar 1) (aCons (mVar 9) aNil)) aNil)) (aCons (mTup (aCons (mFun 2 g_law_model_drop [] (aCons (mVar 2) (aCons (mVar 9) aNil))) aNil)) aNil))))))
theorem deed_is : B_law_deed = mSeq (mSet 5 (mFun 2 g_law_draw [] (aCons (mVar 0) (aCons (mC (.int 6)) aNil)))) (mSeq deedPut deedRest) := rfl
theorem al1 (d : D) (h : axD d = true) (hs : szD d ≤ 100) (M : Mem) : g_law_alike [.tup [d], .tup [d]] M = .ok (.bl true) M :=
  alike_eq (d := .tup [d]) (by show axL [d] = true; simp [axL, h]) (by show 1 + (szD d + 0) ≤ 1000000; omega) M
theorem deedPut_eq {M : Mem} {a : Ad} {T : Tab} {R' : List Rw} {told : List (Nat × Nat)} {n v : Nat} (h : W12 M a T R' told n) (hn : n < 1000) (hv : v < 3) {P : List Th} (h0 : 0 < P.length) (hl : P.length < 1000) :
    ∃ M' T' R2 told', deedPut [some (.ref a.i), some (.ref a.b), some (.ref a.m), some (.lst (P.map thD)), some (.ref a.td), some (.int (v : Int)), none, none, none, none] M = .ok (.rt (.bl true)) M' ∧ W12 M' a T' R2 told' (n + 2) := by
  have z : decide ((v : Int) < 3) = true := decide_eq_true (by omega)
  obtain ⟨w, M0, w1, f0, e0⟩ := draw_eq h.fl (P.length : Int) (by omega) (by omega)
  have h0 := h.flow f0
  have hw : w < P.length := by omega
  obtain ⟨y, hy⟩ : ∃ y, P[w] = y := ⟨_, rfl⟩
  have x1 : atI (P.map thD) (w : Int) = some (thD y) := atI_nat (by rw [List.getElem?_map, List.getElem?_eq_getElem hw, hy]; rfl)
  have y0 : ∀ M, oIx (thD y) (.int 0) M = .ok (.str y.1) M := fun _ => rfl
  have y1 : ∀ M, oIx (thD y) (.int 1) M = .ok (.int y.2) M := fun _ => rfl
  have lm : (P.map thD).length = P.length := List.length_map _
  obtain ⟨PD, hPD⟩ : ∃ PD, P.map thD = PD := ⟨_, rfl⟩
  rw [hPD] at x1 lm ⊢
  by_cases c : ∃ x ∈ R', y ∈ x.row
  · have e1 := mput_old h0.ml (by omega) y c
    have hk : y ∈ T.known := by
      obtain ⟨x, hx, hyx⟩ := c
      obtain ⟨k, hk⟩ := List.getElem?_of_mem hx
      exact (h.tie.known y).mpr ⟨k, x, hk, hyx⟩
    have e2 := put_old h0.tb y hk
    have n0 : ∀ M, oIsN true .non M = .ok (.bl false) M := fun _ => rfl
    have e3 := al1 .non rfl (by show 1 ≤ 100; omega) M0
    refine ⟨M0, T, R', told, ?_, h0.mono (by omega)⟩
    unfold deedPut
    simp -implicitDefEqProofs only [mSeq_eq, mIfS_eq, mSet_eq, mRet_eq, mRetN_eq, mExpr_eq, mPass_eq, mAsg_eq, mPar_eq, mAug_eq, bOf_eq, tOf_eq, tAndM_eq, tOrM_eq, tNotM_eq, tsYes_eq, mOp_eq, mUn_eq, mVar_eq, mC_eq, mCall_eq, mFun_eq, mFunKw_eq, mMeth_eq, mAnd_eq, mOr_eq, mNot_eq, mIf_eq, mChain_eq, mSl_eq, pNone_eq, pSome_eq, aCons_eq, aNil_eq, mTup_eq, mLst_eq, gN_eq, gT_eq, gsNil_eq, gsCons_eq, mkL_t, mkL_f, R.bind_ok, R.bind_no, R.nox_ok, List.getElem?_cons_zero, List.getElem?_cons_succ, List.set_cons_zero, List.set_cons_succ, List.length_cons, List.length_nil, List.append_nil, List.nil_append, List.cons_append, piApp_on, oLen_fz, oLen_lst, oLen_tup, oLt_int, oLe_int, oGt_int, oGe_int, oAdd_int, oSub_int, oIx_fz, oIx_lst, oIx_tup, oMax_int, oMin_int, oInt_bl, oInt_int, oIsi_bl, oNeg_int, oTuple_lst, oTuple_tup, iR1_eq, iR2_eq, iSq_eq, iStrM_eq, srcOf_tup, srcOf_lst, srcOf_fz, if_true, if_false, Bool.false_eq_true, Bool.true_eq_false, reduceIte, Nat.reduceAdd, Nat.reduceLeDiff, Nat.reduceEqDiff, decide_true, decide_false, and_self, and_true, true_and, z, lm, e0, x1, e1, mMth_eq, insOf_at h0.tb.ins, lk_put, y0, y1, e2, n0, e3]
  · obtain ⟨M1, M2, M3, T', R2, f, r, e1, i1, e2, td2, hM3, w3⟩ := h0.put hn y c
    have n0 : ∀ M, oIsN true (.tup [.int (f : Int), .int (r : Int)]) M = .ok (.bl true) M := fun _ => rfl
    have ap := oAppend_at (d := .tup [.int (f : Int), .int (r : Int)]) td2 (by have := h.tl; rw [List.length_map]; omega)
    have ae : (told.map hdN) ++ [.tup [.int (f : Int), .int (r : Int)]] = (told ++ [(f, r)]).map hdN := by rw [List.map_append]; rfl
    rw [ae, hM3] at ap
    have e3 := al1 (.tup [.int (f : Int), .int (r : Int)]) rfl (by show 3 ≤ 100; omega) M3
    refine ⟨M3, T', R2, told ++ [(f, r)], ?_, w3⟩
    unfold deedPut
    simp -implicitDefEqProofs only [mSeq_eq, mIfS_eq, mSet_eq, mRet_eq, mRetN_eq, mExpr_eq, mPass_eq, mAsg_eq, mPar_eq, mAug_eq, bOf_eq, tOf_eq, tAndM_eq, tOrM_eq, tNotM_eq, tsYes_eq, mOp_eq, mUn_eq, mVar_eq, mC_eq, mCall_eq, mFun_eq, mFunKw_eq, mMeth_eq, mAnd_eq, mOr_eq, mNot_eq, mIf_eq, mChain_eq, mSl_eq, pNone_eq, pSome_eq, aCons_eq, aNil_eq, mTup_eq, mLst_eq, gN_eq, gT_eq, gsNil_eq, gsCons_eq, mkL_t, mkL_f, R.bind_ok, R.bind_no, R.nox_ok, List.getElem?_cons_zero, List.getElem?_cons_succ, List.set_cons_zero, List.set_cons_succ, List.length_cons, List.length_nil, List.append_nil, List.nil_append, List.cons_append, piApp_on, oLen_fz, oLen_lst, oLen_tup, oLt_int, oLe_int, oGt_int, oGe_int, oAdd_int, oSub_int, oIx_fz, oIx_lst, oIx_tup, oMax_int, oMin_int, oInt_bl, oInt_int, oIsi_bl, oNeg_int, oTuple_lst, oTuple_tup, iR1_eq, iR2_eq, iSq_eq, iStrM_eq, srcOf_tup, srcOf_lst, srcOf_fz, if_true, if_false, Bool.false_eq_true, Bool.true_eq_false, reduceIte, Nat.reduceAdd, Nat.reduceLeDiff, Nat.reduceEqDiff, decide_true, decide_false, and_self, and_true, true_and, z, lm, e0, x1, e1, mMth_eq, i1, lk_put, y0, y1, e2, n0, tyOk_at td2, ap, e3]
theorem deedRest_eq {M : Mem} {a : Ad} {T : Tab} {R' : List Rw} {told : List (Nat × Nat)} {n v : Nat} (h : W12 M a T R' told n) (hn : n < 1000) (PD : D) :
    ∃ M' T' R2 told', deedRest [some (.ref a.i), some (.ref a.b), some (.ref a.m), some PD, some (.ref a.td), some (.int (v : Int)), none, none, none, none] M = .ok (.rt (.bl true)) M' ∧ W12 M' a T' R2 told' (n + 2) := by
  have ne := Ne7.of h.ne
  obtain ⟨p, q, M1, f1, e1⟩ := handle_eq h.fl h.td ne.itd (by have := h.tl; omega)
  have h1 := h.flow f1
  have i1 := insOf_at h1.tb.ins
  have le := h1.tie.leads p q
  by_cases c : v = 3
  · have z : ((v : Int) == 3) = true := by simp; omega
    have e2 := leads_eq h1.tb p q
    have e3 := mleads_eq h1.ml p q
    rw [le, optD_dOp] at e2
    have e4 : g_law_alike [.tup [dOp (ldM R' p q)], .tup [dOp (ldM R' p q)]] M1 = .ok (.bl true) M1 := by
      cases ldM R' p q with
      | none => exact al1 .non rfl (by show 1 ≤ 100; omega) M1
      | some y => exact al1 (thD y) rfl (by show 3 ≤ 100; omega) M1
    refine ⟨M1, T, R', told, ?_, h1.mono (by omega)⟩
    unfold deedRest
    simp -implicitDefEqProofs only [mSeq_eq, mIfS_eq, mSet_eq, mRet_eq, mRetN_eq, mExpr_eq, mPass_eq, mAsg_eq, mPar_eq, mAug_eq, bOf_eq, tOf_eq, tAndM_eq, tOrM_eq, tNotM_eq, tsYes_eq, mOp_eq, mUn_eq, mVar_eq, mC_eq, mCall_eq, mFun_eq, mFunKw_eq, mMeth_eq, mAnd_eq, mOr_eq, mNot_eq, mIf_eq, mChain_eq, mSl_eq, pNone_eq, pSome_eq, aCons_eq, aNil_eq, mTup_eq, mLst_eq, gN_eq, gT_eq, gsNil_eq, gsCons_eq, mkL_t, mkL_f, R.bind_ok, R.bind_no, R.nox_ok, List.getElem?_cons_zero, List.getElem?_cons_succ, List.set_cons_zero, List.set_cons_succ, List.length_cons, List.length_nil, List.append_nil, List.nil_append, List.cons_append, piApp_on, oLen_fz, oLen_lst, oLen_tup, oLt_int, oLe_int, oGt_int, oGe_int, oAdd_int, oSub_int, oIx_fz, oIx_lst, oIx_tup, oMax_int, oMin_int, oInt_bl, oInt_int, oIsi_bl, oNeg_int, oTuple_lst, oTuple_tup, iR1_eq, iR2_eq, iSq_eq, iStrM_eq, srcOf_tup, srcOf_lst, srcOf_fz, if_true, if_false, Bool.false_eq_true, Bool.true_eq_false, reduceIte, Nat.reduceAdd, Nat.reduceLeDiff, Nat.reduceEqDiff, decide_true, decide_false, and_self, and_true, true_and, e1, oEq_int, z, mMth_eq, i1, lk_leads, e2, e3, e4]
  · have z : ((v : Int) == 3) = false := by simp; omega
    have e2 := drop_eq h1.tb p q
    rw [le] at e2
    cases hL : ldM R' p q with
    | none =>
      rw [hL] at e2
      have e2 : g_Table_drop [.ref a.b, .tup [.int p, .int q]] M1 = .ok (.bl false) M1 := e2
      have e3 := mdrop_none h1.ml hL
      have e4 := al1 (.bl false) rfl (by show 1 ≤ 100; omega) M1
      refine ⟨M1, T, R', told, ?_, h1.mono (by omega)⟩
      unfold deedRest
      simp -implicitDefEqProofs only [mSeq_eq, mIfS_eq, mSet_eq, mRet_eq, mRetN_eq, mExpr_eq, mPass_eq, mAsg_eq, mPar_eq, mAug_eq, bOf_eq, tOf_eq, tAndM_eq, tOrM_eq, tNotM_eq, tsYes_eq, mOp_eq, mUn_eq, mVar_eq, mC_eq, mCall_eq, mFun_eq, mFunKw_eq, mMeth_eq, mAnd_eq, mOr_eq, mNot_eq, mIf_eq, mChain_eq, mSl_eq, pNone_eq, pSome_eq, aCons_eq, aNil_eq, mTup_eq, mLst_eq, gN_eq, gT_eq, gsNil_eq, gsCons_eq, mkL_t, mkL_f, R.bind_ok, R.bind_no, R.nox_ok, List.getElem?_cons_zero, List.getElem?_cons_succ, List.set_cons_zero, List.set_cons_succ, List.length_cons, List.length_nil, List.append_nil, List.nil_append, List.cons_append, piApp_on, oLen_fz, oLen_lst, oLen_tup, oLt_int, oLe_int, oGt_int, oGe_int, oAdd_int, oSub_int, oIx_fz, oIx_lst, oIx_tup, oMax_int, oMin_int, oInt_bl, oInt_int, oIsi_bl, oNeg_int, oTuple_lst, oTuple_tup, iR1_eq, iR2_eq, iSq_eq, iStrM_eq, srcOf_tup, srcOf_lst, srcOf_fz, if_true, if_false, Bool.false_eq_true, Bool.true_eq_false, reduceIte, Nat.reduceAdd, Nat.reduceLeDiff, Nat.reduceEqDiff, decide_true, decide_false, and_self, and_true, true_and, e1, oEq_int, z, mMth_eq, i1, lk_drop, e2, e3, e4]
    | some y =>
      rw [hL] at e2
      obtain ⟨x, hx, _⟩ := ldM_some hL
      obtain ⟨ml2, w2⟩ := h1.drop hx
      have e2 : g_Table_drop [.ref a.b, .tup [.int p, .int q]] M1 = .ok (.bl true) (M1.set a.t (.dk false (thereK (T.there.filter fun e => decide (e.p ≠ p))))) := e2
      obtain ⟨M2, hM2⟩ : ∃ M2, M1.set a.t (.dk false (thereK (T.there.filter fun e => decide (e.p ≠ p)))) = M2 := ⟨_, rfl⟩
      rw [hM2] at e2 ml2 w2
      have e3 := mdrop_some ml2 hL hx
      have e4 := al1 (.bl true) rfl (by show 1 ≤ 100; omega) (M2.set x.c (.lst [.ref x.r, .bl false]))
      refine ⟨_, _, _, told, ?_, w2.mono (by omega)⟩
      unfold deedRest
      simp -implicitDefEqProofs only [mSeq_eq, mIfS_eq, mSet_eq, mRet_eq, mRetN_eq, mExpr_eq, mPass_eq, mAsg_eq, mPar_eq, mAug_eq, bOf_eq, tOf_eq, tAndM_eq, tOrM_eq, tNotM_eq, tsYes_eq, mOp_eq, mUn_eq, mVar_eq, mC_eq, mCall_eq, mFun_eq, mFunKw_eq, mMeth_eq, mAnd_eq, mOr_eq, mNot_eq, mIf_eq, mChain_eq, mSl_eq, pNone_eq, pSome_eq, aCons_eq, aNil_eq, mTup_eq, mLst_eq, gN_eq, gT_eq, gsNil_eq, gsCons_eq, mkL_t, mkL_f, R.bind_ok, R.bind_no, R.nox_ok, List.getElem?_cons_zero, List.getElem?_cons_succ, List.set_cons_zero, List.set_cons_succ, List.length_cons, List.length_nil, List.append_nil, List.nil_append, List.cons_append, piApp_on, oLen_fz, oLen_lst, oLen_tup, oLt_int, oLe_int, oGt_int, oGe_int, oAdd_int, oSub_int, oIx_fz, oIx_lst, oIx_tup, oMax_int, oMin_int, oInt_bl, oInt_int, oIsi_bl, oNeg_int, oTuple_lst, oTuple_tup, iR1_eq, iR2_eq, iSq_eq, iStrM_eq, srcOf_tup, srcOf_lst, srcOf_fz, if_true, if_false, Bool.false_eq_true, Bool.true_eq_false, reduceIte, Nat.reduceAdd, Nat.reduceLeDiff, Nat.reduceEqDiff, decide_true, decide_false, and_self, and_true, true_and, e1, oEq_int, z, mMth_eq, i1, lk_drop, e2, e3, e4]
theorem deed_eq {M : Mem} {a : Ad} {T : Tab} {R' : List Rw} {told : List (Nat × Nat)} {n : Nat} (h : W12 M a T R' told n) (hn : n < 1000) {P : List Th} (h0 : 0 < P.length) (hl : P.length < 1000) :
    ∃ M' T' R2 told', g_law_deed [.ref a.i, .ref a.b, .ref a.m, .lst (P.map thD), .ref a.td] M = .ok (.bl true) M' ∧ W12 M' a T' R2 told' (n + 2) := by
  obtain ⟨v, M1, v1, f1, e1⟩ := draw_eq h.fl 6 (by omega) (by omega)
  have h1 := h.flow f1
  by_cases c : v < 3
  · obtain ⟨M', T', R2, told', e2, w⟩ := deedPut_eq h1 hn c h0 hl
    refine ⟨M', T', R2, told', runB_rt (N := 10) (?_ : B_law_deed [some (.ref a.i), some (.ref a.b), some (.ref a.m), some (.lst (P.map thD)), some (.ref a.td), none, none, none, none, none] M = _), w⟩
    rw [deed_is]
    simp -implicitDefEqProofs only [mSeq_eq, mIfS_eq, mSet_eq, mRet_eq, mRetN_eq, mExpr_eq, mPass_eq, mAsg_eq, mPar_eq, mAug_eq, bOf_eq, tOf_eq, tAndM_eq, tOrM_eq, tNotM_eq, tsYes_eq, mOp_eq, mUn_eq, mVar_eq, mC_eq, mCall_eq, mFun_eq, mFunKw_eq, mMeth_eq, mAnd_eq, mOr_eq, mNot_eq, mIf_eq, mChain_eq, mSl_eq, pNone_eq, pSome_eq, aCons_eq, aNil_eq, mTup_eq, mLst_eq, gN_eq, gT_eq, gsNil_eq, gsCons_eq, mkL_t, mkL_f, R.bind_ok, R.bind_no, R.nox_ok, List.getElem?_cons_zero, List.getElem?_cons_succ, List.set_cons_zero, List.set_cons_succ, List.length_cons, List.length_nil, List.append_nil, List.nil_append, List.cons_append, piApp_on, oLen_fz, oLen_lst, oLen_tup, oLt_int, oLe_int, oGt_int, oGe_int, oAdd_int, oSub_int, oIx_fz, oIx_lst, oIx_tup, oMax_int, oMin_int, oInt_bl, oInt_int, oIsi_bl, oNeg_int, oTuple_lst, oTuple_tup, iR1_eq, iR2_eq, iSq_eq, iStrM_eq, srcOf_tup, srcOf_lst, srcOf_fz, if_true, if_false, Bool.false_eq_true, Bool.true_eq_false, reduceIte, Nat.reduceAdd, Nat.reduceLeDiff, Nat.reduceEqDiff, decide_true, decide_false, and_self, and_true, true_and, e1, e2]
  · obtain ⟨M', T', R2, told', e2, w⟩ := deedRest_eq (v := v) h1 hn (.lst (P.map thD))
    have z : decide ((v : Int) < 3) = false := decide_eq_false (by omega)
    have e3 : deedPut [some (.ref a.i), some (.ref a.b), some (.ref a.m), some (.lst (P.map thD)), some (.ref a.td), some (.int (v : Int)), none, none, none, none] M1 = .ok (.nx [some (.ref a.i), some (.ref a.b), some (.ref a.m), some (.lst (P.map thD)), some (.ref a.td), some (.int (v : Int)), none, none, none, none]) M1 := by
      unfold deedPut
      simp -implicitDefEqProofs only [mSeq_eq, mIfS_eq, mSet_eq, mRet_eq, mRetN_eq, mExpr_eq, mPass_eq, mAsg_eq, mPar_eq, mAug_eq, bOf_eq, tOf_eq, tAndM_eq, tOrM_eq, tNotM_eq, tsYes_eq, mOp_eq, mUn_eq, mVar_eq, mC_eq, mCall_eq, mFun_eq, mFunKw_eq, mMeth_eq, mAnd_eq, mOr_eq, mNot_eq, mIf_eq, mChain_eq, mSl_eq, pNone_eq, pSome_eq, aCons_eq, aNil_eq, mTup_eq, mLst_eq, gN_eq, gT_eq, gsNil_eq, gsCons_eq, mkL_t, mkL_f, R.bind_ok, R.bind_no, R.nox_ok, List.getElem?_cons_zero, List.getElem?_cons_succ, List.set_cons_zero, List.set_cons_succ, List.length_cons, List.length_nil, List.append_nil, List.nil_append, List.cons_append, piApp_on, oLen_fz, oLen_lst, oLen_tup, oLt_int, oLe_int, oGt_int, oGe_int, oAdd_int, oSub_int, oIx_fz, oIx_lst, oIx_tup, oMax_int, oMin_int, oInt_bl, oInt_int, oIsi_bl, oNeg_int, oTuple_lst, oTuple_tup, iR1_eq, iR2_eq, iSq_eq, iStrM_eq, srcOf_tup, srcOf_lst, srcOf_fz, if_true, if_false, Bool.false_eq_true, Bool.true_eq_false, reduceIte, Nat.reduceAdd, Nat.reduceLeDiff, Nat.reduceEqDiff, decide_true, decide_false, and_self, and_true, true_and, z]
    refine ⟨M', T', R2, told', runB_rt (N := 10) (?_ : B_law_deed [some (.ref a.i), some (.ref a.b), some (.ref a.m), some (.lst (P.map thD)), some (.ref a.td), none, none, none, none, none] M = _), w⟩
    rw [deed_is]
    simp -implicitDefEqProofs only [mSeq_eq, mIfS_eq, mSet_eq, mRet_eq, mRetN_eq, mExpr_eq, mPass_eq, mAsg_eq, mPar_eq, mAug_eq, bOf_eq, tOf_eq, tAndM_eq, tOrM_eq, tNotM_eq, tsYes_eq, mOp_eq, mUn_eq, mVar_eq, mC_eq, mCall_eq, mFun_eq, mFunKw_eq, mMeth_eq, mAnd_eq, mOr_eq, mNot_eq, mIf_eq, mChain_eq, mSl_eq, pNone_eq, pSome_eq, aCons_eq, aNil_eq, mTup_eq, mLst_eq, gN_eq, gT_eq, gsNil_eq, gsCons_eq, mkL_t, mkL_f, R.bind_ok, R.bind_no, R.nox_ok, List.getElem?_cons_zero, List.getElem?_cons_succ, List.set_cons_zero, List.set_cons_succ, List.length_cons, List.length_nil, List.append_nil, List.nil_append, List.cons_append, piApp_on, oLen_fz, oLen_lst, oLen_tup, oLt_int, oLe_int, oGt_int, oGe_int, oAdd_int, oSub_int, oIx_fz, oIx_lst, oIx_tup, oMax_int, oMin_int, oInt_bl, oInt_int, oIsi_bl, oNeg_int, oTuple_lst, oTuple_tup, iR1_eq, iR2_eq, iSq_eq, iStrM_eq, srcOf_tup, srcOf_lst, srcOf_fz, if_true, if_false, Bool.false_eq_true, Bool.true_eq_false, reduceIte, Nat.reduceAdd, Nat.reduceLeDiff, Nat.reduceEqDiff, decide_true, decide_false, and_self, and_true, true_and, e1, e3, e2]
/-! ### what a deed leaves alone -/
def Own (a : Ad) (R' : List Rw) (x : Nat) : Prop := x ∈ a.all ∨ ∃ (k : Nat) (z : Rw), R'[k]? = some z ∧ (x = z.c ∨ x = z.r)
structure Fr (a : Ad) (M M' : Mem) (R' R2 : List Rw) : Prop where
  le : M.length ≤ M'.length
  same : ∀ x, x < M.length → ¬ Own a R' x → M'[x]? = M[x]?
  nw : ∀ x, Own a R2 x → Own a R' x ∨ M.length ≤ x
theorem Fr.trans {a : Ad} {M M1 M2 : Mem} {R' R1 R2 : List Rw} (h1 : Fr a M M1 R' R1) (h2 : Fr a M1 M2 R1 R2) : Fr a M M2 R' R2 := by
  have l1 := h1.le
  have l2 := h2.le
  refine ⟨Nat.le_trans l1 l2, fun x hx ho => ?_, fun x hx => ?_⟩
  · rw [h2.same x (Nat.lt_of_lt_of_le hx l1) fun z => ?_, h1.same x hx ho]
    rcases h1.nw x z with z | z
    · exact ho z
    · omega
  · rcases h2.nw x hx with z | z
    · exact h1.nw x z
    · exact .inr (Nat.le_trans l1 z)
theorem Fr.refl (a : Ad) (M : Mem) (R' : List Rw) : Fr a M M R' R' := ⟨Nat.le_refl _, fun _ _ _ => rfl, fun _ h => .inl h⟩
theorem Fr.flow {a : Ad} {M M' : Mem} (f : FlAt M a.i M') (R' : List Rw) : Fr a M M' R' R' :=
  ⟨Nat.le_of_eq f.len.symm, fun x _ ho => f.other fun z => ho (.inl (by rw [← z]; simp [Ad.all])), fun _ h => .inl h⟩
theorem Fr.set {a : Ad} {M : Mem} {R' : List Rw} {j : Nat} (c : Cell) (hj : Own a R' j) : Fr a M (M.set j c) R' R' :=
  ⟨by rw [List.length_set]; exact Nat.le_refl _, fun x _ ho => by rw [List.getElem?_set_ne fun z => ho (by rw [← z]; exact hj)], fun _ h => .inl h⟩
theorem Fr.rows {a : Ad} {M M' : Mem} {R' R1 : List Rw} {p : Nat} {x : Rw} (h : Fr a M M' R' R1) (hp : R1[p]? = some x) (row : List Th) (b : Bool) : Fr a M M' R' (R1.set p ⟨x.c, x.r, row, b⟩) := by
  refine ⟨h.le, h.same, fun y hy => ?_⟩
  rcases hy with hy | ⟨k, z, hz, hc⟩
  · exact h.nw y (.inl hy)
  · rcases get_set hz with ⟨rfl, rfl⟩ | ⟨hk, g⟩
    · exact h.nw y (.inr ⟨k, x, hp, hc⟩)
    · exact h.nw y (.inr ⟨k, z, g, hc⟩)
theorem own_all {a : Ad} {R' : List Rw} {x : Nat} (h : x ∈ a.all) : Own a R' x := .inl h
theorem W12.tell {M : Mem} {a : Ad} {T : Tab} {R' : List Rw} {told : List (Nat × Nat)} {n : Nat} (h : W12 M a T R' told n) (told' : List (Nat × Nat)) (hl : told'.length ≤ n) : W12 (M.set a.td (.lst (told'.map hdN))) a T R' told' n ∧ Fr a M (M.set a.td (.lst (told'.map hdN))) R' R' := by
  have ne := Ne7.of h.ne
  have ftd := h.fc a.td (by simp [Ad.all])
  obtain ⟨M3, hM3⟩ : ∃ M3, M.set a.td (.lst (told'.map hdN)) = M3 := ⟨_, rfl⟩
  have s3 : ∀ j, a.td ≠ j → M3[j]? = M[j]? := fun j hj => by rw [← hM3, List.getElem?_set_ne hj]
  have fr : Fr a M (M.set a.td (.lst (told'.map hdN))) R' R' := .set _ (own_all (by simp [Ad.all]))
  have td3 : M3[a.td]? = some (.lst (told'.map hdN)) := by rw [← hM3]; exact List.getElem?_set_self (lt_of_get h.td)
  rw [hM3] at fr ⊢
  exact ⟨⟨fl_keep h.fl (s3 _ ne.itd.symm), h.tb.keep (s3 _ ne.btd.symm) (s3 _ ne.utd.symm) (s3 _ ne.ttd.symm) (s3 _ ne.ktd.symm), h.ml.keep (s3 _ ne.mtd.symm) fun k z hz => ⟨s3 _ (ftd k z hz).1, s3 _ (ftd k z hz).2⟩, h.tie, td3, h.th, h.kn, hl, h.ne, h.fc⟩, fr⟩
structure Mid (M : Mem) (a : Ad) (T : Tab) (R2 : List Rw) (told : List (Nat × Nat)) (n : Nat) (y : Th) (f r : Nat) : Prop where
  fl : FlAt M a.i M
  tb : TabAt M a.b a.u a.t a.k T
  ml : Ml M a.m R2 n
  tie : Tie (T.putAt f y) R2
  td : M[a.td]? = some (.lst (told.map hdN))
  th : T.there.length + 1 ≤ n
  kn : T.known.length + 1 ≤ n
  tl : told.length ≤ n
  ne : a.all.Nodup
  fc : ∀ j ∈ a.all, ∀ (k : Nat) (x : Rw), R2[k]? = some x → j ≠ x.c ∧ j ≠ x.r
  hnk : ¬ y ∈ T.known
  has1 : ∀ q, q < f → T.has q = true
  has2 : T.has f = false
  hfu : f ≤ T.used.length
  ul : T.used.length ≤ n
  hg : (T.us f).getD f 0 = r
theorem W12.mid {M : Mem} {a : Ad} {T : Tab} {R' : List Rw} {told : List (Nat × Nat)} {n : Nat} (h : W12 M a T R' told n) (hn : n < 1000) (y : Th) (hy : ¬ ∃ x ∈ R', y ∈ x.row) :
    ∃ M1 R2 f r, g_law_model_put [.ref a.m, thD y] M = .ok (.tup [.int (f : Nat), .int (r : Nat)]) M1 ∧ Mid M1 a T R2 told (n + 2) y f r ∧ Fr a M M1 R' R2 := by
  have ne := Ne7.of h.ne
  have F := h.fc
  obtain ⟨f, x, R1, M1, up, hx, hb, lt, e1, ml1, len1, s1⟩ := mput_new h.ml (by omega) y hy
  obtain ⟨tp, hg, hfu⟩ := h.tie.putAt up hx hb y
  have lts := h.tb.lt
  have lti : a.i < M.length := h.fl.lt
  have lttd : a.td < M.length := lt_of_get h.td
  have far : ∀ j ∈ a.all, j < M.length → j ≠ a.m → M1[j]? = M[j]? := fun j hj hl hm => s1 j hl hm fun z hz => by
    obtain ⟨k, hk⟩ := List.getElem?_of_mem hz
    exact F j hj k z hk
  have tb1 : TabAt M1 a.b a.u a.t a.k T := h.tb.keep (far _ (by simp [Ad.all]) lts.1 ne.bm) (far _ (by simp [Ad.all]) lts.2.1 ne.um) (far _ (by simp [Ad.all]) lts.2.2.1 ne.tm) (far _ (by simp [Ad.all]) lts.2.2.2 ne.km)
  have hnk : ¬ y ∈ T.known := fun z => by
    obtain ⟨k, w, hw, hyw⟩ := (h.tie.known y).mp z
    exact hy ⟨w, List.mem_of_getElem? hw, hyw⟩
  have has1 : ∀ q, q < f → T.has q = true := fun q hq => h.tie.has.mpr (lt q hq)
  have has2 : T.has f = false := by
    cases hc : T.has f with
    | false => rfl
    | true =>
      obtain ⟨z, hz, hzb⟩ := h.tie.has.mp hc
      rcases up with ⟨rfl, _⟩ | ⟨rfl, c, r, _, _, rfl⟩
      · rw [hx] at hz; cases hz; rw [hb] at hzb; cases hzb
      · exact absurd (List.getElem?_eq_some_iff.mp hz).1 (by omega)
  have ul : T.used.length ≤ n := by rw [h.tie.used, List.length_map]; exact h.ml.few
  have hth := h.th
  have hkn := h.kn
  have htl := h.tl
  have rows : ∀ (k : Nat) (z : Rw), (R1.set f ⟨x.c, x.r, x.row ++ [y], true⟩)[k]? = some z → (∃ (k : Nat) (z0 : Rw), R'[k]? = some z0 ∧ z.c = z0.c ∧ z.r = z0.r) ∨ (M.length ≤ z.c ∧ M.length ≤ z.r) := by
    have main : ∀ (k : Nat) (z : Rw), R1[k]? = some z → (∃ (k : Nat) (z0 : Rw), R'[k]? = some z0 ∧ z.c = z0.c ∧ z.r = z0.r) ∨ (M.length ≤ z.c ∧ M.length ≤ z.r) := by
      intro k z hz
      rcases up with ⟨rfl, _⟩ | ⟨rfl, c, r, hc, hr, rfl⟩
      · exact .inl ⟨k, z, hz, rfl, rfl⟩
      · rcases get_app hz with ⟨rfl, rfl⟩ | ⟨hk, g1⟩
        · exact .inr ⟨hc, hr⟩
        · exact .inl ⟨k, z, g1, rfl, rfl⟩
    intro k z hz
    rcases get_set hz with ⟨rfl, rfl⟩ | ⟨hk, g⟩
    · exact main k x hx
    · exact main k z g
  have ltall : ∀ j ∈ a.all, j < M.length := fun j hj => by
    simp only [Ad.all, List.mem_cons, List.not_mem_nil, or_false] at hj
    rcases hj with rfl | rfl | rfl | rfl | rfl | rfl | rfl
    · exact lti
    · exact lts.1
    · exact lts.2.1
    · exact lts.2.2.1
    · exact lts.2.2.2
    · exact h.ml.lts.1
    · exact lttd
  have fc2 : ∀ j ∈ a.all, ∀ (k : Nat) (z : Rw), (R1.set f ⟨x.c, x.r, x.row ++ [y], true⟩)[k]? = some z → j ≠ z.c ∧ j ≠ z.r := fun j hj k z hz => by
    have hl := ltall j hj
    rcases rows k z hz with ⟨k0, z0, h0, e1, e2⟩ | ⟨e1, e2⟩
    · rw [e1, e2]; exact F j hj k0 z0 h0
    · exact ⟨Nat.ne_of_lt (Nat.lt_of_lt_of_le hl e1), Nat.ne_of_lt (Nat.lt_of_lt_of_le hl e2)⟩
  refine ⟨M1, R1.set f ⟨x.c, x.r, x.row ++ [y], true⟩, f, x.row.length, e1, ⟨fl_keep h.fl (far _ (by simp [Ad.all]) lti ne.im), tb1, ml1, tp, (far _ (by simp [Ad.all]) lttd ne.mtd.symm).trans h.td, by omega, by omega, by omega, h.ne, fc2, hnk, has1, has2, hfu, by omega, hg⟩, len1, fun w hw ho => ?_, fun w hw => ?_⟩
  · refine s1 w hw (fun z => ho (.inl (by rw [z]; simp [Ad.all]))) fun z hz => ?_
    obtain ⟨k, hk⟩ := List.getElem?_of_mem hz
    exact ⟨fun e => ho (.inr ⟨k, z, hk, .inl e⟩), fun e => ho (.inr ⟨k, z, hk, .inr e⟩)⟩
  · rcases hw with hw | ⟨k, z, hz, hc⟩
    · exact .inl (.inl hw)
    · rcases rows k z hz with ⟨k0, z0, h0, e1, e2⟩ | ⟨e1, e2⟩
      · exact .inl (.inr ⟨k0, z0, h0, by rw [← e1, ← e2]; exact hc⟩)
      · rcases hc with rfl | rfl
        · exact .inr e1
        · exact .inr e2
theorem Mid.tell {M : Mem} {a : Ad} {T : Tab} {R2 : List Rw} {told : List (Nat × Nat)} {n f r : Nat} {y : Th} (h : Mid M a T R2 told n y f r) (told' : List (Nat × Nat)) (hl : told'.length ≤ n) : Mid (M.set a.td (.lst (told'.map hdN))) a T R2 told' n y f r ∧ Fr a M (M.set a.td (.lst (told'.map hdN))) R2 R2 := by
  have ne := Ne7.of h.ne
  have ftd := h.fc a.td (by simp [Ad.all])
  obtain ⟨M3, hM3⟩ : ∃ M3, M.set a.td (.lst (told'.map hdN)) = M3 := ⟨_, rfl⟩
  have s3 : ∀ j, a.td ≠ j → M3[j]? = M[j]? := fun j hj => by rw [← hM3, List.getElem?_set_ne hj]
  have fr : Fr a M (M.set a.td (.lst (told'.map hdN))) R2 R2 := .set _ (own_all (by simp [Ad.all]))
  have td3 : M3[a.td]? = some (.lst (told'.map hdN)) := by rw [← hM3]; exact List.getElem?_set_self (lt_of_get h.td)
  rw [hM3] at fr ⊢
  exact ⟨⟨fl_keep h.fl (s3 _ ne.itd.symm), h.tb.keep (s3 _ ne.btd.symm) (s3 _ ne.utd.symm) (s3 _ ne.ttd.symm) (s3 _ ne.ktd.symm), h.ml.keep (s3 _ ne.mtd.symm) fun k z hz => ⟨s3 _ (ftd k z hz).1, s3 _ (ftd k z hz).2⟩, h.tie, td3, h.th, h.kn, hl, h.ne, h.fc, h.hnk, h.has1, h.has2, h.hfu, h.ul, h.hg⟩, fr⟩
theorem Mid.board {M : Mem} {a : Ad} {T : Tab} {R2 : List Rw} {told : List (Nat × Nat)} {n f r : Nat} {y : Th} (h : Mid M a T R2 told n y f r) (hn : n < 2000) :
    ∃ M2, g_Table_put [.ref a.b, .str y.1, .int y.2] M = .ok (.tup [.int f, .int r]) M2 ∧ W12 M2 a (T.putAt f y) R2 told n ∧ Fr a M M2 R2 R2 := by
  have ne := Ne7.of h.ne
  have F := h.fc
  have hth := h.th
  have hkn := h.kn
  have hul := h.ul
  obtain ⟨M2, e2, tb2, len2, s2⟩ := put_new h.tb y h.hnk (by omega) (by omega) (by omega) (places f T.there fun q hq => has_iff.mp (h.has1 q hq)) h.has1 h.has2 h.hfu
  rw [h.hg] at e2
  have fu := F a.u (by simp [Ad.all])
  have ft := F a.t (by simp [Ad.all])
  have fk := F a.k (by simp [Ad.all])
  refine ⟨M2, e2, ⟨fl_keep h.fl (s2 _ ne.iu ne.it ne.ik), tb2, h.ml.keep (s2 _ ne.um.symm ne.tm.symm ne.km.symm) fun k z hz => ⟨s2 _ (fu k z hz).1.symm (ft k z hz).1.symm (fk k z hz).1.symm, s2 _ (fu k z hz).2.symm (ft k z hz).2.symm (fk k z hz).2.symm⟩, h.tie, (s2 _ ne.utd.symm ne.ttd.symm ne.ktd.symm).trans h.td, ?_, ?_, h.tl, h.ne, h.fc⟩, Nat.le_of_eq len2.symm, fun w hw ho => ?_, fun _ hw => .inl hw⟩
  · unfold Tab.putAt; simp only [List.length_append, List.length_singleton]; omega
  · unfold Tab.putAt; simp only [List.length_append, List.length_singleton]; omega
  · exact s2 w (fun z => ho (.inl (by rw [z]; simp [Ad.all]))) (fun z => ho (.inl (by rw [z]; simp [Ad.all]))) (fun z => ho (.inl (by rw [z]; simp [Ad.all])))
theorem W12.drop_fr {M : Mem} {a : Ad} {T : Tab} {R' : List Rw} {p : Nat} {x : Rw} (hp : R'[p]? = some x) (c : Cell) :
    Fr a M ((M.set a.t c).set x.c (.lst [.ref x.r, .bl false])) R' (R'.set p ⟨x.c, x.r, x.row, false⟩) :=
  ((Fr.set c (own_all (by simp [Ad.all]))).trans (.set _ (.inr ⟨p, x, hp, .inl rfl⟩))).rows hp _ _
/-! ### deeds, framed -/
theorem put15 {M : Mem} {a : Ad} {T : Tab} {R' : List Rw} {told : List (Nat × Nat)} {n v : Nat} (h : W12 M a T R' told n) (hn : n < 1000) (hv : v < 3) {P : List Th} (h0 : 0 < P.length) (hl : P.length < 1000) :
    ∃ M' T' R2 told', deedPut [some (.ref a.i), some (.ref a.b), some (.ref a.m), some (.lst (P.map thD)), some (.ref a.td), some (.int (v : Int)), none, none, none, none] M = .ok (.rt (.bl true)) M' ∧ W12 M' a T' R2 told' (n + 2) ∧ Fr a M M' R' R2 := by
  have z : decide ((v : Int) < 3) = true := decide_eq_true (by omega)
  obtain ⟨w, M0, w1, f0, e0⟩ := draw_eq h.fl (P.length : Int) (by omega) (by omega)
  have h0 := h.flow f0
  have hw : w < P.length := by omega
  obtain ⟨y, hy⟩ : ∃ y, P[w] = y := ⟨_, rfl⟩
  have x1 : atI (P.map thD) (w : Int) = some (thD y) := atI_nat (by rw [List.getElem?_map, List.getElem?_eq_getElem hw, hy]; rfl)
  have y0 : ∀ M, oIx (thD y) (.int 0) M = .ok (.str y.1) M := fun _ => rfl
  have y1 : ∀ M, oIx (thD y) (.int 1) M = .ok (.int y.2) M := fun _ => rfl
  have lm : (P.map thD).length = P.length := List.length_map _
  obtain ⟨PD, hPD⟩ : ∃ PD, P.map thD = PD := ⟨_, rfl⟩
  rw [hPD] at x1 lm ⊢
  by_cases c : ∃ x ∈ R', y ∈ x.row
  · have e1 := mput_old h0.ml (by omega) y c
    have hk : y ∈ T.known := by
      obtain ⟨x, hx, hyx⟩ := c
      obtain ⟨k, hk⟩ := List.getElem?_of_mem hx
      exact (h.tie.known y).mpr ⟨k, x, hk, hyx⟩
    have e2 := put_old h0.tb y hk
    have n0 : ∀ M, oIsN true .non M = .ok (.bl false) M := fun _ => rfl
    have e3 := al1 .non rfl (by show 1 ≤ 100; omega) M0
    refine ⟨M0, T, R', told, ?_, h0.mono (by omega), .flow f0 R'⟩
    unfold deedPut
    simp -implicitDefEqProofs only [mSeq_eq, mIfS_eq, mSet_eq, mRet_eq, mRetN_eq, mExpr_eq, mPass_eq, mAsg_eq, mPar_eq, mAug_eq, bOf_eq, tOf_eq, tAndM_eq, tOrM_eq, tNotM_eq, tsYes_eq, mOp_eq, mUn_eq, mVar_eq, mC_eq, mCall_eq, mFun_eq, mFunKw_eq, mMeth_eq, mAnd_eq, mOr_eq, mNot_eq, mIf_eq, mChain_eq, mSl_eq, pNone_eq, pSome_eq, aCons_eq, aNil_eq, mTup_eq, mLst_eq, gN_eq, gT_eq, gsNil_eq, gsCons_eq, mkL_t, mkL_f, R.bind_ok, R.bind_no, R.nox_ok, List.getElem?_cons_zero, List.getElem?_cons_succ, List.set_cons_zero, List.set_cons_succ, List.length_cons, List.length_nil, List.append_nil, List.nil_append, List.cons_append, piApp_on, oLen_fz, oLen_lst, oLen_tup, oLt_int, oLe_int, oGt_int, oGe_int, oAdd_int, oSub_int, oIx_fz, oIx_lst, oIx_tup, oMax_int, oMin_int, oInt_bl, oInt_int, oIsi_bl, oNeg_int, oTuple_lst, oTuple_tup, iR1_eq, iR2_eq, iSq_eq, iStrM_eq, srcOf_tup, srcOf_lst, srcOf_fz, if_true, if_false, Bool.false_eq_true, Bool.true_eq_false, reduceIte, Nat.reduceAdd, Nat.reduceLeDiff, Nat.reduceEqDiff, decide_true, decide_false, and_self, and_true, true_and, z, lm, e0, x1, e1, mMth_eq, insOf_at h0.tb.ins, lk_put, y0, y1, e2, n0, e3]
  · obtain ⟨M1, R2, f, r, e1, mid, fr1⟩ := h0.mid hn y c
    obtain ⟨M2, e2, w2, fr2⟩ := mid.board (by omega)
    have htl := h.tl
    obtain ⟨w3, fr3⟩ := w2.tell (told ++ [(f, r)]) (by rw [List.length_append, List.length_singleton]; omega)
    obtain ⟨M3, hM3⟩ : ∃ M3, M2.set a.td (.lst ((told ++ [(f, r)]).map hdN)) = M3 := ⟨_, rfl⟩
    rw [hM3] at w3 fr3
    have n0 : ∀ M, oIsN true (.tup [.int (f : Int), .int (r : Int)]) M = .ok (.bl true) M := fun _ => rfl
    have ap := oAppend_at (d := .tup [.int (f : Int), .int (r : Int)]) w2.td (by rw [List.length_map]; omega)
    have ae : (told.map hdN) ++ [.tup [.int (f : Int), .int (r : Int)]] = (told ++ [(f, r)]).map hdN := by rw [List.map_append]; rfl
    rw [ae, hM3] at ap
    have e3 := al1 (.tup [.int (f : Int), .int (r : Int)]) rfl (by show 3 ≤ 100; omega) M3
    refine ⟨M3, _, R2, told ++ [(f, r)], ?_, w3, (Fr.flow f0 R').trans (fr1.trans (fr2.trans fr3))⟩
    unfold deedPut
    simp -implicitDefEqProofs only [mSeq_eq, mIfS_eq, mSet_eq, mRet_eq, mRetN_eq, mExpr_eq, mPass_eq, mAsg_eq, mPar_eq, mAug_eq, bOf_eq, tOf_eq, tAndM_eq, tOrM_eq, tNotM_eq, tsYes_eq, mOp_eq, mUn_eq, mVar_eq, mC_eq, mCall_eq, mFun_eq, mFunKw_eq, mMeth_eq, mAnd_eq, mOr_eq, mNot_eq, mIf_eq, mChain_eq, mSl_eq, pNone_eq, pSome_eq, aCons_eq, aNil_eq, mTup_eq, mLst_eq, gN_eq, gT_eq, gsNil_eq, gsCons_eq, mkL_t, mkL_f, R.bind_ok, R.bind_no, R.nox_ok, List.getElem?_cons_zero, List.getElem?_cons_succ, List.set_cons_zero, List.set_cons_succ, List.length_cons, List.length_nil, List.append_nil, List.nil_append, List.cons_append, piApp_on, oLen_fz, oLen_lst, oLen_tup, oLt_int, oLe_int, oGt_int, oGe_int, oAdd_int, oSub_int, oIx_fz, oIx_lst, oIx_tup, oMax_int, oMin_int, oInt_bl, oInt_int, oIsi_bl, oNeg_int, oTuple_lst, oTuple_tup, iR1_eq, iR2_eq, iSq_eq, iStrM_eq, srcOf_tup, srcOf_lst, srcOf_fz, if_true, if_false, Bool.false_eq_true, Bool.true_eq_false, reduceIte, Nat.reduceAdd, Nat.reduceLeDiff, Nat.reduceEqDiff, decide_true, decide_false, and_self, and_true, true_and, z, lm, e0, x1, e1, mMth_eq, insOf_at mid.tb.ins, lk_put, y0, y1, e2, n0, tyOk_at w2.td, ap, e3]
/-- a board's drop beside the model's -/
theorem drop15 {M : Mem} {a : Ad} {T : Tab} {R' : List Rw} {told : List (Nat × Nat)} {n : Nat} (h : W12 M a T R' told n) (p q : Nat) :
    ∃ (b : Bool) (M1 M2 : Mem) (T' : Tab) (R2 : List Rw), g_Table_drop [.ref a.b, .tup [.int p, .int q]] M = .ok (.bl b) M1 ∧ g_law_model_drop [.ref a.m, .tup [.int p, .int q]] M1 = .ok (.bl b) M2 ∧ W12 M2 a T' R2 told n ∧ Fr a M M2 R' R2 := by
  have le := h.tie.leads p q
  have e2 := drop_eq h.tb p q
  rw [le] at e2
  cases hL : ldM R' p q with
  | none =>
    rw [hL] at e2
    exact ⟨false, M, M, T, R', e2, mdrop_none h.ml hL, h, .refl a M R'⟩
  | some y =>
    rw [hL] at e2
    obtain ⟨x, hx, _⟩ := ldM_some hL
    obtain ⟨ml2, w2⟩ := h.drop hx
    exact ⟨true, _, _, _, _, e2, mdrop_some ml2 hL hx, w2, W12.drop_fr (T := T) hx _⟩
theorem leads15 {M : Mem} {a : Ad} {T : Tab} {R' : List Rw} {told : List (Nat × Nat)} {n : Nat} (h : W12 M a T R' told n) (p q : Nat) :
    ∃ d : D, g_Table_leads [.ref a.b, .tup [.int p, .int q]] M = .ok d M ∧ g_law_model_leads [.ref a.m, .tup [.int p, .int q]] M = .ok d M ∧ g_law_alike [.tup [d], .tup [d]] M = .ok (.bl true) M := by
  have le := h.tie.leads p q
  have e2 := leads_eq h.tb p q
  have e3 := mleads_eq h.ml p q
  rw [le, optD_dOp] at e2
  refine ⟨_, e2, e3, ?_⟩
  cases ldM R' p q with
  | none => exact al1 .non rfl (by show 1 ≤ 100; omega) M
  | some y => exact al1 (thD y) rfl (by show 3 ≤ 100; omega) M
theorem rest15 {M : Mem} {a : Ad} {T : Tab} {R' : List Rw} {told : List (Nat × Nat)} {n v : Nat} (h : W12 M a T R' told n) (hn : n < 1000) (PD : D) :
    ∃ M' T' R2 told', deedRest [some (.ref a.i), some (.ref a.b), some (.ref a.m), some PD, some (.ref a.td), some (.int (v : Int)), none, none, none, none] M = .ok (.rt (.bl true)) M' ∧ W12 M' a T' R2 told' (n + 2) ∧ Fr a M M' R' R2 := by
  have ne := Ne7.of h.ne
  obtain ⟨p, q, M1, f1, e1⟩ := handle_eq h.fl h.td ne.itd (by have := h.tl; omega)
  have h1 := h.flow f1
  have i1 := insOf_at h1.tb.ins
  by_cases c : v = 3
  · have z : ((v : Int) == 3) = true := by simp; omega
    obtain ⟨d, e2, e3, e4⟩ := leads15 h1 p q
    refine ⟨M1, T, R', told, ?_, h1.mono (by omega), .flow f1 R'⟩
    unfold deedRest
    simp -implicitDefEqProofs only [mSeq_eq, mIfS_eq, mSet_eq, mRet_eq, mRetN_eq, mExpr_eq, mPass_eq, mAsg_eq, mPar_eq, mAug_eq, bOf_eq, tOf_eq, tAndM_eq, tOrM_eq, tNotM_eq, tsYes_eq, mOp_eq, mUn_eq, mVar_eq, mC_eq, mCall_eq, mFun_eq, mFunKw_eq, mMeth_eq, mAnd_eq, mOr_eq, mNot_eq, mIf_eq, mChain_eq, mSl_eq, pNone_eq, pSome_eq, aCons_eq, aNil_eq, mTup_eq, mLst_eq, gN_eq, gT_eq, gsNil_eq, gsCons_eq, mkL_t, mkL_f, R.bind_ok, R.bind_no, R.nox_ok, List.getElem?_cons_zero, List.getElem?_cons_succ, List.set_cons_zero, List.set_cons_succ, List.length_cons, List.length_nil, List.append_nil, List.nil_append, List.cons_append, piApp_on, oLen_fz, oLen_lst, oLen_tup, oLt_int, oLe_int, oGt_int, oGe_int, oAdd_int, oSub_int, oIx_fz, oIx_lst, oIx_tup, oMax_int, oMin_int, oInt_bl, oInt_int, oIsi_bl, oNeg_int, oTuple_lst, oTuple_tup, iR1_eq, iR2_eq, iSq_eq, iStrM_eq, srcOf_tup, srcOf_lst, srcOf_fz, if_true, if_false, Bool.false_eq_true, Bool.true_eq_false, reduceIte, Nat.reduceAdd, Nat.reduceLeDiff, Nat.reduceEqDiff, decide_true, decide_false, and_self, and_true, true_and, e1, oEq_int, z, mMth_eq, i1, lk_leads, e2, e3, e4]
  · have z : ((v : Int) == 3) = false := by simp; omega
    obtain ⟨b, M2, M3, T', R2, e2, e3, w, fr⟩ := drop15 h1 p q
    have e4 := al1 (.bl b) rfl (by show 1 ≤ 100; omega) M3
    refine ⟨M3, T', R2, told, ?_, w.mono (by omega), (Fr.flow f1 R').trans fr⟩
    unfold deedRest
    simp -implicitDefEqProofs only [mSeq_eq, mIfS_eq, mSet_eq, mRet_eq, mRetN_eq, mExpr_eq, mPass_eq, mAsg_eq, mPar_eq, mAug_eq, bOf_eq, tOf_eq, tAndM_eq, tOrM_eq, tNotM_eq, tsYes_eq, mOp_eq, mUn_eq, mVar_eq, mC_eq, mCall_eq, mFun_eq, mFunKw_eq, mMeth_eq, mAnd_eq, mOr_eq, mNot_eq, mIf_eq, mChain_eq, mSl_eq, pNone_eq, pSome_eq, aCons_eq, aNil_eq, mTup_eq, mLst_eq, gN_eq, gT_eq, gsNil_eq, gsCons_eq, mkL_t, mkL_f, R.bind_ok, R.bind_no, R.nox_ok, List.getElem?_cons_zero, List.getElem?_cons_succ, List.set_cons_zero, List.set_cons_succ, List.length_cons, List.length_nil, List.append_nil, List.nil_append, List.cons_append, piApp_on, oLen_fz, oLen_lst, oLen_tup, oLt_int, oLe_int, oGt_int, oGe_int, oAdd_int, oSub_int, oIx_fz, oIx_lst, oIx_tup, oMax_int, oMin_int, oInt_bl, oInt_int, oIsi_bl, oNeg_int, oTuple_lst, oTuple_tup, iR1_eq, iR2_eq, iSq_eq, iStrM_eq, srcOf_tup, srcOf_lst, srcOf_fz, if_true, if_false, Bool.false_eq_true, Bool.true_eq_false, reduceIte, Nat.reduceAdd, Nat.reduceLeDiff, Nat.reduceEqDiff, decide_true, decide_false, and_self, and_true, true_and, e1, oEq_int, z, mMth_eq, i1, lk_drop, e2, e3, e4]
theorem deed15 {M : Mem} {a : Ad} {T : Tab} {R' : List Rw} {told : List (Nat × Nat)} {n : Nat} (h : W12 M a T R' told n) (hn : n < 1000) {P : List Th} (h0 : 0 < P.length) (hl : P.length < 1000) :
    ∃ M' T' R2 told', g_law_deed [.ref a.i, .ref a.b, .ref a.m, .lst (P.map thD), .ref a.td] M = .ok (.bl true) M' ∧ W12 M' a T' R2 told' (n + 2) ∧ Fr a M M' R' R2 := by
  obtain ⟨v, M1, v1, f1, e1⟩ := draw_eq h.fl 6 (by omega) (by omega)
  have h1 := h.flow f1
  by_cases c : v < 3
  · obtain ⟨M', T', R2, told', e2, w, fr⟩ := put15 h1 hn c h0 hl
    refine ⟨M', T', R2, told', runB_rt (N := 10) (?_ : B_law_deed [some (.ref a.i), some (.ref a.b), some (.ref a.m), some (.lst (P.map thD)), some (.ref a.td), none, none, none, none, none] M = _), w, (Fr.flow f1 R').trans fr⟩
    rw [deed_is]
    simp -implicitDefEqProofs only [mSeq_eq, mIfS_eq, mSet_eq, mRet_eq, mRetN_eq, mExpr_eq, mPass_eq, mAsg_eq, mPar_eq, mAug_eq, bOf_eq, tOf_eq, tAndM_eq, tOrM_eq, tNotM_eq, tsYes_eq, mOp_eq, mUn_eq, mVar_eq, mC_eq, mCall_eq, mFun_eq, mFunKw_eq, mMeth_eq, mAnd_eq, mOr_eq, mNot_eq, mIf_eq, mChain_eq, mSl_eq, pNone_eq, pSome_eq, aCons_eq, aNil_eq, mTup_eq, mLst_eq, gN_eq, gT_eq, gsNil_eq, gsCons_eq, mkL_t, mkL_f, R.bind_ok, R.bind_no, R.nox_ok, List.getElem?_cons_zero, List.getElem?_cons_succ, List.set_cons_zero, List.set_cons_succ, List.length_cons, List.length_nil, List.append_nil, List.nil_append, List.cons_append, piApp_on, oLen_fz, oLen_lst, oLen_tup, oLt_int, oLe_int, oGt_int, oGe_int, oAdd_int, oSub_int, oIx_fz, oIx_lst, oIx_tup, oMax_int, oMin_int, oInt_bl, oInt_int, oIsi_bl, oNeg_int, oTuple_lst, oTuple_tup, iR1_eq, iR2_eq, iSq_eq, iStrM_eq, srcOf_tup, srcOf_lst, srcOf_fz, if_true, if_false, Bool.false_eq_true, Bool.true_eq_false, reduceIte, Nat.reduceAdd, Nat.reduceLeDiff, Nat.reduceEqDiff, decide_true, decide_false, and_self, and_true, true_and, e1, e2]
  · obtain ⟨M', T', R2, told', e2, w, fr⟩ := rest15 (v := v) h1 hn (.lst (P.map thD))
    have z : decide ((v : Int) < 3) = false := decide_eq_false (by omega)
    have e3 : deedPut [some (.ref a.i), some (.ref a.b), some (.ref a.m), some (.lst (P.map thD)), some (.ref a.td), some (.int (v : Int)), none, none, none, none] M1 = .ok (.nx [some (.ref a.i), some (.ref a.b), some (.ref a.m), some (.lst (P.map thD)), some (.ref a.td), some (.int (v : Int)), none, none, none, none]) M1 := by
      unfold deedPut
      simp -implicitDefEqProofs only [mSeq_eq, mIfS_eq, mSet_eq, mRet_eq, mRetN_eq, mExpr_eq, mPass_eq, mAsg_eq, mPar_eq, mAug_eq, bOf_eq, tOf_eq, tAndM_eq, tOrM_eq, tNotM_eq, tsYes_eq, mOp_eq, mUn_eq, mVar_eq, mC_eq, mCall_eq, mFun_eq, mFunKw_eq, mMeth_eq, mAnd_eq, mOr_eq, mNot_eq, mIf_eq, mChain_eq, mSl_eq, pNone_eq, pSome_eq, aCons_eq, aNil_eq, mTup_eq, mLst_eq, gN_eq, gT_eq, gsNil_eq, gsCons_eq, mkL_t, mkL_f, R.bind_ok, R.bind_no, R.nox_ok, List.getElem?_cons_zero, List.getElem?_cons_succ, List.set_cons_zero, List.set_cons_succ, List.length_cons, List.length_nil, List.append_nil, List.nil_append, List.cons_append, piApp_on, oLen_fz, oLen_lst, oLen_tup, oLt_int, oLe_int, oGt_int, oGe_int, oAdd_int, oSub_int, oIx_fz, oIx_lst, oIx_tup, oMax_int, oMin_int, oInt_bl, oInt_int, oIsi_bl, oNeg_int, oTuple_lst, oTuple_tup, iR1_eq, iR2_eq, iSq_eq, iStrM_eq, srcOf_tup, srcOf_lst, srcOf_fz, if_true, if_false, Bool.false_eq_true, Bool.true_eq_false, reduceIte, Nat.reduceAdd, Nat.reduceLeDiff, Nat.reduceEqDiff, decide_true, decide_false, and_self, and_true, true_and, z]
    refine ⟨M', T', R2, told', runB_rt (N := 10) (?_ : B_law_deed [some (.ref a.i), some (.ref a.b), some (.ref a.m), some (.lst (P.map thD)), some (.ref a.td), none, none, none, none, none] M = _), w, (Fr.flow f1 R').trans fr⟩
    rw [deed_is]
    simp -implicitDefEqProofs only [mSeq_eq, mIfS_eq, mSet_eq, mRet_eq, mRetN_eq, mExpr_eq, mPass_eq, mAsg_eq, mPar_eq, mAug_eq, bOf_eq, tOf_eq, tAndM_eq, tOrM_eq, tNotM_eq, tsYes_eq, mOp_eq, mUn_eq, mVar_eq, mC_eq, mCall_eq, mFun_eq, mFunKw_eq, mMeth_eq, mAnd_eq, mOr_eq, mNot_eq, mIf_eq, mChain_eq, mSl_eq, pNone_eq, pSome_eq, aCons_eq, aNil_eq, mTup_eq, mLst_eq, gN_eq, gT_eq, gsNil_eq, gsCons_eq, mkL_t, mkL_f, R.bind_ok, R.bind_no, R.nox_ok, List.getElem?_cons_zero, List.getElem?_cons_succ, List.set_cons_zero, List.set_cons_succ, List.length_cons, List.length_nil, List.append_nil, List.nil_append, List.cons_append, piApp_on, oLen_fz, oLen_lst, oLen_tup, oLt_int, oLe_int, oGt_int, oGe_int, oAdd_int, oSub_int, oIx_fz, oIx_lst, oIx_tup, oMax_int, oMin_int, oInt_bl, oInt_int, oIsi_bl, oNeg_int, oTuple_lst, oTuple_tup, iR1_eq, iR2_eq, iSq_eq, iStrM_eq, srcOf_tup, srcOf_lst, srcOf_fz, if_true, if_false, Bool.false_eq_true, Bool.true_eq_false, reduceIte, Nat.reduceAdd, Nat.reduceLeDiff, Nat.reduceEqDiff, decide_true, decide_false, and_self, and_true, true_and, e1, e3, e2]
/-! ### deeds by the arguments' names -/
theorem mMthKw_eq (c0 : Nat) (x : Str) (n nk np : Nat) (π : Perm2) (dd : List D) (g : FD) (fo : FE) (ga gk : FA) {env : Fn.Env} {M : Mem} : mMthKw c0 x n nk np π dd g fo ga gk env M = (fo env M).bind fun d m => match insOf c0 m d with
  | some (_, fs) => match fs.lookup x with
    | none => (ga env m).bind fun ds m1 => (gk env m1).bind fun zs m2 => if ds.length = n ∧ zs.length = nk ∧ (π.on (d :: ds) (zs ++ dd)).length = np then g (π.on (d :: ds) (zs ++ dd)) m2 else .no
    | some _ => .no
  | none => .no := rfl
theorem piSwap (a b c : D) : (piIx [0, 2, 1]).on [a] [b, c] = [a, c, b] := rfl
noncomputable def namPut : FS := (mIfS (bOf (mOp (oEq false) (mFun 2 g_law_draw [] (aCons (mVar 0) (aCons (mC (.int 2)) aNil))) (mC (.int 0)))) (mSeq (mSet 7 (mFun 2 g_law_model_put [] (aCons (mVar 2) (aCons (mTup (aCons (mVar 5) (aCons (mVar 6) aNil))) aNil)))) (mSeq (mIfS (bOf (mUn (oIsN true) (mVar 7))) (mExpr (mMeth "list" oAppend (mVar 4) (aCons (mVar 7) aNil))) mPass) (mRet (mFun 2 g_law_alike [] (aCons (mTup (aCons (mMthKw 0 "put" 0 2 3 (piIx [0, 2, 1]) [] g_Table_put (mVar 1) aNil (aCons (mVar 6) (aCons (mVar 5) aNil))) aNil)) (aCons (mTup (aCons (mVar 7) aNil)) aNil)))))) mPass)
noncomputable def namRest : FS := (mSeq (mSet 8 (mFun 2 g_law_handle [] (aCons (mVar 0) (aCons (mVar 4) aNil)))) (mSeq (mIfS (tNotM (bOf (mFun 2 g_law_alike [] (aCons (mTup (aCons (mMthKw 0 "leads" 0 1 2 piApp [] g_Table_leads (mVar 1) aNil (aCons (mVar 8) aNil)) aNil)) (aCons (mTup (aCons (mFun 2 g_law_model_leads [] (aCons (mVar 2) (aCons (mVar 8) aNil))) aNil)) aNil))))) (mRet (mC (.bl false))) mPass) (mRet (mFun 2 g_law_alike [] (aCons (mTup (aCons (mMthKw 0 "drop" 0 1 2 piApp [] g_Table_drop (mVar 1) aNil (aCons (mVar 8) aNil)) aNil)) (aCons (mTup (aCons (mFun 2 g_law_model_drop [] (aCons (mVar 2) (aCons (mVar 8) aNil))) aNil)) aNil))))))
theorem nam_is : B_law_by_names = mSeq (mAsg (mOp oIx (mVar 3) (mFun 2 g_law_draw [] (aCons (mVar 0) (aCons (mCall oLen (aCons (mVar 3) aNil)) aNil)))) (gT 2 (gsCons (gN 5) (gsCons (gN 6) gsNil)))) (mSeq namPut namRest) := rfl
theorem namPut_eq {M : Mem} {a : Ad} {T : Tab} {R' : List Rw} {told : List (Nat × Nat)} {n : Nat} (h : W12 M a T R' told n) (hn : n < 1000) (y : Th) (PD : D) :
    ∃ M' T' R2 told', W12 M' a T' R2 told' (n + 2) ∧ Fr a M M' R' R2 ∧ (namPut [some (.ref a.i), some (.ref a.b), some (.ref a.m), some PD, some (.ref a.td), some (.str y.1), some (.int y.2), none, none] M = .ok (.rt (.bl true)) M' ∨
      namPut [some (.ref a.i), some (.ref a.b), some (.ref a.m), some PD, some (.ref a.td), some (.str y.1), some (.int y.2), none, none] M = .ok (.nx [some (.ref a.i), some (.ref a.b), some (.ref a.m), some PD, some (.ref a.td), some (.str y.1), some (.int y.2), none, none]) M') := by
  obtain ⟨w, M0, w1, f0, e0⟩ := draw_eq h.fl 2 (by omega) (by omega)
  have h0 := h.flow f0
  by_cases c0 : w = 0
  · have z : ((w : Int) == 0) = true := by rw [c0]; rfl
    by_cases c : ∃ x ∈ R', y ∈ x.row
    · have e1 : g_law_model_put [.ref a.m, .tup [.str y.1, .int y.2]] M0 = .ok .non M0 := mput_old h0.ml (by omega) y c
      have hk : y ∈ T.known := by
        obtain ⟨x, hx, hyx⟩ := c
        obtain ⟨k, hk⟩ := List.getElem?_of_mem hx
        exact (h.tie.known y).mpr ⟨k, x, hk, hyx⟩
      have e2 := put_old h0.tb y hk
      have n0 : ∀ M, oIsN true .non M = .ok (.bl false) M := fun _ => rfl
      have e3 := al1 .non rfl (by show 1 ≤ 100; omega) M0
      refine ⟨M0, T, R', told, h0.mono (by omega), .flow f0 R', .inl ?_⟩
      unfold namPut
      simp -implicitDefEqProofs only [mSeq_eq, mIfS_eq, mSet_eq, mRet_eq, mRetN_eq, mExpr_eq, mPass_eq, mAsg_eq, mPar_eq, mAug_eq, bOf_eq, tOf_eq, tAndM_eq, tOrM_eq, tNotM_eq, tsYes_eq, mOp_eq, mUn_eq, mVar_eq, mC_eq, mCall_eq, mFun_eq, mFunKw_eq, mMeth_eq, mAnd_eq, mOr_eq, mNot_eq, mIf_eq, mChain_eq, mSl_eq, pNone_eq, pSome_eq, aCons_eq, aNil_eq, mTup_eq, mLst_eq, gN_eq, gT_eq, gsNil_eq, gsCons_eq, mkL_t, mkL_f, R.bind_ok, R.bind_no, R.nox_ok, List.getElem?_cons_zero, List.getElem?_cons_succ, List.set_cons_zero, List.set_cons_succ, List.length_cons, List.length_nil, List.append_nil, List.nil_append, List.cons_append, piApp_on, oLen_fz, oLen_lst, oLen_tup, oLt_int, oLe_int, oGt_int, oGe_int, oAdd_int, oSub_int, oIx_fz, oIx_lst, oIx_tup, oMax_int, oMin_int, oInt_bl, oInt_int, oIsi_bl, oNeg_int, oTuple_lst, oTuple_tup, iR1_eq, iR2_eq, iSq_eq, iStrM_eq, srcOf_tup, srcOf_lst, srcOf_fz, if_true, if_false, Bool.false_eq_true, Bool.true_eq_false, reduceIte, Nat.reduceAdd, Nat.reduceLeDiff, Nat.reduceEqDiff, decide_true, decide_false, and_self, and_true, true_and, e0, oEq_int, z, e1, mMthKw_eq, insOf_at h0.tb.ins, lk_put, piSwap, e2, n0, e3]
    · obtain ⟨M1, R2, f, r, e1, mid, fr1⟩ := h0.mid hn y c
      have e1 : g_law_model_put [.ref a.m, .tup [.str y.1, .int y.2]] M0 = .ok (.tup [.int f, .int r]) M1 := e1
      have htl := h.tl
      obtain ⟨mid2, fr2⟩ := mid.tell (told ++ [(f, r)]) (by rw [List.length_append, List.length_singleton]; omega)
      obtain ⟨M2, hM2⟩ : ∃ M2, M1.set a.td (.lst ((told ++ [(f, r)]).map hdN)) = M2 := ⟨_, rfl⟩
      rw [hM2] at mid2 fr2
      obtain ⟨M3, e2, w3, fr3⟩ := mid2.board (by omega)
      have n0 : ∀ M, oIsN true (.tup [.int (f : Int), .int (r : Int)]) M = .ok (.bl true) M := fun _ => rfl
      have ap := oAppend_at (d := .tup [.int (f : Int), .int (r : Int)]) mid.td (by rw [List.length_map]; omega)
      have ae : (told.map hdN) ++ [.tup [.int (f : Int), .int (r : Int)]] = (told ++ [(f, r)]).map hdN := by rw [List.map_append]; rfl
      rw [ae, hM2] at ap
      have e3 := al1 (.tup [.int (f : Int), .int (r : Int)]) rfl (by show 3 ≤ 100; omega) M3
      refine ⟨M3, _, R2, told ++ [(f, r)], w3, (Fr.flow f0 R').trans (fr1.trans (fr2.trans fr3)), .inl ?_⟩
      unfold namPut
      simp -implicitDefEqProofs only [mSeq_eq, mIfS_eq, mSet_eq, mRet_eq, mRetN_eq, mExpr_eq, mPass_eq, mAsg_eq, mPar_eq, mAug_eq, bOf_eq, tOf_eq, tAndM_eq, tOrM_eq, tNotM_eq, tsYes_eq, mOp_eq, mUn_eq, mVar_eq, mC_eq, mCall_eq, mFun_eq, mFunKw_eq, mMeth_eq, mAnd_eq, mOr_eq, mNot_eq, mIf_eq, mChain_eq, mSl_eq, pNone_eq, pSome_eq, aCons_eq, aNil_eq, mTup_eq, mLst_eq, gN_eq, gT_eq, gsNil_eq, gsCons_eq, mkL_t, mkL_f, R.bind_ok, R.bind_no, R.nox_ok, List.getElem?_cons_zero, List.getElem?_cons_succ, List.set_cons_zero, List.set_cons_succ, List.length_cons, List.length_nil, List.append_nil, List.nil_append, List.cons_append, piApp_on, oLen_fz, oLen_lst, oLen_tup, oLt_int, oLe_int, oGt_int, oGe_int, oAdd_int, oSub_int, oIx_fz, oIx_lst, oIx_tup, oMax_int, oMin_int, oInt_bl, oInt_int, oIsi_bl, oNeg_int, oTuple_lst, oTuple_tup, iR1_eq, iR2_eq, iSq_eq, iStrM_eq, srcOf_tup, srcOf_lst, srcOf_fz, if_true, if_false, Bool.false_eq_true, Bool.true_eq_false, reduceIte, Nat.reduceAdd, Nat.reduceLeDiff, Nat.reduceEqDiff, decide_true, decide_false, and_self, and_true, true_and, e0, oEq_int, z, e1, n0, tyOk_at mid.td, ap, mMthKw_eq, insOf_at mid2.tb.ins, lk_put, piSwap, e2, e3]
  · have z : ((w : Int) == 0) = false := by simp; omega
    refine ⟨M0, T, R', told, h0.mono (by omega), .flow f0 R', .inr ?_⟩
    unfold namPut
    simp -implicitDefEqProofs only [mSeq_eq, mIfS_eq, mSet_eq, mRet_eq, mRetN_eq, mExpr_eq, mPass_eq, mAsg_eq, mPar_eq, mAug_eq, bOf_eq, tOf_eq, tAndM_eq, tOrM_eq, tNotM_eq, tsYes_eq, mOp_eq, mUn_eq, mVar_eq, mC_eq, mCall_eq, mFun_eq, mFunKw_eq, mMeth_eq, mAnd_eq, mOr_eq, mNot_eq, mIf_eq, mChain_eq, mSl_eq, pNone_eq, pSome_eq, aCons_eq, aNil_eq, mTup_eq, mLst_eq, gN_eq, gT_eq, gsNil_eq, gsCons_eq, mkL_t, mkL_f, R.bind_ok, R.bind_no, R.nox_ok, List.getElem?_cons_zero, List.getElem?_cons_succ, List.set_cons_zero, List.set_cons_succ, List.length_cons, List.length_nil, List.append_nil, List.nil_append, List.cons_append, piApp_on, oLen_fz, oLen_lst, oLen_tup, oLt_int, oLe_int, oGt_int, oGe_int, oAdd_int, oSub_int, oIx_fz, oIx_lst, oIx_tup, oMax_int, oMin_int, oInt_bl, oInt_int, oIsi_bl, oNeg_int, oTuple_lst, oTuple_tup, iR1_eq, iR2_eq, iSq_eq, iStrM_eq, srcOf_tup, srcOf_lst, srcOf_fz, if_true, if_false, Bool.false_eq_true, Bool.true_eq_false, reduceIte, Nat.reduceAdd, Nat.reduceLeDiff, Nat.reduceEqDiff, decide_true, decide_false, and_self, and_true, true_and, e0, oEq_int, z]
theorem namRest_eq {M : Mem} {a : Ad} {T : Tab} {R' : List Rw} {told : List (Nat × Nat)} {n : Nat} (h : W12 M a T R' told n) (hn : n < 1000) (PD : D) (x5 x6 : Option D) :
    ∃ M' T' R2 told', namRest [some (.ref a.i), some (.ref a.b), some (.ref a.m), some PD, some (.ref a.td), x5, x6, none, none] M = .ok (.rt (.bl true)) M' ∧ W12 M' a T' R2 told' n ∧ Fr a M M' R' R2 := by
  have ne := Ne7.of h.ne
  obtain ⟨p, q, M1, f1, e1⟩ := handle_eq h.fl h.td ne.itd (by have := h.tl; omega)
  have h1 := h.flow f1
  have i1 := insOf_at h1.tb.ins
  obtain ⟨d, e2, e3, e4⟩ := leads15 h1 p q
  obtain ⟨b, M2, M3, T', R2, e5, e6, w, fr⟩ := drop15 h1 p q
  have e7 := al1 (.bl b) rfl (by show 1 ≤ 100; omega) M3
  refine ⟨M3, T', R2, told, ?_, w, (Fr.flow f1 R').trans fr⟩
  unfold namRest
  simp -implicitDefEqProofs only [mSeq_eq, mIfS_eq, mSet_eq, mRet_eq, mRetN_eq, mExpr_eq, mPass_eq, mAsg_eq, mPar_eq, mAug_eq, bOf_eq, tOf_eq, tAndM_eq, tOrM_eq, tNotM_eq, tsYes_eq, mOp_eq, mUn_eq, mVar_eq, mC_eq, mCall_eq, mFun_eq, mFunKw_eq, mMeth_eq, mAnd_eq, mOr_eq, mNot_eq, mIf_eq, mChain_eq, mSl_eq, pNone_eq, pSome_eq, aCons_eq, aNil_eq, mTup_eq, mLst_eq, gN_eq, gT_eq, gsNil_eq, gsCons_eq, mkL_t, mkL_f, R.bind_ok, R.bind_no, R.nox_ok, List.getElem?_cons_zero, List.getElem?_cons_succ, List.set_cons_zero, List.set_cons_succ, List.length_cons, List.length_nil, List.append_nil, List.nil_append, List.cons_append, piApp_on, oLen_fz, oLen_lst, oLen_tup, oLt_int, oLe_int, oGt_int, oGe_int, oAdd_int, oSub_int, oIx_fz, oIx_lst, oIx_tup, oMax_int, oMin_int, oInt_bl, oInt_int, oIsi_bl, oNeg_int, oTuple_lst, oTuple_tup, iR1_eq, iR2_eq, iSq_eq, iStrM_eq, srcOf_tup, srcOf_lst, srcOf_fz, if_true, if_false, Bool.false_eq_true, Bool.true_eq_false, reduceIte, Nat.reduceAdd, Nat.reduceLeDiff, Nat.reduceEqDiff, decide_true, decide_false, and_self, and_true, true_and, e1, mMthKw_eq, i1, lk_leads, lk_drop, e2, e3, e4, Bool.not_true, e5, e6, e7]
theorem names15 {M : Mem} {a : Ad} {T : Tab} {R' : List Rw} {told : List (Nat × Nat)} {n : Nat} (h : W12 M a T R' told n) (hn : n < 900) {P : List Th} (h0 : 0 < P.length) (hl : P.length < 1000) :
    ∃ M' T' R2 told', g_law_by_names [.ref a.i, .ref a.b, .ref a.m, .lst (P.map thD), .ref a.td] M = .ok (.bl true) M' ∧ W12 M' a T' R2 told' (n + 2) ∧ Fr a M M' R' R2 := by
  obtain ⟨w, M0, w1, f0, e0⟩ := draw_eq h.fl (P.length : Int) (by omega) (by omega)
  have h0 := h.flow f0
  have hw : w < P.length := by omega
  obtain ⟨y, hy⟩ : ∃ y, P[w] = y := ⟨_, rfl⟩
  have x1 : atI (P.map thD) (w : Int) = some (.tup [.str y.1, .int y.2]) := atI_nat (by rw [List.getElem?_map, List.getElem?_eq_getElem hw, hy]; rfl)
  have lm : (P.map thD).length = P.length := List.length_map _
  obtain ⟨PD, hPD⟩ : ∃ PD, P.map thD = PD := ⟨_, rfl⟩
  rw [hPD] at x1 lm ⊢
  obtain ⟨M1, T1, R1, told1, w1, fr1, hc⟩ := namPut_eq h0 (by omega) y (.lst PD)
  rcases hc with e1 | e1
  · refine ⟨M1, T1, R1, told1, runB_rt (N := 9) (?_ : B_law_by_names [some (.ref a.i), some (.ref a.b), some (.ref a.m), some (.lst PD), some (.ref a.td), none, none, none, none] M = _), w1, (Fr.flow f0 R').trans fr1⟩
    rw [nam_is]
    simp -implicitDefEqProofs only [mSeq_eq, mIfS_eq, mSet_eq, mRet_eq, mRetN_eq, mExpr_eq, mPass_eq, mAsg_eq, mPar_eq, mAug_eq, bOf_eq, tOf_eq, tAndM_eq, tOrM_eq, tNotM_eq, tsYes_eq, mOp_eq, mUn_eq, mVar_eq, mC_eq, mCall_eq, mFun_eq, mFunKw_eq, mMeth_eq, mAnd_eq, mOr_eq, mNot_eq, mIf_eq, mChain_eq, mSl_eq, pNone_eq, pSome_eq, aCons_eq, aNil_eq, mTup_eq, mLst_eq, gN_eq, gT_eq, gsNil_eq, gsCons_eq, mkL_t, mkL_f, R.bind_ok, R.bind_no, R.nox_ok, List.getElem?_cons_zero, List.getElem?_cons_succ, List.set_cons_zero, List.set_cons_succ, List.length_cons, List.length_nil, List.append_nil, List.nil_append, List.cons_append, piApp_on, oLen_fz, oLen_lst, oLen_tup, oLt_int, oLe_int, oGt_int, oGe_int, oAdd_int, oSub_int, oIx_fz, oIx_lst, oIx_tup, oMax_int, oMin_int, oInt_bl, oInt_int, oIsi_bl, oNeg_int, oTuple_lst, oTuple_tup, iR1_eq, iR2_eq, iSq_eq, iStrM_eq, srcOf_tup, srcOf_lst, srcOf_fz, if_true, if_false, Bool.false_eq_true, Bool.true_eq_false, reduceIte, Nat.reduceAdd, Nat.reduceLeDiff, Nat.reduceEqDiff, decide_true, decide_false, and_self, and_true, true_and, lm, e0, x1, e1]
  · obtain ⟨M2, T2, R2, told2, e2, w2, fr2⟩ := namRest_eq w1 (by omega) (.lst PD) (some (.str y.1)) (some (.int y.2))
    refine ⟨M2, T2, R2, told2, runB_rt (N := 9) (?_ : B_law_by_names [some (.ref a.i), some (.ref a.b), some (.ref a.m), some (.lst PD), some (.ref a.td), none, none, none, none] M = _), w2, (Fr.flow f0 R').trans (fr1.trans fr2)⟩
    rw [nam_is]
    simp -implicitDefEqProofs only [mSeq_eq, mIfS_eq, mSet_eq, mRet_eq, mRetN_eq, mExpr_eq, mPass_eq, mAsg_eq, mPar_eq, mAug_eq, bOf_eq, tOf_eq, tAndM_eq, tOrM_eq, tNotM_eq, tsYes_eq, mOp_eq, mUn_eq, mVar_eq, mC_eq, mCall_eq, mFun_eq, mFunKw_eq, mMeth_eq, mAnd_eq, mOr_eq, mNot_eq, mIf_eq, mChain_eq, mSl_eq, pNone_eq, pSome_eq, aCons_eq, aNil_eq, mTup_eq, mLst_eq, gN_eq, gT_eq, gsNil_eq, gsCons_eq, mkL_t, mkL_f, R.bind_ok, R.bind_no, R.nox_ok, List.getElem?_cons_zero, List.getElem?_cons_succ, List.set_cons_zero, List.set_cons_succ, List.length_cons, List.length_nil, List.append_nil, List.nil_append, List.cons_append, piApp_on, oLen_fz, oLen_lst, oLen_tup, oLt_int, oLe_int, oGt_int, oGe_int, oAdd_int, oSub_int, oIx_fz, oIx_lst, oIx_tup, oMax_int, oMin_int, oInt_bl, oInt_int, oIsi_bl, oNeg_int, oTuple_lst, oTuple_tup, iR1_eq, iR2_eq, iSq_eq, iStrM_eq, srcOf_tup, srcOf_lst, srcOf_fz, if_true, if_false, Bool.false_eq_true, Bool.true_eq_false, reduceIte, Nat.reduceAdd, Nat.reduceLeDiff, Nat.reduceEqDiff, decide_true, decide_false, and_self, and_true, true_and, lm, e0, x1, e1, e2]
/-! ### boards -/
structure Bo where
  b : Nat
  u : Nat
  t : Nat
  k : Nat
  m : Nat
  T : Tab
  R : List Rw
def Bo.ad (s : Bo) (i td : Nat) : Ad := ⟨i, s.b, s.u, s.t, s.k, s.m, td⟩
def Bo.own (s : Bo) (x : Nat) : Prop := x ∈ [s.b, s.u, s.t, s.k, s.m] ∨ ∃ (k : Nat) (z : Rw), s.R[k]? = some z ∧ (x = z.c ∨ x = z.r)
theorem own_bo {s : Bo} {i td x : Nat} : Own (s.ad i td) s.R x ↔ x = i ∨ x = td ∨ s.own x := by
  simp only [Own, Bo.own, Bo.ad, Ad.all, List.mem_cons, List.not_mem_nil, or_false]
  constructor
  · rintro ((h | h | h | h | h | h | h) | h) <;> simp [h]
  · rintro (h | h | ((h | h | h | h | h) | h)) <;> simp [h]
theorem W12.own_lt {M : Mem} {s : Bo} {i td : Nat} {told : List (Nat × Nat)} {n : Nat} (h : W12 M (s.ad i td) s.T s.R told n) {x : Nat} (hx : s.own x) : x < M.length ∧ x ≠ i ∧ x ≠ td := by
  have lts := h.tb.lt
  have lm := h.ml.lts
  have nd := h.ne
  have fi := h.fc i (by simp [Ad.all, Bo.ad])
  have ft := h.fc td (by simp [Ad.all, Bo.ad])
  simp only [Ad.all, Bo.ad, List.nodup_cons, List.mem_cons, List.not_mem_nil, or_false, not_or] at nd
  obtain ⟨⟨a1, a2, a3, a4, a5, a6⟩, ⟨_, _, _, _, b5⟩, ⟨_, _, _, c4⟩, ⟨_, _, d3⟩, ⟨_, e2⟩, f1, _⟩ := nd
  rcases hx with hx | ⟨k, z, hz, hc⟩
  · simp only [List.mem_cons, List.not_mem_nil, or_false] at hx
    rcases hx with rfl | rfl | rfl | rfl | rfl
    · exact ⟨lts.1, Ne.symm a1, b5⟩
    · exact ⟨lts.2.1, Ne.symm a2, c4⟩
    · exact ⟨lts.2.2.1, Ne.symm a3, d3⟩
    · exact ⟨lts.2.2.2, Ne.symm a4, e2⟩
    · exact ⟨lm.1, Ne.symm a5, f1⟩
  · rcases hc with rfl | rfl
    · exact ⟨(lm.2 k z hz).1, Ne.symm (fi k z hz).1, Ne.symm (ft k z hz).1⟩
    · exact ⟨(lm.2 k z hz).2, Ne.symm (fi k z hz).2, Ne.symm (ft k z hz).2⟩
/-- another board stays -/
theorem W12.keep {M M' : Mem} {s : Bo} {i td : Nat} {told told' : List (Nat × Nat)} {n n' : Nat} (h : W12 M (s.ad i td) s.T s.R told n) (fl : FlAt M' i M') (htd : M'[td]? = some (.lst (told'.map hdN))) (hl : told'.length ≤ n') (hn : n ≤ n') (same : ∀ x, s.own x → M'[x]? = M[x]?) : W12 M' (s.ad i td) s.T s.R told' n' := by
  have o : ∀ x, x ∈ [s.b, s.u, s.t, s.k, s.m] → M'[x]? = M[x]? := fun x hx => same x (.inl hx)
  exact ⟨fl, h.tb.keep (o _ (by simp [Bo.ad])) (o _ (by simp [Bo.ad])) (o _ (by simp [Bo.ad])) (o _ (by simp [Bo.ad])), (h.ml.mono hn).keep (o _ (by simp [Bo.ad])) fun k z hz => ⟨same _ (.inr ⟨k, z, hz, .inl rfl⟩), same _ (.inr ⟨k, z, hz, .inr rfl⟩)⟩, h.tie, htd, Nat.le_trans h.th hn, Nat.le_trans h.kn hn, hl, h.ne, h.fc⟩
structure W15 (M : Mem) (i td : Nat) (S : List Bo) (told : List (Nat × Nat)) (n : Nat) : Prop where
  one : ∀ (j : Nat) (s : Bo), S[j]? = some s → W12 M (s.ad i td) s.T s.R told n
  far : ∀ (j j' : Nat) (s s' : Bo), S[j]? = some s → S[j']? = some s' → j ≠ j' → ∀ x, s.own x → ¬ s'.own x
theorem getS {S : List Bo} {f k : Nat} {x' z : Bo} (h : (S.set f x')[k]? = some z) : (k = f ∧ z = x') ∨ (k ≠ f ∧ S[k]? = some z) := by
  by_cases hk : f = k
  · subst hk
    have hl : f < S.length := by have := (List.getElem?_eq_some_iff.mp h).1; rw [List.length_set] at this; exact this
    rw [List.getElem?_set_self hl] at h
    exact .inl ⟨rfl, (Option.some.inj h).symm⟩
  · rw [List.getElem?_set_ne hk] at h
    exact .inr ⟨Ne.symm hk, h⟩
theorem W15.deed {M M' : Mem} {i td : Nat} {S : List Bo} {told told' : List (Nat × Nat)} {n j : Nat} {s : Bo} {T' : Tab} {R2 : List Rw} (h : W15 M i td S told n) (hs : S[j]? = some s) (w : W12 M' (s.ad i td) T' R2 told' (n + 2)) (fr : Fr (s.ad i td) M M' s.R R2) :
    W15 M' i td (S.set j { s with T := T', R := R2 }) told' (n + 2) := by
  have new : ∀ x, ({ s with T := T', R := R2 } : Bo).own x → x = i ∨ x = td ∨ s.own x ∨ M.length ≤ x := fun x hx => by
    have := fr.nw x ((own_bo (s := { s with T := T', R := R2 }) (i := i) (td := td)).mpr (.inr (.inr hx)))
    rcases this with z | z
    · rcases own_bo.mp z with z | z | z
      · exact .inl z
      · exact .inr (.inl z)
      · exact .inr (.inr (.inl z))
    · exact .inr (.inr (.inr z))
  refine ⟨fun j' s' hj' => ?_, fun j1 j2 s1 s2 h1 h2 hne x hx hx2 => ?_⟩
  · rcases getS hj' with ⟨rfl, rfl⟩ | ⟨hk, g⟩
    · exact w
    · have w' := h.one j' s' g
      refine w'.keep w.fl w.td w.tl (by omega) fun x hx => ?_
      obtain ⟨l, n1, n2⟩ := w'.own_lt hx
      refine fr.same x l fun z => ?_
      rcases own_bo.mp z with z | z | z
      · exact n1 z
      · exact n2 z
      · exact h.far j' j s' s g hs hk x hx z
  · rcases getS h1 with ⟨q1, rfl⟩ | ⟨k1, g1⟩ <;> rcases getS h2 with ⟨q2, rfl⟩ | ⟨k2, g2⟩
    · exact hne (q1.trans q2.symm)
    · obtain ⟨l, n1, n2⟩ := (h.one j2 s2 g2).own_lt hx2
      rcases new x hx with z | z | z | z
      · exact n1 z
      · exact n2 z
      · exact h.far j j2 s s2 hs g2 (by rw [← q1]; exact hne) x z hx2
      · omega
    · obtain ⟨l, n1, n2⟩ := (h.one j1 s1 g1).own_lt hx
      rcases new x hx2 with z | z | z | z
      · exact n1 z
      · exact n2 z
      · exact h.far j1 j s1 s g1 hs (by rw [← q2]; exact hne) x hx z
      · omega
    · exact h.far j1 j2 s1 s2 g1 g2 hne x hx hx2
theorem W15.draw {M M' : Mem} {i td : Nat} {S : List Bo} {told : List (Nat × Nat)} {n : Nat} (h : W15 M i td S told n) (f : FlAt M i M') : W15 M' i td S told n :=
  ⟨fun j s hs => (h.one j s hs).flow f, h.far⟩
theorem W15.next {M : Mem} {i td : Nat} {S : List Bo} {told : List (Nat × Nat)} {n : Nat} (h : W15 M i td S told n) {f : Fl} (hf : f.ok) : W15 (M ++ [f.c]) M.length td S told n := by
  refine ⟨fun j s hs => ?_, h.far⟩
  have w := h.one j s hs
  have ol := fun x hx => w.own_lt (x := x) hx
  have ltd : td < M.length := lt_of_get w.td
  have ap : ∀ x, x < M.length → (M ++ [f.c])[x]? = M[x]? := fun x hx => List.getElem?_append_left hx
  have hb : ∀ x, x ∈ [s.b, s.u, s.t, s.k, s.m] → x < M.length := fun x hx => (ol x (.inl hx)).1
  have nd := w.ne
  have nd2 : [s.b, s.u, s.t, s.k, s.m, td].Nodup := (List.nodup_cons.mp nd).2
  refine ⟨.start hf (app_get0 rfl), w.tb.app _, w.ml.appM _, w.tie, (ap td ltd).trans w.td, w.th, w.kn, w.tl, ?_, fun y hy k z hz => ?_⟩
  · refine List.nodup_cons.mpr ⟨fun hm => ?_, nd2⟩
    simp only [Bo.ad, List.mem_cons, List.not_mem_nil, or_false] at hm
    rcases hm with hm | hm | hm | hm | hm | hm
    · have := hb s.b (by simp); omega
    · have := hb s.u (by simp); omega
    · have := hb s.t (by simp); omega
    · have := hb s.k (by simp); omega
    · have := hb s.m (by simp); omega
    · omega
  · have l1 := (ol z.c (.inr ⟨k, z, hz, .inl rfl⟩)).1
    have l2 := (ol z.r (.inr ⟨k, z, hz, .inr rfl⟩)).1
    rcases List.mem_cons.mp hy with hy | hy
    · have hy : y = M.length := hy
      rw [hy]
      exact ⟨Nat.ne_of_gt l1, Nat.ne_of_gt l2⟩
    · exact w.fc y (List.mem_cons_of_mem _ hy) k z hz
/-! ### a turn -/
def bsD (S : List Bo) : List D := S.map fun s => .ref s.b
def msD (S : List Bo) : List D := S.map fun s => .ref s.m
theorem map_setS {g : Bo → D} {S : List Bo} {j : Nat} {s s' : Bo} (hs : S[j]? = some s) (hc : g s' = g s) : (S.set j s').map g = S.map g := by
  apply List.ext_getElem?
  intro k
  rw [List.getElem?_map, List.getElem?_map]
  by_cases hk : j = k
  · subst hk
    rw [List.getElem?_set_self (List.getElem?_eq_some_iff.mp hs).1, hs]
    simp only [Option.map_some, hc]
  · rw [List.getElem?_set_ne hk]
theorem turn15 (ns : List Int) {M : Mem} {i td : Nat} {S : List Bo} {told : List (Nat × Nat)} {n k : Nat} (h : W15 M i td S told n) (hn : n < 900) (hk : k < 1000) (hS : 0 < S.length) (hS2 : S.length < 100) {P : List Th} (h0 : 0 < P.length) (hl : P.length < 1000) (x1 x8 x9 x10 x11 : Option D) :
    ∃ M' i' S' told' y8 y9, W15 M' i' td S' told' (n + 2) ∧ S'.length = S.length ∧ bsD S' = bsD S ∧ msD S' = msD S ∧ L_law_2 [some (.fz (intsD ns)), x1, some (.lst (P.map thD)), some (.int (S.length : Int)), some (.ref td), some (.lst (bsD S)), some (.lst (msD S)), some (.int (k : Int)), x8, x9, x10, x11] M = .ok (.nx [some (.fz (intsD ns)), some (.ref i'), some (.lst (P.map thD)), some (.int (S.length : Int)), some (.ref td), some (.lst (bsD S)), some (.lst (msD S)), some (.int (k : Int)), y8, y9, x10, x11]) M' := by
  obtain ⟨f, hf, e1⟩ := flow_eq ns k M hk
  have w0 := h.next hf
  have f0 : FlAt (M ++ [f.c]) M.length (M ++ [f.c]) := .start hf (app_get0 rfl)
  obtain ⟨v, M1, v1, f1, e2⟩ := draw_eq f0 (S.length : Int) (by omega) (by omega)
  have w1 := w0.draw f1
  obtain ⟨u, M2, u1, f2, e3⟩ := draw_eq f1.self 4 (by omega) (by omega)
  have w2 := w1.draw f2
  have hv : v < S.length := by omega
  obtain ⟨s, hs⟩ : ∃ s, S[v]? = some s := ⟨_, List.getElem?_eq_getElem hv⟩
  have b1 : atI (bsD S) (v : Int) = some (.ref s.b) := atI_nat (by unfold bsD; rw [List.getElem?_map, hs]; rfl)
  have m1 : atI (msD S) (v : Int) = some (.ref s.m) := atI_nat (by unfold msD; rw [List.getElem?_map, hs]; rfl)
  have ws := w2.one v s hs
  have tb : ∀ m, truD m (.bl true) = some true := fun m => rfl
  have sets : ∀ (T' : Tab) (R2 : List Rw), (S.set v { s with T := T', R := R2 }).length = S.length ∧ bsD (S.set v { s with T := T', R := R2 }) = bsD S ∧ msD (S.set v { s with T := T', R := R2 }) = msD S := fun T' R2 =>
    ⟨List.length_set .., map_setS (g := fun s => .ref s.b) (s' := { s with T := T', R := R2 }) hs rfl, map_setS (g := fun s => .ref s.m) (s' := { s with T := T', R := R2 }) hs rfl⟩
  obtain ⟨PD, hPD⟩ : ∃ PD, P.map thD = PD := ⟨_, rfl⟩
  by_cases c : u = 0
  · have z : ((u : Int) == 0) = true := by rw [c]; rfl
    obtain ⟨M3, T', R2, told', e4, w, fr⟩ := names15 ws (by omega) h0 hl
    have e4 : g_law_by_names [.ref M.length, .ref s.b, .ref s.m, .lst (P.map thD), .ref td] M2 = .ok (.bl true) M3 := e4
    obtain ⟨q1, q2, q3⟩ := sets T' R2
    refine ⟨M3, M.length, _, told', some (.int (v : Int)), some (.bl true), w2.deed hs w fr, q1, q2, q3, ?_⟩
    rw [hPD] at e4 ⊢
    unfold L_law_2
    simp -implicitDefEqProofs only [mSeq_eq, mIfS_eq, mSet_eq, mRet_eq, mRetN_eq, mExpr_eq, mPass_eq, mAsg_eq, mPar_eq, mAug_eq, bOf_eq, tOf_eq, tAndM_eq, tOrM_eq, tNotM_eq, tsYes_eq, mOp_eq, mUn_eq, mVar_eq, mC_eq, mCall_eq, mFun_eq, mFunKw_eq, mMeth_eq, mAnd_eq, mOr_eq, mNot_eq, mIf_eq, mChain_eq, mSl_eq, pNone_eq, pSome_eq, aCons_eq, aNil_eq, mTup_eq, mLst_eq, gN_eq, gT_eq, gsNil_eq, gsCons_eq, mkL_t, mkL_f, R.bind_ok, R.bind_no, R.nox_ok, List.getElem?_cons_zero, List.getElem?_cons_succ, List.set_cons_zero, List.set_cons_succ, List.length_cons, List.length_nil, List.append_nil, List.nil_append, List.cons_append, piApp_on, oLen_fz, oLen_lst, oLen_tup, oLt_int, oLe_int, oGt_int, oGe_int, oAdd_int, oSub_int, oIx_fz, oIx_lst, oIx_tup, oMax_int, oMin_int, oInt_bl, oInt_int, oIsi_bl, oNeg_int, oTuple_lst, oTuple_tup, iR1_eq, iR2_eq, iSq_eq, iStrM_eq, srcOf_tup, srcOf_lst, srcOf_fz, if_true, if_false, Bool.false_eq_true, Bool.true_eq_false, reduceIte, Nat.reduceAdd, Nat.reduceLeDiff, Nat.reduceEqDiff, decide_true, decide_false, and_self, and_true, true_and, e1, e2, e3, oEq_int, z, b1, m1, e4, tb, Bool.not_true]
  · have z : ((u : Int) == 0) = false := by simp; omega
    obtain ⟨M3, T', R2, told', e4, w, fr⟩ := deed15 ws (by omega) h0 hl
    have e4 : g_law_deed [.ref M.length, .ref s.b, .ref s.m, .lst (P.map thD), .ref td] M2 = .ok (.bl true) M3 := e4
    obtain ⟨q1, q2, q3⟩ := sets T' R2
    refine ⟨M3, M.length, _, told', some (.int (v : Int)), some (.bl true), w2.deed hs w fr, q1, q2, q3, ?_⟩
    rw [hPD] at e4 ⊢
    unfold L_law_2
    simp -implicitDefEqProofs only [mSeq_eq, mIfS_eq, mSet_eq, mRet_eq, mRetN_eq, mExpr_eq, mPass_eq, mAsg_eq, mPar_eq, mAug_eq, bOf_eq, tOf_eq, tAndM_eq, tOrM_eq, tNotM_eq, tsYes_eq, mOp_eq, mUn_eq, mVar_eq, mC_eq, mCall_eq, mFun_eq, mFunKw_eq, mMeth_eq, mAnd_eq, mOr_eq, mNot_eq, mIf_eq, mChain_eq, mSl_eq, pNone_eq, pSome_eq, aCons_eq, aNil_eq, mTup_eq, mLst_eq, gN_eq, gT_eq, gsNil_eq, gsCons_eq, mkL_t, mkL_f, R.bind_ok, R.bind_no, R.nox_ok, List.getElem?_cons_zero, List.getElem?_cons_succ, List.set_cons_zero, List.set_cons_succ, List.length_cons, List.length_nil, List.append_nil, List.nil_append, List.cons_append, piApp_on, oLen_fz, oLen_lst, oLen_tup, oLt_int, oLe_int, oGt_int, oGe_int, oAdd_int, oSub_int, oIx_fz, oIx_lst, oIx_tup, oMax_int, oMin_int, oInt_bl, oInt_int, oIsi_bl, oNeg_int, oTuple_lst, oTuple_tup, iR1_eq, iR2_eq, iSq_eq, iStrM_eq, srcOf_tup, srcOf_lst, srcOf_fz, if_true, if_false, Bool.false_eq_true, Bool.true_eq_false, reduceIte, Nat.reduceAdd, Nat.reduceLeDiff, Nat.reduceEqDiff, decide_true, decide_false, and_self, and_true, true_and, e1, e2, e3, oEq_int, z, b1, m1, e4, tb, Bool.not_true]
/-! ### at last -/
theorem zipD_map {α : Type} (f g : α → D) : ∀ l : List α, zipD (l.map f) (l.map g) = l.map fun s => .tup [f s, g s]
  | [] => rfl
  | a :: l => by
    have := zipD_map f g l
    simp only [List.map_cons, zipD, List.zipWith_cons_cons] at this ⊢
    rw [this]
theorem last15 {M : Mem} {i td : Nat} {S : List Bo} {told : List (Nat × Nat)} {n : Nat} (h : W15 M i td S told n) (hn : n < 900) (x0 x1 x2 x3 x4 x5 x6 x7 x8 x9 : Option D) :
    compL (fun _ => True) (gT 2 (gsCons (gN 10) (gsCons (gN 11) gsNil))) tsYes C_law_3 [x0, x1, x2, x3, x4, x5, x6, x7, x8, x9, none, none] (zipD (bsD S) (msD S)) M = .ok (S.map fun _ => .bl true) M := by
  unfold bsD msD
  rw [zipD_map]
  exact compL_m (P := fun _ : Mem => True) trivial (g := gT 2 (gsCons (gN 10) (gsCons (gN 11) gsNil))) (f := C_law_3) (env := [x0, x1, x2, x3, x4, x5, x6, x7, x8, x9, none, none]) (fun s : Bo => .tup [.ref s.b, .ref s.m]) (fun _ => .bl true) S fun s hs => by
    obtain ⟨j, hj⟩ := List.getElem?_of_mem hs
    have w := h.one j s hj
    have e := stands_eq w.tb w.ml w.tie (by omega) w.th
    have e : g_law_stands [.ref s.b, .ref s.m] M = .ok (.bl true) M := e
    refine ⟨[x0, x1, x2, x3, x4, x5, x6, x7, x8, x9, some (.ref s.b), some (.ref s.m)], ?_, ?_⟩
    · simp -implicitDefEqProofs only [mSeq_eq, mIfS_eq, mSet_eq, mRet_eq, mRetN_eq, mExpr_eq, mPass_eq, mAsg_eq, mPar_eq, mAug_eq, bOf_eq, tOf_eq, tAndM_eq, tOrM_eq, tNotM_eq, tsYes_eq, mOp_eq, mUn_eq, mVar_eq, mC_eq, mCall_eq, mFun_eq, mFunKw_eq, mMeth_eq, mAnd_eq, mOr_eq, mNot_eq, mIf_eq, mChain_eq, mSl_eq, pNone_eq, pSome_eq, aCons_eq, aNil_eq, mTup_eq, mLst_eq, gN_eq, gT_eq, gsNil_eq, gsCons_eq, mkL_t, mkL_f, R.bind_ok, R.bind_no, R.nox_ok, List.getElem?_cons_zero, List.getElem?_cons_succ, List.set_cons_zero, List.set_cons_succ, List.length_cons, List.length_nil, List.append_nil, List.nil_append, List.cons_append, piApp_on, oLen_fz, oLen_lst, oLen_tup, oLt_int, oLe_int, oGt_int, oGe_int, oAdd_int, oSub_int, oIx_fz, oIx_lst, oIx_tup, oMax_int, oMin_int, oInt_bl, oInt_int, oIsi_bl, oNeg_int, oTuple_lst, oTuple_tup, iR1_eq, iR2_eq, iSq_eq, iStrM_eq, srcOf_tup, srcOf_lst, srcOf_fz, if_true, if_false, Bool.false_eq_true, Bool.true_eq_false, reduceIte, Nat.reduceAdd, Nat.reduceLeDiff, Nat.reduceEqDiff, decide_true, decide_false, and_self, and_true, true_and]
    · unfold C_law_3
      simp -implicitDefEqProofs only [mSeq_eq, mIfS_eq, mSet_eq, mRet_eq, mRetN_eq, mExpr_eq, mPass_eq, mAsg_eq, mPar_eq, mAug_eq, bOf_eq, tOf_eq, tAndM_eq, tOrM_eq, tNotM_eq, tsYes_eq, mOp_eq, mUn_eq, mVar_eq, mC_eq, mCall_eq, mFun_eq, mFunKw_eq, mMeth_eq, mAnd_eq, mOr_eq, mNot_eq, mIf_eq, mChain_eq, mSl_eq, pNone_eq, pSome_eq, aCons_eq, aNil_eq, mTup_eq, mLst_eq, gN_eq, gT_eq, gsNil_eq, gsCons_eq, mkL_t, mkL_f, R.bind_ok, R.bind_no, R.nox_ok, List.getElem?_cons_zero, List.getElem?_cons_succ, List.set_cons_zero, List.set_cons_succ, List.length_cons, List.length_nil, List.append_nil, List.nil_append, List.cons_append, piApp_on, oLen_fz, oLen_lst, oLen_tup, oLt_int, oLe_int, oGt_int, oGe_int, oAdd_int, oSub_int, oIx_fz, oIx_lst, oIx_tup, oMax_int, oMin_int, oInt_bl, oInt_int, oIsi_bl, oNeg_int, oTuple_lst, oTuple_tup, iR1_eq, iR2_eq, iSq_eq, iStrM_eq, srcOf_tup, srcOf_lst, srcOf_fz, if_true, if_false, Bool.false_eq_true, Bool.true_eq_false, reduceIte, Nat.reduceAdd, Nat.reduceLeDiff, Nat.reduceEqDiff, decide_true, decide_false, and_self, and_true, true_and, e]
/-! ### the boards at the begin -/
abbrev T0 : Tab := ⟨[], [], []⟩
theorem w12_start {M : Mem} {i td b m : Nat} (fl : FlAt M i M) (h0 : M[b]? = some (.ins 0 (tabF (b + 1) (b + 2) (b + 3)))) (h1 : M[b + 1]? = some (.lst [])) (h2 : M[b + 2]? = some (.dk false [])) (h3 : M[b + 3]? = some (.dt false [])) (hm : M[m]? = some (.lst [])) (ht : M[td]? = some (.lst [])) (nd : [i, b, b + 1, b + 2, b + 3, m, td].Nodup) :
    W12 M ((⟨b, b + 1, b + 2, b + 3, m, T0, []⟩ : Bo).ad i td) T0 [] [] 0 := by
  refine ⟨fl, ⟨h0, h1, h2, h3, ?_, ?_, ?_, ?_, ?_, ?_⟩, ⟨hm, fun k x hx => (by cases hx), fun k x hx => (by cases hx), fun k x hx => (by cases hx), Nat.le_refl _, fun k x hx => (by cases hx), fun k x hx => (by cases hx), fun k k' x x' hx => (by cases hx)⟩, ⟨rfl, List.nodup_nil, fun e he => (by cases he), fun k x hx => (by cases hx), fun y => ⟨fun hy => (by cases hy), fun ⟨k, x, hx, _⟩ => (by cases hx)⟩⟩, ht, Nat.le_refl _, Nat.le_refl _, Nat.le_refl _, nd, fun j hj k x hx => (by cases hx)⟩
  all_goals (show (_ : Nat) ≠ _; simp only [Bo.ad]; omega)
abbrev mem2 (c : Cell) : Mem := [c, .lst [], .ins 0 (tabF 3 4 5), .lst [], .dk false [], .dt false [], .ins 0 (tabF 7 8 9), .lst [], .dk false [], .dt false [], .lst [], .lst []]
abbrev mem3 (c : Cell) : Mem := [c, .lst [], .ins 0 (tabF 3 4 5), .lst [], .dk false [], .dt false [], .ins 0 (tabF 7 8 9), .lst [], .dk false [], .dt false [], .ins 0 (tabF 11 12 13), .lst [], .dk false [], .dt false [], .lst [], .lst [], .lst []]
abbrev S2 : List Bo := [⟨2, 3, 4, 5, 10, T0, []⟩, ⟨6, 7, 8, 9, 11, T0, []⟩]
abbrev S3 : List Bo := [⟨2, 3, 4, 5, 14, T0, []⟩, ⟨6, 7, 8, 9, 15, T0, []⟩, ⟨10, 11, 12, 13, 16, T0, []⟩]
theorem far_of {S : List Bo} (h : ∀ (j j' : Nat) (s s' : Bo), S[j]? = some s → S[j']? = some s' → j ≠ j' → s.R = [] ∧ s'.R = [] ∧ ∀ x ∈ [s.b, s.u, s.t, s.k, s.m], ¬ x ∈ [s'.b, s'.u, s'.t, s'.k, s'.m]) :
    ∀ (j j' : Nat) (s s' : Bo), S[j]? = some s → S[j']? = some s' → j ≠ j' → ∀ x, s.own x → ¬ s'.own x := by
  intro j j' s s' hs hs' hj x hx hx'
  obtain ⟨r1, r2, hn⟩ := h j j' s s' hs hs' hj
  rcases hx with hx | ⟨k, z, hz, _⟩
  · rcases hx' with hx' | ⟨k, z, hz, _⟩
    · exact hn x hx hx'
    · rw [r2] at hz; cases hz
  · rw [r1] at hz; cases hz
theorem start2 {f : Fl} (hf : f.ok) : W15 (mem2 f.c) 0 1 S2 [] 0 := by
  have fl : FlAt (mem2 f.c) 0 (mem2 f.c) := .start hf rfl
  refine ⟨fun j s hs => ?_, far_of fun j j' s s' hs hs' hj => ?_⟩
  · match j, hs with
    | 0, hs => cases hs; exact w12_start fl rfl rfl rfl rfl rfl rfl (by decide)
    | 1, hs => cases hs; exact w12_start fl rfl rfl rfl rfl rfl rfl (by decide)
    | j + 2, hs => cases hs
  · match j, j', hs, hs' with
    | 0, 0, _, _ => exact absurd rfl hj
    | 0, 1, hs, hs' => cases hs; cases hs'; exact ⟨rfl, rfl, by decide⟩
    | 1, 0, hs, hs' => cases hs; cases hs'; exact ⟨rfl, rfl, by decide⟩
    | 1, 1, _, _ => exact absurd rfl hj
    | j + 2, _, hs, _ => cases hs
    | 0, j + 2, _, hs => cases hs
    | 1, j + 2, _, hs => cases hs
theorem start3 {f : Fl} (hf : f.ok) : W15 (mem3 f.c) 0 1 S3 [] 0 := by
  have fl : FlAt (mem3 f.c) 0 (mem3 f.c) := .start hf rfl
  refine ⟨fun j s hs => ?_, far_of fun j j' s s' hs hs' hj => ?_⟩
  · match j, hs with
    | 0, hs => cases hs; exact w12_start fl rfl rfl rfl rfl rfl rfl (by decide)
    | 1, hs => cases hs; exact w12_start fl rfl rfl rfl rfl rfl rfl (by decide)
    | 2, hs => cases hs; exact w12_start fl rfl rfl rfl rfl rfl rfl (by decide)
    | j + 3, hs => cases hs
  · match j, j', hs, hs' with
    | 0, 0, _, _ => exact absurd rfl hj
    | 0, 1, hs, hs' => cases hs; cases hs'; exact ⟨rfl, rfl, by decide⟩
    | 0, 2, hs, hs' => cases hs; cases hs'; exact ⟨rfl, rfl, by decide⟩
    | 1, 0, hs, hs' => cases hs; cases hs'; exact ⟨rfl, rfl, by decide⟩
    | 1, 1, _, _ => exact absurd rfl hj
    | 1, 2, hs, hs' => cases hs; cases hs'; exact ⟨rfl, rfl, by decide⟩
    | 2, 0, hs, hs' => cases hs; cases hs'; exact ⟨rfl, rfl, by decide⟩
    | 2, 1, hs, hs' => cases hs; cases hs'; exact ⟨rfl, rfl, by decide⟩
    | 2, 2, _, _ => exact absurd rfl hj
    | j + 3, _, hs, _ => cases hs
    | 0, j + 3, _, hs => cases hs
    | 1, j + 3, _, hs => cases hs
    | 2, j + 3, _, hs => cases hs
noncomputable def beg15 : FS := (mPar 5 6 (aCons (mLc false [7] (iR1 (aCons (mVar 3) aNil)) (gN 7) tsYes C_law_0) (aCons (mLc false [7] (iR1 (aCons (mVar 3) aNil)) (gN 7) tsYes C_law_1) aNil)))
theorem beg2 (c : Cell) (x0 x1 x2 x4 : Option D) : beg15 [x0, x1, x2, some (.int ((2 : Nat) : Int)), x4, none, none, none, none, none, none, none] [c, .lst []] = .ok (.nx [x0, x1, x2, some (.int ((2 : Nat) : Int)), x4, some (.lst (bsD S2)), some (.lst (msD S2)), none, none, none, none, none]) (mem2 c) := by
  have ro : rngOk ((2 : Nat) : Int) = true := rfl
  have tn : ((2 : Nat) : Int).toNat = 2 := rfl
  have ri : rngItems 0 2 = [.int (0 + ((0 : Nat) : Int)), .int (0 + ((1 : Nat) : Int))] := rfl
  have i0 : g_Table___init__ [.ref 2] [c, .lst [], .ins 0 []] = .ok .non [c, .lst [], .ins 0 (tabF 3 4 5), .lst [], .dk false [], .dt false []] := init_eq [c, .lst []]
  have i1 : g_Table___init__ [.ref 6] [c, .lst [], .ins 0 (tabF 3 4 5), .lst [], .dk false [], .dt false [], .ins 0 []] = .ok .non [c, .lst [], .ins 0 (tabF 3 4 5), .lst [], .dk false [], .dt false [], .ins 0 (tabF 7 8 9), .lst [], .dk false [], .dt false []] := init_eq [c, .lst [], .ins 0 (tabF 3 4 5), .lst [], .dk false [], .dt false []]
  have wp : wipeE [x0, x1, x2, some (.int ((2 : Nat) : Int)), x4, none, none, none, none, none, none, none] [7] = [x0, x1, x2, some (.int ((2 : Nat) : Int)), x4, none, none, none, none, none, none, none] := rfl
  have n0 : (2 < 16777216) = True := by simp
  have c1 : compL (fun _ => True) (gN 7) tsYes C_law_0 [x0, x1, x2, some (.int ((2 : Nat) : Int)), x4, none, none, none, none, none, none, none] (rngItems 0 2) [c, .lst []] = .ok [.ref 2, .ref 6] [c, .lst [], .ins 0 (tabF 3 4 5), .lst [], .dk false [], .dt false [], .ins 0 (tabF 7 8 9), .lst [], .dk false [], .dt false []] := by
    rw [ri, compL_cons]
    unfold C_law_0
    simp -implicitDefEqProofs only [mSeq_eq, mIfS_eq, mSet_eq, mRet_eq, mRetN_eq, mExpr_eq, mPass_eq, mAsg_eq, mPar_eq, mAug_eq, bOf_eq, tOf_eq, tAndM_eq, tOrM_eq, tNotM_eq, tsYes_eq, mOp_eq, mUn_eq, mVar_eq, mC_eq, mCall_eq, mFun_eq, mFunKw_eq, mMeth_eq, mAnd_eq, mOr_eq, mNot_eq, mIf_eq, mChain_eq, mSl_eq, pNone_eq, pSome_eq, aCons_eq, aNil_eq, mTup_eq, mLst_eq, gN_eq, gT_eq, gsNil_eq, gsCons_eq, mkL_t, mkL_f, R.bind_ok, R.bind_no, R.nox_ok, List.getElem?_cons_zero, List.getElem?_cons_succ, List.set_cons_zero, List.set_cons_succ, List.length_cons, List.length_nil, List.append_nil, List.nil_append, List.cons_append, piApp_on, oLen_fz, oLen_lst, oLen_tup, oLt_int, oLe_int, oGt_int, oGe_int, oAdd_int, oSub_int, oIx_fz, oIx_lst, oIx_tup, oMax_int, oMin_int, oInt_bl, oInt_int, oIsi_bl, oNeg_int, oTuple_lst, oTuple_tup, iR1_eq, iR2_eq, iSq_eq, iStrM_eq, srcOf_tup, srcOf_lst, srcOf_fz, if_true, if_false, Bool.false_eq_true, Bool.true_eq_false, reduceIte, Nat.reduceAdd, Nat.reduceLeDiff, Nat.reduceEqDiff, decide_true, decide_false, and_self, and_true, true_and, mMake_eq, i0, i1, compL_cons, compL_nil]
  have c2 : compL (fun _ => True) (gN 7) tsYes C_law_1 [x0, x1, x2, some (.int ((2 : Nat) : Int)), x4, none, none, none, none, none, none, none] (rngItems 0 2) [c, .lst [], .ins 0 (tabF 3 4 5), .lst [], .dk false [], .dt false [], .ins 0 (tabF 7 8 9), .lst [], .dk false [], .dt false []] = .ok [.ref 10, .ref 11] (mem2 c) := by
    rw [ri, compL_cons]
    unfold C_law_1
    simp -implicitDefEqProofs only [mSeq_eq, mIfS_eq, mSet_eq, mRet_eq, mRetN_eq, mExpr_eq, mPass_eq, mAsg_eq, mPar_eq, mAug_eq, bOf_eq, tOf_eq, tAndM_eq, tOrM_eq, tNotM_eq, tsYes_eq, mOp_eq, mUn_eq, mVar_eq, mC_eq, mCall_eq, mFun_eq, mFunKw_eq, mMeth_eq, mAnd_eq, mOr_eq, mNot_eq, mIf_eq, mChain_eq, mSl_eq, pNone_eq, pSome_eq, aCons_eq, aNil_eq, mTup_eq, mLst_eq, gN_eq, gT_eq, gsNil_eq, gsCons_eq, mkL_t, mkL_f, R.bind_ok, R.bind_no, R.nox_ok, List.getElem?_cons_zero, List.getElem?_cons_succ, List.set_cons_zero, List.set_cons_succ, List.length_cons, List.length_nil, List.append_nil, List.nil_append, List.cons_append, piApp_on, oLen_fz, oLen_lst, oLen_tup, oLt_int, oLe_int, oGt_int, oGe_int, oAdd_int, oSub_int, oIx_fz, oIx_lst, oIx_tup, oMax_int, oMin_int, oInt_bl, oInt_int, oIsi_bl, oNeg_int, oTuple_lst, oTuple_tup, iR1_eq, iR2_eq, iSq_eq, iStrM_eq, srcOf_tup, srcOf_lst, srcOf_fz, if_true, if_false, Bool.false_eq_true, Bool.true_eq_false, reduceIte, Nat.reduceAdd, Nat.reduceLeDiff, Nat.reduceEqDiff, decide_true, decide_false, and_self, and_true, true_and, compL_cons, compL_nil]
  unfold beg15
  simp -implicitDefEqProofs only [mSeq_eq, mIfS_eq, mSet_eq, mRet_eq, mRetN_eq, mExpr_eq, mPass_eq, mAsg_eq, mPar_eq, mAug_eq, bOf_eq, tOf_eq, tAndM_eq, tOrM_eq, tNotM_eq, tsYes_eq, mOp_eq, mUn_eq, mVar_eq, mC_eq, mCall_eq, mFun_eq, mFunKw_eq, mMeth_eq, mAnd_eq, mOr_eq, mNot_eq, mIf_eq, mChain_eq, mSl_eq, pNone_eq, pSome_eq, aCons_eq, aNil_eq, mTup_eq, mLst_eq, gN_eq, gT_eq, gsNil_eq, gsCons_eq, mkL_t, mkL_f, R.bind_ok, R.bind_no, R.nox_ok, List.getElem?_cons_zero, List.getElem?_cons_succ, List.set_cons_zero, List.set_cons_succ, List.length_cons, List.length_nil, List.append_nil, List.nil_append, List.cons_append, piApp_on, oLen_fz, oLen_lst, oLen_tup, oLt_int, oLe_int, oGt_int, oGe_int, oAdd_int, oSub_int, oIx_fz, oIx_lst, oIx_tup, oMax_int, oMin_int, oInt_bl, oInt_int, oIsi_bl, oNeg_int, oTuple_lst, oTuple_tup, iR1_eq, iR2_eq, iSq_eq, iStrM_eq, srcOf_tup, srcOf_lst, srcOf_fz, if_true, if_false, Bool.false_eq_true, Bool.true_eq_false, reduceIte, Nat.reduceAdd, Nat.reduceLeDiff, Nat.reduceEqDiff, decide_true, decide_false, and_self, and_true, true_and, mLc_eq, ro, tn, wp, rngItems_len, n0, c1, c2]
  rfl
theorem beg3 (c : Cell) (x0 x1 x2 x4 : Option D) : beg15 [x0, x1, x2, some (.int ((3 : Nat) : Int)), x4, none, none, none, none, none, none, none] [c, .lst []] = .ok (.nx [x0, x1, x2, some (.int ((3 : Nat) : Int)), x4, some (.lst (bsD S3)), some (.lst (msD S3)), none, none, none, none, none]) (mem3 c) := by
  have ro : rngOk ((3 : Nat) : Int) = true := rfl
  have tn : ((3 : Nat) : Int).toNat = 3 := rfl
  have ri : rngItems 0 3 = [.int (0 + ((0 : Nat) : Int)), .int (0 + ((1 : Nat) : Int)), .int (0 + ((2 : Nat) : Int))] := rfl
  have i0 : g_Table___init__ [.ref 2] [c, .lst [], .ins 0 []] = .ok .non [c, .lst [], .ins 0 (tabF 3 4 5), .lst [], .dk false [], .dt false []] := init_eq [c, .lst []]
  have i1 : g_Table___init__ [.ref 6] [c, .lst [], .ins 0 (tabF 3 4 5), .lst [], .dk false [], .dt false [], .ins 0 []] = .ok .non [c, .lst [], .ins 0 (tabF 3 4 5), .lst [], .dk false [], .dt false [], .ins 0 (tabF 7 8 9), .lst [], .dk false [], .dt false []] := init_eq [c, .lst [], .ins 0 (tabF 3 4 5), .lst [], .dk false [], .dt false []]
  have i2 : g_Table___init__ [.ref 10] [c, .lst [], .ins 0 (tabF 3 4 5), .lst [], .dk false [], .dt false [], .ins 0 (tabF 7 8 9), .lst [], .dk false [], .dt false [], .ins 0 []] = .ok .non [c, .lst [], .ins 0 (tabF 3 4 5), .lst [], .dk false [], .dt false [], .ins 0 (tabF 7 8 9), .lst [], .dk false [], .dt false [], .ins 0 (tabF 11 12 13), .lst [], .dk false [], .dt false []] := init_eq [c, .lst [], .ins 0 (tabF 3 4 5), .lst [], .dk false [], .dt false [], .ins 0 (tabF 7 8 9), .lst [], .dk false [], .dt false []]
  have wp : wipeE [x0, x1, x2, some (.int ((3 : Nat) : Int)), x4, none, none, none, none, none, none, none] [7] = [x0, x1, x2, some (.int ((3 : Nat) : Int)), x4, none, none, none, none, none, none, none] := rfl
  have n0 : (3 < 16777216) = True := by simp
  have c1 : compL (fun _ => True) (gN 7) tsYes C_law_0 [x0, x1, x2, some (.int ((3 : Nat) : Int)), x4, none, none, none, none, none, none, none] (rngItems 0 3) [c, .lst []] = .ok [.ref 2, .ref 6, .ref 10] [c, .lst [], .ins 0 (tabF 3 4 5), .lst [], .dk false [], .dt false [], .ins 0 (tabF 7 8 9), .lst [], .dk false [], .dt false [], .ins 0 (tabF 11 12 13), .lst [], .dk false [], .dt false []] := by
    rw [ri, compL_cons]
    unfold C_law_0
    simp -implicitDefEqProofs only [mSeq_eq, mIfS_eq, mSet_eq, mRet_eq, mRetN_eq, mExpr_eq, mPass_eq, mAsg_eq, mPar_eq, mAug_eq, bOf_eq, tOf_eq, tAndM_eq, tOrM_eq, tNotM_eq, tsYes_eq, mOp_eq, mUn_eq, mVar_eq, mC_eq, mCall_eq, mFun_eq, mFunKw_eq, mMeth_eq, mAnd_eq, mOr_eq, mNot_eq, mIf_eq, mChain_eq, mSl_eq, pNone_eq, pSome_eq, aCons_eq, aNil_eq, mTup_eq, mLst_eq, gN_eq, gT_eq, gsNil_eq, gsCons_eq, mkL_t, mkL_f, R.bind_ok, R.bind_no, R.nox_ok, List.getElem?_cons_zero, List.getElem?_cons_succ, List.set_cons_zero, List.set_cons_succ, List.length_cons, List.length_nil, List.append_nil, List.nil_append, List.cons_append, piApp_on, oLen_fz, oLen_lst, oLen_tup, oLt_int, oLe_int, oGt_int, oGe_int, oAdd_int, oSub_int, oIx_fz, oIx_lst, oIx_tup, oMax_int, oMin_int, oInt_bl, oInt_int, oIsi_bl, oNeg_int, oTuple_lst, oTuple_tup, iR1_eq, iR2_eq, iSq_eq, iStrM_eq, srcOf_tup, srcOf_lst, srcOf_fz, if_true, if_false, Bool.false_eq_true, Bool.true_eq_false, reduceIte, Nat.reduceAdd, Nat.reduceLeDiff, Nat.reduceEqDiff, decide_true, decide_false, and_self, and_true, true_and, mMake_eq, i0, i1, i2, compL_cons, compL_nil]
  have c2 : compL (fun _ => True) (gN 7) tsYes C_law_1 [x0, x1, x2, some (.int ((3 : Nat) : Int)), x4, none, none, none, none, none, none, none] (rngItems 0 3) [c, .lst [], .ins 0 (tabF 3 4 5), .lst [], .dk false [], .dt false [], .ins 0 (tabF 7 8 9), .lst [], .dk false [], .dt false [], .ins 0 (tabF 11 12 13), .lst [], .dk false [], .dt false []] = .ok [.ref 14, .ref 15, .ref 16] (mem3 c) := by
    rw [ri, compL_cons]
    unfold C_law_1
    simp -implicitDefEqProofs only [mSeq_eq, mIfS_eq, mSet_eq, mRet_eq, mRetN_eq, mExpr_eq, mPass_eq, mAsg_eq, mPar_eq, mAug_eq, bOf_eq, tOf_eq, tAndM_eq, tOrM_eq, tNotM_eq, tsYes_eq, mOp_eq, mUn_eq, mVar_eq, mC_eq, mCall_eq, mFun_eq, mFunKw_eq, mMeth_eq, mAnd_eq, mOr_eq, mNot_eq, mIf_eq, mChain_eq, mSl_eq, pNone_eq, pSome_eq, aCons_eq, aNil_eq, mTup_eq, mLst_eq, gN_eq, gT_eq, gsNil_eq, gsCons_eq, mkL_t, mkL_f, R.bind_ok, R.bind_no, R.nox_ok, List.getElem?_cons_zero, List.getElem?_cons_succ, List.set_cons_zero, List.set_cons_succ, List.length_cons, List.length_nil, List.append_nil, List.nil_append, List.cons_append, piApp_on, oLen_fz, oLen_lst, oLen_tup, oLt_int, oLe_int, oGt_int, oGe_int, oAdd_int, oSub_int, oIx_fz, oIx_lst, oIx_tup, oMax_int, oMin_int, oInt_bl, oInt_int, oIsi_bl, oNeg_int, oTuple_lst, oTuple_tup, iR1_eq, iR2_eq, iSq_eq, iStrM_eq, srcOf_tup, srcOf_lst, srcOf_fz, if_true, if_false, Bool.false_eq_true, Bool.true_eq_false, reduceIte, Nat.reduceAdd, Nat.reduceLeDiff, Nat.reduceEqDiff, decide_true, decide_false, and_self, and_true, true_and, compL_cons, compL_nil]
  unfold beg15
  simp -implicitDefEqProofs only [mSeq_eq, mIfS_eq, mSet_eq, mRet_eq, mRetN_eq, mExpr_eq, mPass_eq, mAsg_eq, mPar_eq, mAug_eq, bOf_eq, tOf_eq, tAndM_eq, tOrM_eq, tNotM_eq, tsYes_eq, mOp_eq, mUn_eq, mVar_eq, mC_eq, mCall_eq, mFun_eq, mFunKw_eq, mMeth_eq, mAnd_eq, mOr_eq, mNot_eq, mIf_eq, mChain_eq, mSl_eq, pNone_eq, pSome_eq, aCons_eq, aNil_eq, mTup_eq, mLst_eq, gN_eq, gT_eq, gsNil_eq, gsCons_eq, mkL_t, mkL_f, R.bind_ok, R.bind_no, R.nox_ok, List.getElem?_cons_zero, List.getElem?_cons_succ, List.set_cons_zero, List.set_cons_succ, List.length_cons, List.length_nil, List.append_nil, List.nil_append, List.cons_append, piApp_on, oLen_fz, oLen_lst, oLen_tup, oLt_int, oLe_int, oGt_int, oGe_int, oAdd_int, oSub_int, oIx_fz, oIx_lst, oIx_tup, oMax_int, oMin_int, oInt_bl, oInt_int, oIsi_bl, oNeg_int, oTuple_lst, oTuple_tup, iR1_eq, iR2_eq, iSq_eq, iStrM_eq, srcOf_tup, srcOf_lst, srcOf_fz, if_true, if_false, Bool.false_eq_true, Bool.true_eq_false, reduceIte, Nat.reduceAdd, Nat.reduceLeDiff, Nat.reduceEqDiff, decide_true, decide_false, and_self, and_true, true_and, mLc_eq, ro, tn, wp, rngItems_len, n0, c1, c2]
  rfl
/-! ### the law -/
noncomputable def loop15 : FS := (mFor (iR2 (aCons (mC (.int 1)) (aCons (mCall oMax (aCons (mC (.int 16)) (aCons (mCall oMin (aCons (mC (.int 41)) (aCons (mCall oLen (aCons (mVar 0) aNil)) aNil))) aNil))) aNil))) (gN 7) L_law_2)
noncomputable def ret15 : FS := (mRet (mCall oAll (aCons (mLc false [10, 11] (iZip (aCons (mVar 5) (aCons (mVar 6) aNil))) (gT 2 (gsCons (gN 10) (gsCons (gN 11) gsNil))) tsYes C_law_3) aNil)))
theorem law_is : B_law = mSeq (mSet 1 (mFun 2 g_law_flow [] (aCons (mVar 0) (aCons (mC (.int 0)) aNil)))) (mSeq (mPar3 2 3 4 (aCons (mFun 2 g_law_things [] (aCons (mVar 1) (aCons (mOp (oAdd false) (mC (.int 2)) (mFun 2 g_law_draw [] (aCons (mVar 1) (aCons (mC (.int 8)) aNil)))) aNil))) (aCons (mOp (oAdd false) (mC (.int 2)) (mFun 2 g_law_draw [] (aCons (mVar 1) (aCons (mC (.int 2)) aNil)))) (aCons (mLst true aNil) aNil)))) (mSeq beg15 (mSeq loop15 ret15))) := rfl
theorem loop15_eq (ns : List Int) (hns : ns.length ≤ 63) {M : Mem} {S : List Bo} (h : W15 M 0 1 S [] 0) (hS : 0 < S.length) (hS2 : S.length < 100) {P : List Th} (h0 : 0 < P.length) (hl : P.length < 1000) :
    ∃ M' i' S' told' n' y7 y8 y9, W15 M' i' 1 S' told' n' ∧ n' ≤ 100 ∧ S'.length = S.length ∧ bsD S' = bsD S ∧ msD S' = msD S ∧ loop15 [some (.fz (intsD ns)), some (.ref 0), some (.lst (P.map thD)), some (.int (S.length : Int)), some (.ref 1), some (.lst (bsD S)), some (.lst (msD S)), none, none, none, none, none] M = .ok (.nx [some (.fz (intsD ns)), some (.ref i'), some (.lst (P.map thD)), some (.int (S.length : Int)), some (.ref 1), some (.lst (bsD S)), some (.lst (msD S)), y7, y8, y9, none, none]) M' := by
  have il : (intsD ns).length = ns.length := by simp [intsD]
  obtain ⟨c, hc, hm⟩ : ∃ c : Nat, c ≤ 40 ∧ ∀ M, oMax [.int 16, .int (if (ns.length : Int) < 41 then (ns.length : Int) else 41)] M = .ok (.int ((c : Int) + 1)) M := by
    refine ⟨max 16 (min 41 ns.length) - 1, by omega, fun M => ?_⟩
    rw [oMax_int]
    congr 2
    split <;> split <;> omega
  obtain ⟨env', m', e, i', S', told', n', y7, y8, y9, rfl, hn', w, q1, q2, q3⟩ := forL_inv (g := gN 7) (body := L_law_2) (fun k env M2 => ∃ (i' : Nat) (S' : List Bo) (told' : List (Nat × Nat)) (n' : Nat) (y7 y8 y9 : Option D), env = [some (.fz (intsD ns)), some (.ref i'), some (.lst (P.map thD)), some (.int (S.length : Int)), some (.ref 1), some (.lst (bsD S)), some (.lst (msD S)), y7, y8, y9, none, none] ∧ n' ≤ 2 * k ∧ W15 M2 i' 1 S' told' n' ∧ S'.length = S.length ∧ bsD S' = bsD S ∧ msD S' = msD S) (rngItems 1 c) 0 [some (.fz (intsD ns)), some (.ref 0), some (.lst (P.map thD)), some (.int (S.length : Int)), some (.ref 1), some (.lst (bsD S)), some (.lst (msD S)), none, none, none, none, none] M
    ⟨0, S, [], 0, none, none, none, rfl, Nat.zero_le _, h, rfl, rfl, rfl⟩ (by
      rintro k d env M2 hk ⟨i', S', told', n', y7, y8, y9, rfl, hn', w, q1, q2, q3⟩
      obtain ⟨rfl, hkm⟩ := rngItems_get hk
      obtain ⟨M3, i3, S3, told3, z8, z9, w3, r1, r2, r3, e3⟩ := turn15 ns w (k := k + 1) (by omega) (by omega) (by omega) (by omega) h0 hl (some (.ref i')) y8 y9 none none
      rw [q1, q2, q3] at e3
      have e3' : ((1 : Int) + (k : Int)) = ((k + 1 : Nat) : Int) := by omega
      rw [e3']
      exact ⟨_, _, e3, i3, S3, told3, n' + 2, _, _, _, rfl, by omega, w3, r1.trans q1, r2.trans q2, r3.trans q3⟩)
  rw [rngItems_len] at hn'
  refine ⟨m', i', S', told', n', y7, y8, y9, w, by omega, q1, q2, q3, ?_⟩
  have r1 : rngOk 1 = true := rfl
  have ro : rngOk ((c : Int) + 1) = true := rngOk_of (by omega) (by omega)
  have tn : ((c : Int) + 1 - 1).toNat = c := by omega
  unfold loop15
  rw [mFor_eq]
  obtain ⟨PD, hPD⟩ : ∃ PD, P.map thD = PD := ⟨_, rfl⟩
  rw [hPD] at e ⊢
  simp -implicitDefEqProofs only [mSeq_eq, mIfS_eq, mSet_eq, mRet_eq, mRetN_eq, mExpr_eq, mPass_eq, mAsg_eq, mPar_eq, mAug_eq, bOf_eq, tOf_eq, tAndM_eq, tOrM_eq, tNotM_eq, tsYes_eq, mOp_eq, mUn_eq, mVar_eq, mC_eq, mCall_eq, mFun_eq, mFunKw_eq, mMeth_eq, mAnd_eq, mOr_eq, mNot_eq, mIf_eq, mChain_eq, mSl_eq, pNone_eq, pSome_eq, aCons_eq, aNil_eq, mTup_eq, mLst_eq, gN_eq, gT_eq, gsNil_eq, gsCons_eq, mkL_t, mkL_f, R.bind_ok, R.bind_no, R.nox_ok, List.getElem?_cons_zero, List.getElem?_cons_succ, List.set_cons_zero, List.set_cons_succ, List.length_cons, List.length_nil, List.append_nil, List.nil_append, List.cons_append, piApp_on, oLen_fz, oLen_lst, oLen_tup, oLt_int, oLe_int, oGt_int, oGe_int, oAdd_int, oSub_int, oIx_fz, oIx_lst, oIx_tup, oMax_int, oMin_int, oInt_bl, oInt_int, oIsi_bl, oNeg_int, oTuple_lst, oTuple_tup, iR1_eq, iR2_eq, iSq_eq, iStrM_eq, srcOf_tup, srcOf_lst, srcOf_fz, if_true, if_false, Bool.false_eq_true, Bool.true_eq_false, reduceIte, Nat.reduceAdd, Nat.reduceLeDiff, Nat.reduceEqDiff, decide_true, decide_false, and_self, and_true, true_and, il, hm, r1, ro, tn, e]
theorem law_holds : ∀ ns : List Int, ns.length ≤ 63 → ∃ m, g_law [.fz (ns.map .int)] [] = .ok (.bl true) m := by
  intro ns hn
  show ∃ m, g_law [.fz (intsD ns)] [] = .ok (.bl true) m
  obtain ⟨f, hf, e1⟩ := flow_eq ns 0 [] (by omega)
  have e1 : g_law_flow [.fz (intsD ns), .int 0] [] = .ok (.ref 0) [f.c] := e1
  have f0 : FlAt [f.c] 0 [f.c] := .start hf rfl
  obtain ⟨v, M1, v1, f1, e2⟩ := draw_eq f0 8 (by omega) (by omega)
  obtain ⟨P, M2, _, lP, f2, e3⟩ := things_eq f1 (2 + v) (by omega)
  have e3 : g_law_things [.ref 0, .int (2 + (v : Int))] M1 = .ok (.lst (P.map thD)) M2 := by
    have : ((2 + v : Nat) : Int) = 2 + (v : Int) := by omega
    rw [← this]; exact e3
  obtain ⟨u, M3, u1, f3, e4⟩ := draw_eq f2 2 (by omega) (by omega)
  obtain ⟨f', hf', hM3, _⟩ := f3.get
  have l3 : M3.length = 1 := by rw [f3.len]; rfl
  obtain ⟨rfl⟩ : M3 = [f'.c] := by
    match M3, l3, hM3 with
    | [c], _, h => injection h with h; rw [h]
  obtain ⟨S, M4, hS, hS2, hSl, w, eb⟩ : ∃ (S : List Bo) (M4 : Mem), 0 < S.length ∧ S.length < 100 ∧ (2 + (u : Int)) = (S.length : Int) ∧ W15 M4 0 1 S [] 0 ∧ beg15 [some (.fz (intsD ns)), some (.ref 0), some (.lst (P.map thD)), some (.int (S.length : Int)), some (.ref 1), none, none, none, none, none, none, none] [f'.c, .lst []] = .ok (.nx [some (.fz (intsD ns)), some (.ref 0), some (.lst (P.map thD)), some (.int (S.length : Int)), some (.ref 1), some (.lst (bsD S)), some (.lst (msD S)), none, none, none, none, none]) M4 := by
    rcases (show u = 0 ∨ u = 1 by omega) with rfl | rfl
    · exact ⟨S2, _, by decide, by decide, rfl, start2 hf', beg2 _ _ _ _ _⟩
    · exact ⟨S3, _, by decide, by decide, rfl, start3 hf', beg3 _ _ _ _ _⟩
  obtain ⟨M5, i5, S5, told5, n5, y7, y8, y9, w5, hn5, q1, q2, q3, el⟩ := loop15_eq ns hn w hS hS2 (P := P) (by omega) (by omega)
  have ec := last15 w5 (by omega) (some (.fz (intsD ns))) (some (.ref i5)) (some (.lst (P.map thD))) (some (.int (S.length : Int))) (some (.ref 1)) (some (.lst (bsD S))) (some (.lst (msD S))) y7 y8 y9
  rw [q2, q3] at ec
  have lz : (zipD (bsD S) (msD S)).length < 16777216 := by unfold zipD bsD msD; rw [List.length_zipWith, List.length_map, List.length_map]; omega
  have al : oAll [.lst (S5.map fun _ => D.bl true)] M5 = .ok (.bl (S5.all fun _ => true)) M5 := oAll_map (fun _ => true) S5
  have al2 : (S5.all fun _ => true) = true := by simp
  rw [al2] at al
  have er : ret15 [some (.fz (intsD ns)), some (.ref i5), some (.lst (P.map thD)), some (.int (S.length : Int)), some (.ref 1), some (.lst (bsD S)), some (.lst (msD S)), y7, y8, y9, none, none] M5 = .ok (.rt (.bl true)) M5 := by
    have wp : wipeE [some (.fz (intsD ns)), some (.ref i5), some (.lst (P.map thD)), some (.int (S.length : Int)), some (.ref 1), some (.lst (bsD S)), some (.lst (msD S)), y7, y8, y9, none, none] [10, 11] = [some (.fz (intsD ns)), some (.ref i5), some (.lst (P.map thD)), some (.int (S.length : Int)), some (.ref 1), some (.lst (bsD S)), some (.lst (msD S)), y7, y8, y9, none, none] := rfl
    unfold ret15
    simp -implicitDefEqProofs only [mSeq_eq, mIfS_eq, mSet_eq, mRet_eq, mRetN_eq, mExpr_eq, mPass_eq, mAsg_eq, mPar_eq, mAug_eq, bOf_eq, tOf_eq, tAndM_eq, tOrM_eq, tNotM_eq, tsYes_eq, mOp_eq, mUn_eq, mVar_eq, mC_eq, mCall_eq, mFun_eq, mFunKw_eq, mMeth_eq, mAnd_eq, mOr_eq, mNot_eq, mIf_eq, mChain_eq, mSl_eq, pNone_eq, pSome_eq, aCons_eq, aNil_eq, mTup_eq, mLst_eq, gN_eq, gT_eq, gsNil_eq, gsCons_eq, mkL_t, mkL_f, R.bind_ok, R.bind_no, R.nox_ok, List.getElem?_cons_zero, List.getElem?_cons_succ, List.set_cons_zero, List.set_cons_succ, List.length_cons, List.length_nil, List.append_nil, List.nil_append, List.cons_append, piApp_on, oLen_fz, oLen_lst, oLen_tup, oLt_int, oLe_int, oGt_int, oGe_int, oAdd_int, oSub_int, oIx_fz, oIx_lst, oIx_tup, oMax_int, oMin_int, oInt_bl, oInt_int, oIsi_bl, oNeg_int, oTuple_lst, oTuple_tup, iR1_eq, iR2_eq, iSq_eq, iStrM_eq, srcOf_tup, srcOf_lst, srcOf_fz, if_true, if_false, Bool.false_eq_true, Bool.true_eq_false, reduceIte, Nat.reduceAdd, Nat.reduceLeDiff, Nat.reduceEqDiff, decide_true, decide_false, and_self, and_true, true_and, iZip_eq, mLc_eq, lz, wp, ec, al]
  refine ⟨M5, runB_rt (N := 12) (?_ : B_law [some (.fz (intsD ns)), none, none, none, none, none, none, none, none, none, none, none] [] = _)⟩
  rw [law_is]
  obtain ⟨PD, hPD⟩ : ∃ PD, P.map thD = PD := ⟨_, rfl⟩
  rw [hPD] at e3 eb el er
  simp -implicitDefEqProofs only [mSeq_eq, mIfS_eq, mSet_eq, mRet_eq, mRetN_eq, mExpr_eq, mPass_eq, mAsg_eq, mPar_eq, mAug_eq, bOf_eq, tOf_eq, tAndM_eq, tOrM_eq, tNotM_eq, tsYes_eq, mOp_eq, mUn_eq, mVar_eq, mC_eq, mCall_eq, mFun_eq, mFunKw_eq, mMeth_eq, mAnd_eq, mOr_eq, mNot_eq, mIf_eq, mChain_eq, mSl_eq, pNone_eq, pSome_eq, aCons_eq, aNil_eq, mTup_eq, mLst_eq, gN_eq, gT_eq, gsNil_eq, gsCons_eq, mkL_t, mkL_f, R.bind_ok, R.bind_no, R.nox_ok, List.getElem?_cons_zero, List.getElem?_cons_succ, List.set_cons_zero, List.set_cons_succ, List.length_cons, List.length_nil, List.append_nil, List.nil_append, List.cons_append, piApp_on, oLen_fz, oLen_lst, oLen_tup, oLt_int, oLe_int, oGt_int, oGe_int, oAdd_int, oSub_int, oIx_fz, oIx_lst, oIx_tup, oMax_int, oMin_int, oInt_bl, oInt_int, oIsi_bl, oNeg_int, oTuple_lst, oTuple_tup, iR1_eq, iR2_eq, iSq_eq, iStrM_eq, srcOf_tup, srcOf_lst, srcOf_fz, if_true, if_false, Bool.false_eq_true, Bool.true_eq_false, reduceIte, Nat.reduceAdd, Nat.reduceLeDiff, Nat.reduceEqDiff, decide_true, decide_false, and_self, and_true, true_and, e1, mPar3_eq, e2, e3, e4, hSl, eb, el, er]
end K15

set_option pp.deepTerms false
set_option pp.maxSteps 400
set_option Elab.async false
set_option linter.all false
set_option maxRecDepth 100000
set_option maxHeartbeats 4000000
namespace K15
open PySem PySem.Spec PyProof.Rows L2 Fn
/-- what the top has written -/
structure Tx (K : PySem.W.Frag) (mg : Str → Option Value) (cl : Nat → Addr) where
  a_Table___init__ : Addr
  d_Table___init__ : FuncData
  f_Table___init__ : Fun K "__init__" "Table.__init__" s_Table___init__ a_Table___init__ d_Table___init__
  b_Table___init__ : Binds K d_Table___init__ ["self"] []
  a_Table___len__ : Addr
  d_Table___len__ : FuncData
  f_Table___len__ : Fun K "__len__" "Table.__len__" s_Table___len__ a_Table___len__ d_Table___len__
  me_Table___len__ : Meth K (cl 0) "__len__" a_Table___len__
  b_Table___len__ : Binds K d_Table___len__ ["self"] []
  a_Table_free_place : Addr
  d_Table_free_place : FuncData
  f_Table_free_place : Fun K "free_place" "Table.free_place" s_Table_free_place a_Table_free_place d_Table_free_place
  me_Table_free_place : Meth K (cl 0) "free_place" a_Table_free_place
  b_Table_free_place : Binds K d_Table_free_place ["self"] []
  a_Table_leads : Addr
  d_Table_leads : FuncData
  f_Table_leads : Fun K "leads" "Table.leads" s_Table_leads a_Table_leads d_Table_leads
  me_Table_leads : Meth K (cl 0) "leads" a_Table_leads
  b_Table_leads : Binds K d_Table_leads ["self", "handle"] []
  a_Table_handles : Addr
  d_Table_handles : FuncData
  f_Table_handles : Fun K "handles" "Table.handles" s_Table_handles a_Table_handles d_Table_handles
  me_Table_handles : Meth K (cl 0) "handles" a_Table_handles
  b_Table_handles : Binds K d_Table_handles ["self"] []
  a_law_cell : Addr
  d_law_cell : FuncData
  f_law_cell : Fun K "_law_cell" "_law_cell" s_law_cell a_law_cell d_law_cell
  m_law_cell : mg "_law_cell" = some (.ref a_law_cell)
  b_law_cell : Binds K d_law_cell ["_law_script", "_law_k"] []
  a_law_draw : Addr
  d_law_draw : FuncData
  f_law_draw : Fun K "_law_draw" "_law_draw" s_law_draw a_law_draw d_law_draw
  m_law_draw : mg "_law_draw" = some (.ref a_law_draw)
  b_law_draw : Binds K d_law_draw ["_law_flow_here", "_law_many"] []
  a_law_alike : Addr
  d_law_alike : FuncData
  f_law_alike : Fun K "_law_alike" "_law_alike" s_law_alike a_law_alike d_law_alike
  m_law_alike : mg "_law_alike" = some (.ref a_law_alike)
  b_law_alike : Binds K d_law_alike ["_law_found", "_law_due"] []
  a_law_model_put : Addr
  d_law_model_put : FuncData
  f_law_model_put : Fun K "_law_model_put" "_law_model_put" s_law_model_put a_law_model_put d_law_model_put
  m_law_model_put : mg "_law_model_put" = some (.ref a_law_model_put)
  b_law_model_put : Binds K d_law_model_put ["_law_model", "_law_thing"] []
  a_law_model_leads : Addr
  d_law_model_leads : FuncData
  f_law_model_leads : Fun K "_law_model_leads" "_law_model_leads" s_law_model_leads a_law_model_leads d_law_model_leads
  m_law_model_leads : mg "_law_model_leads" = some (.ref a_law_model_leads)
  b_law_model_leads : Binds K d_law_model_leads ["_law_model", "_law_grip"] []
  a_law_model_handles : Addr
  d_law_model_handles : FuncData
  f_law_model_handles : Fun K "_law_model_handles" "_law_model_handles" s_law_model_handles a_law_model_handles d_law_model_handles
  m_law_model_handles : mg "_law_model_handles" = some (.ref a_law_model_handles)
  b_law_model_handles : Binds K d_law_model_handles ["_law_model"] []
  a_Table_put : Addr
  d_Table_put : FuncData
  f_Table_put : Fun K "put" "Table.put" s_Table_put a_Table_put d_Table_put
  me_Table_put : Meth K (cl 0) "put" a_Table_put
  b_Table_put : Binds K d_Table_put ["self", "house", "number"] []
  a_Table_drop : Addr
  d_Table_drop : FuncData
  f_Table_drop : Fun K "drop" "Table.drop" s_Table_drop a_Table_drop d_Table_drop
  me_Table_drop : Meth K (cl 0) "drop" a_Table_drop
  b_Table_drop : Binds K d_Table_drop ["self", "handle"] []
  a_law_flow : Addr
  d_law_flow : FuncData
  f_law_flow : Fun K "_law_flow" "_law_flow" s_law_flow a_law_flow d_law_flow
  m_law_flow : mg "_law_flow" = some (.ref a_law_flow)
  b_law_flow : Binds K d_law_flow ["_law_script", "_law_k"] []
  a_law_names : Addr
  d_law_names : FuncData
  f_law_names : Fun K "_law_names" "_law_names" s_law_names a_law_names d_law_names
  m_law_names : mg "_law_names" = some (.ref a_law_names)
  b_law_names : Binds K d_law_names ["_law_flow_here", "_law_many"] []
  a_law_model_drop : Addr
  d_law_model_drop : FuncData
  f_law_model_drop : Fun K "_law_model_drop" "_law_model_drop" s_law_model_drop a_law_model_drop d_law_model_drop
  m_law_model_drop : mg "_law_model_drop" = some (.ref a_law_model_drop)
  b_law_model_drop : Binds K d_law_model_drop ["_law_model", "_law_grip"] []
  a_law_handle : Addr
  d_law_handle : FuncData
  f_law_handle : Fun K "_law_handle" "_law_handle" s_law_handle a_law_handle d_law_handle
  m_law_handle : mg "_law_handle" = some (.ref a_law_handle)
  b_law_handle : Binds K d_law_handle ["_law_flow_here", "_law_told"] []
  a_law_things : Addr
  d_law_things : FuncData
  f_law_things : Fun K "_law_things" "_law_things" s_law_things a_law_things d_law_things
  m_law_things : mg "_law_things" = some (.ref a_law_things)
  b_law_things : Binds K d_law_things ["_law_flow_here", "_law_many"] []
  a_law_stands : Addr
  d_law_stands : FuncData
  f_law_stands : Fun K "_law_stands" "_law_stands" s_law_stands a_law_stands d_law_stands
  m_law_stands : mg "_law_stands" = some (.ref a_law_stands)
  b_law_stands : Binds K d_law_stands ["_law_board", "_law_model"] []
  a_law_deed : Addr
  d_law_deed : FuncData
  f_law_deed : Fun K "_law_deed" "_law_deed" s_law_deed a_law_deed d_law_deed
  m_law_deed : mg "_law_deed" = some (.ref a_law_deed)
  b_law_deed : Binds K d_law_deed ["_law_flow_here", "_law_board", "_law_model", "_law_pool", "_law_told"] []
  a_law_by_names : Addr
  d_law_by_names : FuncData
  f_law_by_names : Fun K "_law_by_names" "_law_by_names" s_law_by_names a_law_by_names d_law_by_names
  m_law_by_names : mg "_law_by_names" = some (.ref a_law_by_names)
  b_law_by_names : Binds K d_law_by_names ["_law_flow_here", "_law_board", "_law_model", "_law_pool", "_law_told"] []
  a_law : Addr
  d_law : FuncData
  f_law : Fun K "law" "law" s_law a_law d_law
  m_law : mg "law" = some (.ref a_law)
  b_law : Binds K d_law ["_law_script"] []
  cls_Table : Cls K (cl 0)
  c_Table : mg "Table" = some (.ref (cl 0))
  mk_Table : Mk K (cl 0) a_Table___init__
  na_Table_used : NoAttr K (cl 0) "used"
  na_Table_there : NoAttr K (cl 0) "there"
  na_Table_known : NoAttr K (cl 0) "known"
  kk_Table_put_1_number_house : KwBK K cl d_Table_put ["self", "house", "number"] 1 ["number", "house"] (piIx [0, 2, 1]) []
  kk_Table_leads_1_handle : KwBK K cl d_Table_leads ["self", "handle"] 1 ["handle"] piApp []
  kk_Table_drop_1_handle : KwBK K cl d_Table_drop ["self", "handle"] 1 ["handle"] piApp []
  n_all : mg "all" = none
  n_bool : mg "bool" = none
  n_enumerate : mg "enumerate" = none
  n_isinstance : mg "isinstance" = none
  n_len : mg "len" = none
  n_list : mg "list" = none
  n_max : mg "max" = none
  n_min : mg "min" = none
  n_range : mg "range" = none
  n_sorted : mg "sorted" = none
  n_str : mg "str" = none
  n_tuple : mg "tuple" = none
  n_zip : mg "zip" = none
section
variable {P : Program} {w : World} {K : PySem.W.Frag} {mg : Str → Option Value} {base : Heap} {cl : Nat → Addr}
theorem ok_Table___init__ (T : Tx K mg cl) : FnOk P w K mg base CX0 1 T.a_Table___init__ T.d_Table___init__ ["self"] (spOf ⟨K, cl⟩ 1 g_Table___init__) := by
  refine fn_def (B := B_Table___init__) T.f_Table___init__ sc_Table___init__ (fun cdv A outer s H E hr => ?_) (fun ds M _ => ref_run B_Table___init__ 1 ds M)
  have hu := huE hr
  have hu1 := hu1E hr
  exact (sb_cons (ss_fld (c0 := 0) T.cls_Table T.na_Table_used (sn_var (pv 0)) (sn_lst true sa_nil)) (sb_cons (ss_fld (c0 := 0) T.cls_Table T.na_Table_there (sn_var (pv 0)) sn_dnewK) (sb_one (ss_fld (c0 := 0) T.cls_Table T.na_Table_known (sn_var (pv 0)) sn_dnewT))))
theorem ok_Table___len__ (T : Tx K mg cl) : FnOk P w K mg base CX0 1 T.a_Table___len__ T.d_Table___len__ ["self"] (spOf ⟨K, cl⟩ 1 g_Table___len__) := by
  refine fn_def (B := B_Table___len__) T.f_Table___len__ sc_Table___len__ (fun cdv A outer s H E hr => ?_) (fun ds M _ => ref_run B_Table___len__ 1 ds M)
  have hu := huE hr
  have hu1 := hu1E hr
  exact (sb_one (ss_ret (sn_callB call_lenAA fn_lenA rfl T.n_len PySem.boot_len (sa_cons (sn_fld (c0 := 0) T.cls_Table T.na_Table_there (sn_var (pv 0))) sa_nil))))
theorem ok_Table_free_place (T : Tx K mg cl) : FnOk P w K mg base CX0 1 T.a_Table_free_place T.d_Table_free_place ["self"] (spOf ⟨K, cl⟩ 1 g_Table_free_place) := by
  refine fn_def (B := B_Table_free_place) T.f_Table_free_place sc_Table_free_place (fun cdv A outer s H E hr => ?_) (fun ds M _ => ref_run B_Table_free_place 2 ds M)
  have hu := huE hr
  have hu1 := hu1E hr
  exact (sb_cons (ss_set (i := 1) sn_int sc_Table_free_place.nd rfl (.inl rfl)) (sb_cons (ss_while PassesOwn.never (st_cmp (op_inA hu) op2_inA rfl (sn_var (pv 1)) (sn_fld (c0 := 0) T.cls_Table T.na_Table_there (sn_var (pv 0)))) (sb_one (ss_aug (i := 1) ip2_add sn_int ip_add sc_Table_free_place.nd rfl (.inl rfl)))) (sb_one (ss_ret (sn_var (pv 1))))))
theorem ok_Table_leads (T : Tx K mg cl) : FnOk P w K mg base CX0 1 T.a_Table_leads T.d_Table_leads ["self", "handle"] (spOf ⟨K, cl⟩ 2 g_Table_leads) := by
  refine fn_def (B := B_Table_leads) T.f_Table_leads sc_Table_leads (fun cdv A outer s H E hr => ?_) (fun ds M _ => ref_run B_Table_leads 4 ds M)
  have hu := huE hr
  have hu1 := hu1E hr
  exact (sb_cons (ss_asg (sl := [2, 3]) (sn_var (pv 1)) (sg_tup rfl (sgs_cons (sg_name (pg_name (i := 2) sc_Table_leads.nd rfl (.inl rfl)) (by decide)) (sgs_cons (sg_name (pg_name (i := 3) sc_Table_leads.nd rfl (.inl rfl)) (by decide)) sgs_nil)))) (sb_cons (ss_if (PW.pt (sw_or (st_cmp (op_notInA hu) op2_notInA rfl (sn_var (pv 2)) (sn_fld (c0 := 0) T.cls_Table T.na_Table_there (sn_var (pv 0)))) (sw_or1 (st_cmp (op_neP hu) op2_ne (nomark _) (sn_ixA hu (sn_ixA hu (sn_fld (c0 := 0) T.cls_Table T.na_Table_there (sn_var (pv 0))) (sn_var (pv 2))) sn_int) (sn_var (pv 3)))))) (sb_one (ss_ret sn_non)) sb_nil) (sb_one (ss_ret (sn_ixA hu (sn_ixA hu (sn_fld (c0 := 0) T.cls_Table T.na_Table_there (sn_var (pv 0))) (sn_var (pv 2))) sn_int)))))
theorem ok_Table_handles (T : Tx K mg cl) : FnOk P w K mg base CX0 1 T.a_Table_handles T.d_Table_handles ["self"] (spOf ⟨K, cl⟩ 1 g_Table_handles) := by
  refine fn_def (B := B_Table_handles) T.f_Table_handles sc_Table_handles (fun cdv A outer s H E hr => ?_) (fun ds M _ => ref_run B_Table_handles 4 ds M)
  have hu := huE hr
  have hu1 := hu1E hr
  exact (sb_one (ss_ret (sn_callB (cr_sortedD hu) (fn_sorted (c := true)) rfl T.n_sorted (by decide +kernel) (sa_cons (sn_lock (mFld 0 "there" (mVar 0)) (sn_lc false (own := [("place", 1), ("turn", 2), ("thing", 3)]) rfl sc_Table_handles.nd (si_itemsA (sn_fld (c0 := 0) T.cls_Table T.na_Table_there (sn_var (pv 0)))) (blkOk_by (N := ["self", "place", "turn", "thing"]) (sc := defScope s_Table_handles) (by decide +kernel)) (fun _ _ _ _ _ => (sg_tup rfl (sgs_cons (sg_name (pg_name (i := 1) sc_Table_handles.nd rfl (.inl rfl)) (by decide)) (sgs_cons (sg_tup rfl (sgs_cons (sg_name (pg_name (i := 2) sc_Table_handles.nd rfl (.inl rfl)) (by decide)) (sgs_cons (sg_name (pg_name (i := 3) sc_Table_handles.nd rfl (.inl rfl)) (by decide)) sgs_nil))) sgs_nil)))) (fun _ _ _ _ _ => sts_nil) (fun _ _ _ _ _ => (sn_tup (sa_cons (sn_var (pv 1)) (sa_cons (sn_var (pv 2)) sa_nil)))))) sa_nil))))
theorem ok_law_cell (T : Tx K mg cl) : FnOk P w K mg base CX0 1 T.a_law_cell T.d_law_cell ["_law_script", "_law_k"] (spOf ⟨K, cl⟩ 2 g_law_cell) := by
  refine fn_def (B := B_law_cell) T.f_law_cell sc_law_cell (fun cdv A outer s H E hr => ?_) (fun ds M _ => ref_run B_law_cell 3 ds M)
  have hu := huE hr
  have hu1 := hu1E hr
  exact (sb_cons (ss_if (st_cmp (op_lt.or op_lt_str) op2_ord (nomark _) (sn_var (pv 1)) (sn_callB call_lenA fn_len rfl T.n_len PySem.boot_len (sa_cons (sn_var (pv 0)) sa_nil))) (sb_one (ss_ret (sn_ix (sn_var (pv 0)) (sn_var (pv 1))))) sb_nil) (sb_cons (ss_set (i := 2) (sn_add false (sn_mul false (sn_var (pv 1)) sn_int) sn_int) sc_law_cell.nd rfl (.inl rfl)) (sb_cons (ss_if (st_cmp (op_gt.or op_gt_str) op2_ord (nomark _) (sn_callB call_lenA fn_len rfl T.n_len PySem.boot_len (sa_cons (sn_var (pv 0)) sa_nil)) sn_int) (sb_one (ss_set (i := 2) (sn_add false (sn_mul false (sn_mod (sn_ix (sn_var (pv 0)) (sn_mod (sn_mul false (sn_var (pv 1)) sn_int) (sn_callB call_lenA fn_len rfl T.n_len PySem.boot_len (sa_cons (sn_var (pv 0)) sa_nil)))) sn_int) sn_int) (sn_mul false (sn_var (pv 1)) sn_int)) sc_law_cell.nd rfl (.inl rfl))) sb_nil) (sb_one (ss_ret (sn_mul false (sn_mod (sn_var (pv 2)) sn_int) sn_int))))))
theorem ok_law_draw (T : Tx K mg cl) : FnOk P w K mg base CX0 1 T.a_law_draw T.d_law_draw ["_law_flow_here", "_law_many"] (spOf ⟨K, cl⟩ 2 g_law_draw) := by
  refine fn_def (B := B_law_draw) T.f_law_draw sc_law_draw (fun cdv A outer s H E hr => ?_) (fun ds M _ => ref_run B_law_draw 4 ds M)
  have hu := huE hr
  have hu1 := hu1E hr
  exact (sb_cons (ss_if (st_cmp (op_gt.or op_gt_str) op2_ord (nomark _) (sn_ix (sn_var (pv 0)) sn_int) sn_int) (sb_cons (ss_set (i := 2) (sn_mod (sn_ix (sn_var (pv 0)) sn_int) (sn_var (pv 1))) sc_law_draw.nd rfl (.inl rfl)) (sb_cons (ss_asg (sl := []) (sn_div (sn_ix (sn_var (pv 0)) sn_int) (sn_var (pv 1))) (sg_ix (sn_var (pv 0)) sn_int)) (sb_one (ss_ret (sn_var (pv 2)))))) sb_nil) (sb_cons (ss_asg (sl := []) (sn_add false (sn_ix (sn_var (pv 0)) sn_int) sn_int) (sg_ix (sn_var (pv 0)) sn_int)) (sb_cons (ss_set (i := 3) (sn_mod (sn_add false (sn_add false (sn_mul false (sn_ix (sn_var (pv 0)) sn_int) (sn_add false sn_int (sn_mul false sn_int (sn_ix (sn_var (pv 0)) sn_int)))) (sn_mul false sn_int (sn_ix (sn_var (pv 0)) sn_int))) sn_int) sn_int) sc_law_draw.nd rfl (.inl rfl)) (sb_cons (ss_set (i := 3) (sn_mod (sn_mul false (sn_var (pv 3)) (sn_var (pv 3))) sn_int) sc_law_draw.nd rfl (.inl rfl)) (sb_one (ss_ret (sn_mod (sn_div (sn_mod (sn_mul false (sn_add false (sn_var (pv 3)) sn_int) (sn_add false (sn_var (pv 3)) sn_int)) sn_int) sn_int) (sn_var (pv 1)))))))))
theorem ok_law_alike (T : Tx K mg cl) : FnOk P w K mg base CX0 1 T.a_law_alike T.d_law_alike ["_law_found", "_law_due"] (spOf ⟨K, cl⟩ 2 g_law_alike) := by
  refine fn_def (B := B_law_alike) T.f_law_alike sc_law_alike (fun cdv A outer s H E hr => ?_) (fun ds M _ => ref_gc B_law_alike 5 ds M)
  have hu := huE hr
  have hu1 := hu1E hr
  exact (sb_cons (ss_set (i := 2) (sn_lst true (sa_cons (sn_tup (sa_cons (sn_var (pv 0)) (sa_cons (sn_var (pv 1)) sa_nil))) sa_nil)) sc_law_alike.nd rfl (.inl rfl)) (sb_cons (ss_while PassesOwn.never (st_cmp (op_gt.or op_gt_str) op2_ord (nomark _) (sn_callB call_lenA fn_len rfl T.n_len PySem.boot_len (sa_cons (sn_var (pv 2)) sa_nil)) sn_int) (sb_cons (ss_asg (sl := [3, 4]) (sn_meth0 PySem.F.plainAttrs_list PySem.F.slot_list_pop PySem.F.type_list_pop mt_pop mt1_pop (sn_var (pv 2))) (sg_tup rfl (sgs_cons (sg_name (pg_name (i := 3) sc_law_alike.nd rfl (.inl rfl)) (by decide)) (sgs_cons (sg_name (pg_name (i := 4) sc_law_alike.nd rfl (.inl rfl)) (by decide)) sgs_nil)))) (sb_cons (ss_if (st_cmp (op_neP hu) op2_ne (nomark _) (sn_isi (T := "tuple") rfl T.n_isinstance rfl T.n_tuple (by decide +kernel) (by decide) (by decide) (by decide) (sn_var (pv 3))) (sn_isi (T := "tuple") rfl T.n_isinstance rfl T.n_tuple (by decide +kernel) (by decide) (by decide) (by decide) (sn_var (pv 4)))) (sb_one (ss_ret sn_bl)) sb_nil) (sb_cons (ss_if (st_cmp (op_neP hu) op2_ne (nomark _) (sn_isi (T := "bool") rfl T.n_isinstance rfl T.n_bool (by decide +kernel) (by decide) (by decide) (by decide) (sn_var (pv 3))) (sn_isi (T := "bool") rfl T.n_isinstance rfl T.n_bool (by decide +kernel) (by decide) (by decide) (by decide) (sn_var (pv 4)))) (sb_one (ss_ret sn_bl)) sb_nil) (sb_one (ss_if (st_val (sn_isi (T := "tuple") rfl T.n_isinstance rfl T.n_tuple (by decide +kernel) (by decide) (by decide) (by decide) (sn_var (pv 4)))) (sb_cons (ss_if (st_cmp (op_neP hu) op2_ne (nomark _) (sn_callB call_lenA fn_len rfl T.n_len PySem.boot_len (sa_cons (sn_var (pv 3)) sa_nil)) (sn_callB call_lenA fn_len rfl T.n_len PySem.boot_len (sa_cons (sn_var (pv 4)) sa_nil))) (sb_one (ss_ret sn_bl)) sb_nil) (sb_one (ss_expr (sn_meth PySem.F.plainAttrs_list PySem.F.slot_list_extend PySem.F.type_list_extend mt_extend mt1_extend (sn_var (pv 2)) (sa_cons (sn_listZip rfl rfl rfl T.n_list rfl rfl T.n_zip (sa_cons (sn_var (pv 3)) (sa_cons (sn_var (pv 4)) sa_nil))) sa_nil))))) (sb_one (ss_if (PW.pt (sw_or (st_cmp (op_neP hu) op2_ne (nomark _) (sn_isi (T := "str") rfl T.n_isinstance rfl T.n_str (by decide +kernel) (by decide) (by decide) (by decide) (sn_var (pv 3))) (sn_isi (T := "str") rfl T.n_isinstance rfl T.n_str (by decide +kernel) (by decide) (by decide) (by decide) (sn_var (pv 4)))) (sw_or1 (st_cmp (op_neP hu) op2_ne (nomark _) (sn_var (pv 3)) (sn_var (pv 4)))))) (sb_one (ss_ret sn_bl)) sb_nil)))))))) (sb_one (ss_ret sn_bl))))
theorem ok_law_model_put (T : Tx K mg cl) : FnOk P w K mg base CX0 1 T.a_law_model_put T.d_law_model_put ["_law_model", "_law_thing"] (spOf ⟨K, cl⟩ 2 g_law_model_put) := by
  refine fn_def (B := B_law_model_put) T.f_law_model_put sc_law_model_put (fun cdv A outer s H E hr => ?_) (fun ds M _ => ref_run B_law_model_put 6 ds M)
  have hu := huE hr
  have hu1 := hu1E hr
  exact (sb_cons (ss_if (st_cmp (op_gt.or op_gt_str) op2_ord (nomark _) (sn_callB call_lenA fn_len rfl T.n_len PySem.boot_len (sa_cons (sn_lc false (own := [("_law_row", 2), ("_law_is_there", 3)]) rfl sc_law_model_put.nd (si_seq (sn_var (pv 0))) (blkOk_by (N := ["_law_model", "_law_thing", "_law_row", "_law_is_there", "_law_free", "_law_k"]) (sc := defScope s_law_model_put) (by decide +kernel)) (fun _ _ _ _ _ => (sg_tupA rfl (sgs_cons (sg_name (pg_name (i := 2) sc_law_model_put.nd rfl (.inl rfl)) (by decide)) (sgs_cons (sg_name (pg_name (i := 3) sc_law_model_put.nd rfl (.inl rfl)) (by decide)) sgs_nil)))) (fun _ _ _ _ _ => (sts_one (st_cmp (op_inP hu) op2_inD rfl (sn_var (pv 1)) (sn_var (pv 2))))) (fun _ _ _ _ _ => (sn_var (pv 2)))) sa_nil)) sn_int) (sb_one (ss_ret sn_non)) sb_nil) (sb_cons (ss_setLc false (i := 4) (own := [("_law_k", 5)]) rfl sc_law_model_put.nd rfl rfl (sw_true rfl rfl rfl (by decide +kernel)) (si_range1 rfl T.n_range (sa_cons (sn_callB call_lenA fn_len rfl T.n_len PySem.boot_len (sa_cons (sn_var (pv 0)) sa_nil)) sa_nil)) (blkOk_by (N := ["_law_model", "_law_thing", "_law_row", "_law_is_there", "_law_free", "_law_k"]) (sc := defScope s_law_model_put) (by decide +kernel)) (fun _ _ _ _ _ => (sg_name (pg_name (i := 5) sc_law_model_put.nd rfl (.inl rfl)) (by decide))) (fun _ _ _ _ _ => (sts_one (st_not (st_truth (sn_ix (sn_ix (sn_var (pv 0)) (sn_var (pv 5))) sn_int))))) (fun _ _ _ _ _ => (sn_var (pv 5)))) (sb_cons (ss_if (st_cmp (op_eqP hu) op2_eq (nomark _) (sn_callB call_lenA fn_len rfl T.n_len PySem.boot_len (sa_cons (sn_var (pv 4)) sa_nil)) sn_int) (sb_cons (ss_set (i := 4) (sn_lst false (sa_cons (sn_callB call_lenA fn_len rfl T.n_len PySem.boot_len (sa_cons (sn_var (pv 0)) sa_nil)) sa_nil)) sc_law_model_put.nd rfl (.inl rfl)) (sb_one (ss_expr (sn_meth PySem.F.plainAttrs_list PySem.F.slot_list_append PySem.F.type_list_append mt_append mt1_append (sn_var (pv 0)) (sa_cons (sn_lst true (sa_cons (sn_lst true sa_nil) (sa_cons sn_bl sa_nil))) sa_nil))))) sb_nil) (sb_cons (ss_expr (sn_meth PySem.F.plainAttrs_list PySem.F.slot_list_append PySem.F.type_list_append mt_append mt1_append (sn_ix (sn_ix (sn_var (pv 0)) (sn_ix (sn_var (pv 4)) sn_int)) sn_int) (sa_cons (sn_var (pv 1)) sa_nil))) (sb_cons (ss_asg (sl := []) sn_bl (sg_ix (sn_ix (sn_var (pv 0)) (sn_ix (sn_var (pv 4)) sn_int)) sn_int)) (sb_one (ss_ret (sn_tup (sa_cons (sn_ix (sn_var (pv 4)) sn_int) (sa_cons (sn_sub (sn_callB call_lenA fn_len rfl T.n_len PySem.boot_len (sa_cons (sn_ix (sn_ix (sn_var (pv 0)) (sn_ix (sn_var (pv 4)) sn_int)) sn_int) sa_nil)) sn_int) sa_nil))))))))))
theorem ok_law_model_leads (T : Tx K mg cl) : FnOk P w K mg base CX0 1 T.a_law_model_leads T.d_law_model_leads ["_law_model", "_law_grip"] (spOf ⟨K, cl⟩ 2 g_law_model_leads) := by
  refine fn_def (B := B_law_model_leads) T.f_law_model_leads sc_law_model_leads (fun cdv A outer s H E hr => ?_) (fun ds M _ => ref_run B_law_model_leads 4 ds M)
  have hu := huE hr
  have hu1 := hu1E hr
  exact (sb_cons (ss_asg (sl := [2, 3]) (sn_var (pv 1)) (sg_tup rfl (sgs_cons (sg_name (pg_name (i := 2) sc_law_model_leads.nd rfl (.inl rfl)) (by decide)) (sgs_cons (sg_name (pg_name (i := 3) sc_law_model_leads.nd rfl (.inl rfl)) (by decide)) sgs_nil)))) (sb_cons (ss_if (PW.pt (sw_or (st_not (st_chain (op_le.or op_le_str) op2_ord (op_lt.or op_lt_str) op2_ord sn_int (sn_var (pv 2)) (sn_callB call_lenA fn_len rfl T.n_len PySem.boot_len (sa_cons (sn_var (pv 0)) sa_nil)))) (sw_or (st_not (st_truth (sn_ix (sn_ix (sn_var (pv 0)) (sn_var (pv 2))) sn_int))) (sw_or1 (st_cmp (op_neP hu) op2_ne (nomark _) (sn_var (pv 3)) (sn_sub (sn_callB call_lenA fn_len rfl T.n_len PySem.boot_len (sa_cons (sn_ix (sn_ix (sn_var (pv 0)) (sn_var (pv 2))) sn_int) sa_nil)) sn_int)))))) (sb_one (ss_ret sn_non)) sb_nil) (sb_one (ss_ret (sn_ix (sn_ix (sn_ix (sn_var (pv 0)) (sn_var (pv 2))) sn_int) (sn_neg sn_int))))))
theorem ok_law_model_handles (T : Tx K mg cl) : FnOk P w K mg base CX0 1 T.a_law_model_handles T.d_law_model_handles ["_law_model"] (spOf ⟨K, cl⟩ 1 g_law_model_handles) := by
  refine fn_def (B := B_law_model_handles) T.f_law_model_handles sc_law_model_handles (fun cdv A outer s H E hr => ?_) (fun ds M _ => ref_run B_law_model_handles 4 ds M)
  have hu := huE hr
  have hu1 := hu1E hr
  exact (sb_one (ss_ret (sn_lc false (own := [("_law_k", 1), ("_law_row", 2), ("_law_is_there", 3)]) rfl sc_law_model_handles.nd (si_enum rfl T.n_enumerate (sn_var (pv 0))) (blkOk_by (N := ["_law_model", "_law_k", "_law_row", "_law_is_there"]) (sc := defScope s_law_model_handles) (by decide +kernel)) (fun _ _ _ _ _ => (sg_tup rfl (sgs_cons (sg_name (pg_name (i := 1) sc_law_model_handles.nd rfl (.inl rfl)) (by decide)) (sgs_cons (sg_tupA rfl (sgs_cons (sg_name (pg_name (i := 2) sc_law_model_handles.nd rfl (.inl rfl)) (by decide)) (sgs_cons (sg_name (pg_name (i := 3) sc_law_model_handles.nd rfl (.inl rfl)) (by decide)) sgs_nil))) sgs_nil)))) (fun _ _ _ _ _ => (sts_one (st_truth (sn_var (pv 3))))) (fun _ _ _ _ _ => (sn_tup (sa_cons (sn_var (pv 1)) (sa_cons (sn_sub (sn_callB call_lenA fn_len rfl T.n_len PySem.boot_len (sa_cons (sn_var (pv 2)) sa_nil)) sn_int) sa_nil)))))))
theorem ok_Table_put (T : Tx K mg cl) : FnOk P w K mg base CX0 2 T.a_Table_put T.d_Table_put ["self", "house", "number"] (spOf ⟨K, cl⟩ 3 g_Table_put) := by
  refine fn_def (B := B_Table_put) T.f_Table_put sc_Table_put (fun cdv A outer s H E hr => ?_) (fun ds M _ => ref_run B_Table_put 6 ds M)
  have hu := huE hr
  have hu1 := hu1E hr
  exact (sb_cons (ss_set (i := 3) (sn_tup (sa_cons (sn_var (pv 1)) (sa_cons (sn_var (pv 2)) sa_nil))) sc_Table_put.nd rfl (.inl rfl)) (sb_cons (ss_if (st_cmp (op_inA hu) op2_inA rfl (sn_var (pv 3)) (sn_fld (c0 := 0) T.cls_Table T.na_Table_known (sn_var (pv 0)))) (sb_one (ss_ret sn_non)) sb_nil) (sb_cons (ss_asg (sl := []) sn_bl (sg_ixA hu (sn_fld (c0 := 0) T.cls_Table T.na_Table_known (sn_var (pv 0))) (sn_var (pv 3)))) (sb_cons (ss_set (i := 4) (sn_mth0 (c0 := 0) (sn_var (pv 0)) T.cls_Table T.me_Table_free_place (ok_Table_free_place T) (hr.mono (by decide)) T.b_Table_free_place .nil closedK_nil passA) sc_Table_put.nd rfl (.inl rfl)) (sb_cons (ss_if (st_cmp (op_eqP hu) op2_eq (nomark _) (sn_var (pv 4)) (sn_callB call_lenAA fn_lenA rfl T.n_len PySem.boot_len (sa_cons (sn_fld (c0 := 0) T.cls_Table T.na_Table_used (sn_var (pv 0))) sa_nil))) (sb_one (ss_expr (sn_meth PySem.F.plainAttrs_list PySem.F.slot_list_append PySem.F.type_list_append mt_append mt1_append (sn_fld (c0 := 0) T.cls_Table T.na_Table_used (sn_var (pv 0))) (sa_cons sn_int sa_nil)))) sb_nil) (sb_cons (ss_set (i := 5) (sn_ixA hu (sn_fld (c0 := 0) T.cls_Table T.na_Table_used (sn_var (pv 0))) (sn_var (pv 4))) sc_Table_put.nd rfl (.inl rfl)) (sb_cons (ss_augIx ip2_add ip_add hu (sn_fld (c0 := 0) T.cls_Table T.na_Table_used (sn_var (pv 0))) (sn_var (pv 4)) sn_int) (sb_cons (ss_asg (sl := []) (sn_tup (sa_cons (sn_var (pv 5)) (sa_cons (sn_var (pv 3)) sa_nil))) (sg_ixA hu (sn_fld (c0 := 0) T.cls_Table T.na_Table_there (sn_var (pv 0))) (sn_var (pv 4)))) (sb_one (ss_ret (sn_tup (sa_cons (sn_var (pv 4)) (sa_cons (sn_var (pv 5)) sa_nil)))))))))))))
theorem ok_Table_drop (T : Tx K mg cl) : FnOk P w K mg base CX0 2 T.a_Table_drop T.d_Table_drop ["self", "handle"] (spOf ⟨K, cl⟩ 2 g_Table_drop) := by
  refine fn_def (B := B_Table_drop) T.f_Table_drop sc_Table_drop (fun cdv A outer s H E hr => ?_) (fun ds M _ => ref_run B_Table_drop 2 ds M)
  have hu := huE hr
  have hu1 := hu1E hr
  exact (sb_cons (ss_if (st_isN (sn_mth (c0 := 0) (sn_var (pv 0)) T.cls_Table T.me_Table_leads (ok_Table_leads T) (hr.mono (by decide)) T.b_Table_leads .nil closedK_nil passA (sa_cons (sn_var (pv 1)) sa_nil))) (sb_one (ss_ret sn_bl)) sb_nil) (sb_cons (ss_expr (sn_meth PySem.F.plainAttrs_dict PySem.F.slot_dict_pop PySem.F.type_dict_pop (mt_popE hu) mt1_popE (sn_fld (c0 := 0) T.cls_Table T.na_Table_there (sn_var (pv 0))) (sa_cons (sn_ixA hu (sn_var (pv 1)) sn_int) sa_nil))) (sb_one (ss_ret sn_bl))))
theorem ok_law_flow (T : Tx K mg cl) : FnOk P w K mg base CX0 2 T.a_law_flow T.d_law_flow ["_law_script", "_law_k"] (spOf ⟨K, cl⟩ 2 g_law_flow) := by
  refine fn_def (B := B_law_flow) T.f_law_flow sc_law_flow (fun cdv A outer s H E hr => ?_) (fun ds M _ => ref_run B_law_flow 4 ds M)
  have hu := huE hr
  have hu1 := hu1E hr
  exact (sb_cons (ss_set (i := 2) (sn_call (ok_law_cell T) (hr.mono (by decide)) rfl T.m_law_cell T.f_law_cell.kp T.b_law_cell .nil closed_nil passA (sa_cons (sn_var (pv 0)) (sa_cons (sn_var (pv 1)) sa_nil))) sc_law_flow.nd rfl (.inl rfl)) (sb_cons (ss_set (i := 3) sn_int sc_law_flow.nd rfl (.inl rfl)) (sb_cons (ss_if (st_cmp (op_ge.or op_ge_str) op2_ord (nomark _) (sn_var (pv 2)) (sn_pow sn_int sn_int)) (sb_one (ss_set (i := 3) (sn_var (pv 2)) sc_law_flow.nd rfl (.inl rfl))) sb_nil) (sb_one (ss_ret (sn_lst true (sa_cons (sn_var (pv 3)) (sa_cons sn_int (sa_cons (sn_add false (sn_mod (sn_var (pv 2)) sn_int) (sn_mul false sn_int (sn_var (pv 1)))) sa_nil)))))))))
theorem ok_law_names (T : Tx K mg cl) : FnOk P w K mg base CX0 2 T.a_law_names T.d_law_names ["_law_flow_here", "_law_many"] (spOf ⟨K, cl⟩ 2 g_law_names) := by
  refine fn_def (B := B_law_names) T.f_law_names sc_law_names (fun cdv A outer s H E hr => ?_) (fun ds M _ => ref_gc B_law_names 11 ds M)
  have hu := huE hr
  have hu1 := hu1E hr
  exact (sb_cons (ss_set (i := 2) (sn_strL (by decide +kernel)) sc_law_names.nd rfl (.inr rfl)) (sb_cons (ss_set (i := 3) (sn_meth PySem.F.plainAttrs_str PySem.F.slot_str_join PySem.F.type_str_join mt_join mt1_join (sn_strL (by decide +kernel)) (sa_cons (sn_lc false (own := [("_law_j", 4)]) rfl sc_law_names.nd (si_range1 rfl T.n_range (sa_cons (sn_call (ok_law_draw T) (hr.mono (by decide)) rfl T.m_law_draw T.f_law_draw.kp T.b_law_draw .nil closed_nil passA (sa_cons (sn_var (pv 0)) (sa_cons sn_int sa_nil))) sa_nil)) (blkOk_by (N := ["_law_flow_here", "_law_many", "_law_some", "_law_word", "_law_j", "_law_at", "_law_first", "_law_longer", "_law_found", "_law_k", "_law_name"]) (sc := defScope s_law_names) (by decide +kernel)) (fun _ _ _ _ _ => (sg_name (pg_name (i := 4) sc_law_names.nd rfl (.inl rfl)) (by decide))) (fun _ _ _ _ _ => sts_nil) (fun _ _ _ _ _ => (sn_ix (sn_var (pv 2)) (sn_call (ok_law_draw T) (hr.mono (by decide)) rfl T.m_law_draw T.f_law_draw.kp T.b_law_draw .nil closed_nil passA (sa_cons (sn_var (pv 0)) (sa_cons sn_int sa_nil)))))) sa_nil)) sc_law_names.nd rfl (.inl rfl)) (sb_cons (ss_par3 (i := 5) (j := 6) (l := 7) rfl sc_law_names.nd rfl rfl rfl (by decide) (by decide) (by decide) rfl rfl rfl (sa_cons (sn_call (ok_law_draw T) (hr.mono (by decide)) rfl T.m_law_draw T.f_law_draw.kp T.b_law_draw .nil closed_nil passA (sa_cons (sn_var (pv 0)) (sa_cons (sn_add false (sn_callB call_lenA fn_len rfl T.n_len PySem.boot_len (sa_cons (sn_var (pv 3)) sa_nil)) sn_int) sa_nil))) (sa_cons (sn_call (ok_law_draw T) (hr.mono (by decide)) rfl T.m_law_draw T.f_law_draw.kp T.b_law_draw .nil closed_nil passA (sa_cons (sn_var (pv 0)) (sa_cons sn_int sa_nil))) (sa_cons (sn_call (ok_law_draw T) (hr.mono (by decide)) rfl T.m_law_draw T.f_law_draw.kp T.b_law_draw .nil closed_nil passA (sa_cons (sn_var (pv 0)) (sa_cons sn_int sa_nil))) sa_nil))) (by rfl)) (sb_cons (ss_set (i := 8) (sn_lst true sa_nil) sc_law_names.nd rfl (.inl rfl)) (sb_cons (ss_for (sl := [9]) PassesOwn.never rfl (si_range1 rfl T.n_range (sa_cons sn_int sa_nil)) (sg_name (pg_name (i := 9) sc_law_names.nd rfl (.inl rfl)) (by decide)) (sb_cons (ss_set (i := 10) (sn_add false (sn_add false (sn_sl false (sn_var (pv 3)) sp_none (sp_some (sn_var (pv 5)))) (sn_ix (sn_var (pv 2)) (sn_mod (sn_add false (sn_var (pv 6)) (sn_mul false sn_int (sn_var (pv 9)))) sn_int))) (sn_sl false (sn_var (pv 3)) (sp_some (sn_var (pv 5))) sp_none)) sc_law_names.nd rfl (.inl rfl)) (sb_cons (ss_if (PW.pt (sw_and (st_cmp (op_gt.or op_gt_str) op2_ord (nomark _) (sn_mul false (sn_var (pv 7)) (sn_mod (sn_var (pv 9)) sn_int)) sn_int) (sw_and (st_cmp (op_lt.or op_lt_str) op2_ord (nomark _) (sn_callB call_lenA fn_len rfl T.n_len PySem.boot_len (sa_cons (sn_var (pv 10)) sa_nil)) sn_int) (sw_and1 (st_cmp (op_gt.or op_gt_str) op2_ord (nomark _) (sn_callB call_lenA fn_len rfl T.n_len PySem.boot_len (sa_cons (sn_var (pv 8)) sa_nil)) sn_int))))) (sb_one (ss_set (i := 10) (sn_add false (sn_sl false (sn_ix (sn_var (pv 8)) (sn_neg sn_int)) sp_none (sp_some (sn_callB call_lenA fn_len rfl T.n_len PySem.boot_len (sa_cons (sn_var (pv 10)) sa_nil)))) (sn_ix (sn_var (pv 2)) (sn_mod (sn_add false (sn_var (pv 6)) (sn_mul false sn_int (sn_var (pv 9)))) sn_int))) sc_law_names.nd rfl (.inl rfl))) sb_nil) (sb_one (ss_if (PW.pt (sw_and (st_cmp op_notIn_seq op2_inF rfl (sn_var (pv 10)) (sn_var (pv 8))) (sw_and1 (st_cmp (op_lt.or op_lt_str) op2_ord (nomark _) (sn_callB call_lenA fn_len rfl T.n_len PySem.boot_len (sa_cons (sn_var (pv 8)) sa_nil)) (sn_var (pv 1)))))) (sb_one (ss_expr (sn_meth PySem.F.plainAttrs_list PySem.F.slot_list_append PySem.F.type_list_append mt_append mt1_append (sn_var (pv 8)) (sa_cons (sn_var (pv 10)) sa_nil)))) sb_nil))))) (sb_one (ss_ret (sn_var (pv 8)))))))))
theorem ok_law_model_drop (T : Tx K mg cl) : FnOk P w K mg base CX0 2 T.a_law_model_drop T.d_law_model_drop ["_law_model", "_law_grip"] (spOf ⟨K, cl⟩ 2 g_law_model_drop) := by
  refine fn_def (B := B_law_model_drop) T.f_law_model_drop sc_law_model_drop (fun cdv A outer s H E hr => ?_) (fun ds M _ => ref_run B_law_model_drop 2 ds M)
  have hu := huE hr
  have hu1 := hu1E hr
  exact (sb_cons (ss_if (st_isN (sn_call (ok_law_model_leads T) (hr.mono (by decide)) rfl T.m_law_model_leads T.f_law_model_leads.kp T.b_law_model_leads .nil closed_nil passA (sa_cons (sn_var (pv 0)) (sa_cons (sn_var (pv 1)) sa_nil)))) (sb_one (ss_ret sn_bl)) sb_nil) (sb_cons (ss_asg (sl := []) sn_bl (sg_ix (sn_ix (sn_var (pv 0)) (sn_ix (sn_var (pv 1)) sn_int)) sn_int)) (sb_one (ss_ret sn_bl))))
theorem ok_law_handle (T : Tx K mg cl) : FnOk P w K mg base CX0 2 T.a_law_handle T.d_law_handle ["_law_flow_here", "_law_told"] (spOf ⟨K, cl⟩ 2 g_law_handle) := by
  refine fn_def (B := B_law_handle) T.f_law_handle sc_law_handle (fun cdv A outer s H E hr => ?_) (fun ds M _ => ref_run B_law_handle 5 ds M)
  have hu := huE hr
  have hu1 := hu1E hr
  exact (sb_cons (ss_asg (sl := [2, 3]) (sn_if (st_cmp (op_gt.or op_gt_str) op2_ord (nomark _) (sn_callB call_lenA fn_len rfl T.n_len PySem.boot_len (sa_cons (sn_var (pv 1)) sa_nil)) sn_int) (sn_ix (sn_var (pv 1)) (sn_call (ok_law_draw T) (hr.mono (by decide)) rfl T.m_law_draw T.f_law_draw.kp T.b_law_draw .nil closed_nil passA (sa_cons (sn_var (pv 0)) (sa_cons (sn_callB call_lenA fn_len rfl T.n_len PySem.boot_len (sa_cons (sn_var (pv 1)) sa_nil)) sa_nil)))) (sn_tup (sa_cons sn_int (sa_cons sn_int sa_nil)))) (sg_tup rfl (sgs_cons (sg_name (pg_name (i := 2) sc_law_handle.nd rfl (.inl rfl)) (by decide)) (sgs_cons (sg_name (pg_name (i := 3) sc_law_handle.nd rfl (.inl rfl)) (by decide)) sgs_nil)))) (sb_cons (ss_set (i := 4) (sn_lst false (sa_cons (sn_tup (sa_cons (sn_var (pv 2)) (sa_cons (sn_var (pv 3)) sa_nil))) (sa_cons (sn_tup (sa_cons (sn_var (pv 2)) (sa_cons (sn_var (pv 3)) sa_nil))) (sa_cons (sn_tup (sa_cons (sn_var (pv 2)) (sa_cons (sn_add false (sn_var (pv 3)) sn_int) sa_nil))) (sa_cons (sn_tup (sa_cons (sn_var (pv 2)) (sa_cons (sn_callB (call_max2 rfl) fn_2I rfl T.n_max (by decide +kernel) (sa_cons sn_int (sa_cons (sn_sub (sn_var (pv 3)) sn_int) sa_nil))) sa_nil))) (sa_cons (sn_tup (sa_cons (sn_add false (sn_var (pv 2)) sn_int) (sa_cons (sn_var (pv 3)) sa_nil))) sa_nil)))))) sc_law_handle.nd rfl (.inl rfl)) (sb_cons (ss_set (i := 4) (sn_add false (sn_var (pv 4)) (sn_lst false (sa_cons (sn_tup (sa_cons (sn_callB (call_max2 rfl) fn_2I rfl T.n_max (by decide +kernel) (sa_cons sn_int (sa_cons (sn_sub (sn_var (pv 2)) sn_int) sa_nil))) (sa_cons (sn_var (pv 3)) sa_nil))) (sa_cons (sn_tup (sa_cons (sn_var (pv 3)) (sa_cons (sn_var (pv 2)) sa_nil))) sa_nil)))) sc_law_handle.nd rfl (.inl rfl)) (sb_one (ss_ret (sn_ix (sn_var (pv 4)) (sn_call (ok_law_draw T) (hr.mono (by decide)) rfl T.m_law_draw T.f_law_draw.kp T.b_law_draw .nil closed_nil passA (sa_cons (sn_var (pv 0)) (sa_cons sn_int sa_nil)))))))))
theorem ok_law_things (T : Tx K mg cl) : FnOk P w K mg base CX0 3 T.a_law_things T.d_law_things ["_law_flow_here", "_law_many"] (spOf ⟨K, cl⟩ 2 g_law_things) := by
  refine fn_def (B := B_law_things) T.f_law_things sc_law_things (fun cdv A outer s H E hr => ?_) (fun ds M _ => ref_gc B_law_things 5 ds M)
  have hu := huE hr
  have hu1 := hu1E hr
  exact (sb_cons (ss_par (i := 2) (j := 3) rfl sc_law_things.nd rfl rfl (by decide) rfl rfl (sa_cons (sn_call (ok_law_names T) (hr.mono (by decide)) rfl T.m_law_names T.f_law_names.kp T.b_law_names .nil closed_nil passA (sa_cons (sn_var (pv 0)) (sa_cons sn_int sa_nil))) (sa_cons (sn_lst true sa_nil) sa_nil)) (by rfl)) (sb_cons (ss_for (sl := [4]) PassesOwn.never rfl (si_range1 rfl T.n_range (sa_cons (sn_var (pv 1)) sa_nil)) (sg_name (pg_name (i := 4) sc_law_things.nd rfl (.inl rfl)) (by decide)) (sb_one (ss_expr (sn_meth PySem.F.plainAttrs_list PySem.F.slot_list_append PySem.F.type_list_append mt_append mt1_append (sn_var (pv 3)) (sa_cons (sn_tup (sa_cons (sn_ix (sn_var (pv 2)) (sn_call (ok_law_draw T) (hr.mono (by decide)) rfl T.m_law_draw T.f_law_draw.kp T.b_law_draw .nil closed_nil passA (sa_cons (sn_var (pv 0)) (sa_cons sn_int sa_nil)))) (sa_cons (sn_ix (sn_lst false (sa_cons (sn_call (ok_law_draw T) (hr.mono (by decide)) rfl T.m_law_draw T.f_law_draw.kp T.b_law_draw .nil closed_nil passA (sa_cons (sn_var (pv 0)) (sa_cons sn_int sa_nil))) (sa_cons (sn_call (ok_law_draw T) (hr.mono (by decide)) rfl T.m_law_draw T.f_law_draw.kp T.b_law_draw .nil closed_nil passA (sa_cons (sn_var (pv 0)) (sa_cons sn_int sa_nil))) sa_nil))) (sn_call (ok_law_draw T) (hr.mono (by decide)) rfl T.m_law_draw T.f_law_draw.kp T.b_law_draw .nil closed_nil passA (sa_cons (sn_var (pv 0)) (sa_cons sn_int sa_nil)))) sa_nil))) sa_nil))))) (sb_one (ss_ret (sn_var (pv 3))))))
theorem ok_law_stands (T : Tx K mg cl) : FnOk P w K mg base CX0 3 T.a_law_stands T.d_law_stands ["_law_board", "_law_model"] (spOf ⟨K, cl⟩ 2 g_law_stands) := by
  refine fn_def (B := B_law_stands) T.f_law_stands sc_law_stands (fun cdv A outer s H E hr => ?_) (fun ds M _ => ref_gc B_law_stands 4 ds M)
  have hu := huE hr
  have hu1 := hu1E hr
  exact (sb_cons (ss_for (sl := [2]) PassesOwn.never rfl (si_range1 rfl T.n_range (sa_cons sn_int sa_nil)) (sg_name (pg_name (i := 2) sc_law_stands.nd rfl (.inl rfl)) (by decide)) (sb_cons (ss_set (i := 3) (sn_mth0 (c0 := 0) (sn_var (pv 0)) T.cls_Table T.me_Table_handles (ok_Table_handles T) (hr.mono (by decide)) T.b_Table_handles .nil closedK_nil passA) sc_law_stands.nd rfl (.inl rfl)) (sb_cons (ss_if (PW.pt (sw_or (st_not (st_val (sn_isi (T := "list") rfl T.n_isinstance rfl T.n_list (by decide +kernel) (by decide) (by decide) (by decide) (sn_var (pv 3))))) (sw_or1 (st_not (st_val (sn_call (ok_law_alike T) (hr.mono (by decide)) rfl T.m_law_alike T.f_law_alike.kp T.b_law_alike .nil closed_nil passA (sa_cons (sn_callTy call_tuple_of fn_tuple rfl T.n_tuple (by decide +kernel) (sa_cons (sn_var (pv 3)) sa_nil)) (sa_cons (sn_callTy call_tuple_of fn_tuple rfl T.n_tuple (by decide +kernel) (sa_cons (sn_call (ok_law_model_handles T) (hr.mono (by decide)) rfl T.m_law_model_handles T.f_law_model_handles.kp T.b_law_model_handles .nil closed_nil passA (sa_cons (sn_var (pv 1)) sa_nil)) sa_nil)) sa_nil)))))))) (sb_one (ss_ret sn_bl)) sb_nil) (sb_one (ss_expr (sn_meth PySem.F.plainAttrs_list PySem.F.slot_list_append PySem.F.type_list_append mt_append mt1_append (sn_var (pv 3)) (sa_cons (sn_tup (sa_cons sn_int (sa_cons sn_int sa_nil))) sa_nil))))))) (sb_one (ss_ret (sn_eq hu (sn_callB (call_lenOwn (C := cl 0) T.me_Table___len__ (ok_Table___len__ T) T.b_Table___len__ (hr.mono (by decide))) (fn_lenO (c0 := 0) (g := g_Table___len__)) rfl T.n_len PySem.boot_len (sa_cons (sn_var (pv 0)) sa_nil)) (sn_callB call_lenA fn_len rfl T.n_len PySem.boot_len (sa_cons (sn_call (ok_law_model_handles T) (hr.mono (by decide)) rfl T.m_law_model_handles T.f_law_model_handles.kp T.b_law_model_handles .nil closed_nil passA (sa_cons (sn_var (pv 1)) sa_nil)) sa_nil))))))
theorem ok_law_deed (T : Tx K mg cl) : FnOk P w K mg base CX0 3 T.a_law_deed T.d_law_deed ["_law_flow_here", "_law_board", "_law_model", "_law_pool", "_law_told"] (spOf ⟨K, cl⟩ 5 g_law_deed) := by
  refine fn_def (B := B_law_deed) T.f_law_deed sc_law_deed (fun cdv A outer s H E hr => ?_) (fun ds M _ => ref_run B_law_deed 10 ds M)
  have hu := huE hr
  have hu1 := hu1E hr
  exact (sb_cons (ss_set (i := 5) (sn_call (ok_law_draw T) (hr.mono (by decide)) rfl T.m_law_draw T.f_law_draw.kp T.b_law_draw .nil closed_nil passA (sa_cons (sn_var (pv 0)) (sa_cons sn_int sa_nil))) sc_law_deed.nd rfl (.inl rfl)) (sb_cons (ss_if (st_cmp (op_lt.or op_lt_str) op2_ord (nomark _) (sn_var (pv 5)) sn_int) (sb_cons (ss_set (i := 6) (sn_ix (sn_var (pv 3)) (sn_call (ok_law_draw T) (hr.mono (by decide)) rfl T.m_law_draw T.f_law_draw.kp T.b_law_draw .nil closed_nil passA (sa_cons (sn_var (pv 0)) (sa_cons (sn_callB call_lenA fn_len rfl T.n_len PySem.boot_len (sa_cons (sn_var (pv 3)) sa_nil)) sa_nil)))) sc_law_deed.nd rfl (.inl rfl)) (sb_cons (ss_par (i := 7) (j := 8) rfl sc_law_deed.nd rfl rfl (by decide) rfl rfl (sa_cons (sn_call (ok_law_model_put T) (hr.mono (by decide)) rfl T.m_law_model_put T.f_law_model_put.kp T.b_law_model_put .nil closed_nil passA (sa_cons (sn_var (pv 2)) (sa_cons (sn_var (pv 6)) sa_nil))) (sa_cons (sn_mth (c0 := 0) (sn_var (pv 1)) T.cls_Table T.me_Table_put (ok_Table_put T) (hr.mono (by decide)) T.b_Table_put .nil closedK_nil passA (sa_cons (sn_ix (sn_var (pv 6)) sn_int) (sa_cons (sn_ix (sn_var (pv 6)) sn_int) sa_nil))) sa_nil)) (by rfl)) (sb_cons (ss_if (st_notN (sn_var (pv 7))) (sb_one (ss_expr (sn_meth PySem.F.plainAttrs_list PySem.F.slot_list_append PySem.F.type_list_append mt_append mt1_append (sn_var (pv 4)) (sa_cons (sn_var (pv 7)) sa_nil)))) sb_nil) (sb_one (ss_ret (sn_call (ok_law_alike T) (hr.mono (by decide)) rfl T.m_law_alike T.f_law_alike.kp T.b_law_alike .nil closed_nil passA (sa_cons (sn_tup (sa_cons (sn_var (pv 8)) sa_nil)) (sa_cons (sn_tup (sa_cons (sn_var (pv 7)) sa_nil)) sa_nil)))))))) sb_nil) (sb_cons (ss_set (i := 9) (sn_call (ok_law_handle T) (hr.mono (by decide)) rfl T.m_law_handle T.f_law_handle.kp T.b_law_handle .nil closed_nil passA (sa_cons (sn_var (pv 0)) (sa_cons (sn_var (pv 4)) sa_nil))) sc_law_deed.nd rfl (.inl rfl)) (sb_cons (ss_if (st_cmp (op_eqP hu) op2_eq (nomark _) (sn_var (pv 5)) sn_int) (sb_cons (ss_set (i := 8) (sn_mth (c0 := 0) (sn_var (pv 1)) T.cls_Table T.me_Table_leads (ok_Table_leads T) (hr.mono (by decide)) T.b_Table_leads .nil closedK_nil passA (sa_cons (sn_var (pv 9)) sa_nil)) sc_law_deed.nd rfl (.inl rfl)) (sb_one (ss_ret (sn_call (ok_law_alike T) (hr.mono (by decide)) rfl T.m_law_alike T.f_law_alike.kp T.b_law_alike .nil closed_nil passA (sa_cons (sn_tup (sa_cons (sn_var (pv 8)) sa_nil)) (sa_cons (sn_tup (sa_cons (sn_call (ok_law_model_leads T) (hr.mono (by decide)) rfl T.m_law_model_leads T.f_law_model_leads.kp T.b_law_model_leads .nil closed_nil passA (sa_cons (sn_var (pv 2)) (sa_cons (sn_var (pv 9)) sa_nil))) sa_nil)) sa_nil)))))) sb_nil) (sb_one (ss_ret (sn_call (ok_law_alike T) (hr.mono (by decide)) rfl T.m_law_alike T.f_law_alike.kp T.b_law_alike .nil closed_nil passA (sa_cons (sn_tup (sa_cons (sn_mth (c0 := 0) (sn_var (pv 1)) T.cls_Table T.me_Table_drop (ok_Table_drop T) (hr.mono (by decide)) T.b_Table_drop .nil closedK_nil passA (sa_cons (sn_var (pv 9)) sa_nil)) sa_nil)) (sa_cons (sn_tup (sa_cons (sn_call (ok_law_model_drop T) (hr.mono (by decide)) rfl T.m_law_model_drop T.f_law_model_drop.kp T.b_law_model_drop .nil closed_nil passA (sa_cons (sn_var (pv 2)) (sa_cons (sn_var (pv 9)) sa_nil))) sa_nil)) sa_nil)))))))))
theorem ok_law_by_names (T : Tx K mg cl) : FnOk P w K mg base CX0 3 T.a_law_by_names T.d_law_by_names ["_law_flow_here", "_law_board", "_law_model", "_law_pool", "_law_told"] (spOf ⟨K, cl⟩ 5 g_law_by_names) := by
  refine fn_def (B := B_law_by_names) T.f_law_by_names sc_law_by_names (fun cdv A outer s H E hr => ?_) (fun ds M _ => ref_run B_law_by_names 9 ds M)
  have hu := huE hr
  have hu1 := hu1E hr
  exact (sb_cons (ss_asg (sl := [5, 6]) (sn_ix (sn_var (pv 3)) (sn_call (ok_law_draw T) (hr.mono (by decide)) rfl T.m_law_draw T.f_law_draw.kp T.b_law_draw .nil closed_nil passA (sa_cons (sn_var (pv 0)) (sa_cons (sn_callB call_lenA fn_len rfl T.n_len PySem.boot_len (sa_cons (sn_var (pv 3)) sa_nil)) sa_nil)))) (sg_tup rfl (sgs_cons (sg_name (pg_name (i := 5) sc_law_by_names.nd rfl (.inl rfl)) (by decide)) (sgs_cons (sg_name (pg_name (i := 6) sc_law_by_names.nd rfl (.inl rfl)) (by decide)) sgs_nil)))) (sb_cons (ss_if (st_cmp (op_eqP hu) op2_eq (nomark _) (sn_call (ok_law_draw T) (hr.mono (by decide)) rfl T.m_law_draw T.f_law_draw.kp T.b_law_draw .nil closed_nil passA (sa_cons (sn_var (pv 0)) (sa_cons sn_int sa_nil))) sn_int) (sb_cons (ss_set (i := 7) (sn_call (ok_law_model_put T) (hr.mono (by decide)) rfl T.m_law_model_put T.f_law_model_put.kp T.b_law_model_put .nil closed_nil passA (sa_cons (sn_var (pv 2)) (sa_cons (sn_tup (sa_cons (sn_var (pv 5)) (sa_cons (sn_var (pv 6)) sa_nil))) sa_nil))) sc_law_by_names.nd rfl (.inl rfl)) (sb_cons (ss_if (st_notN (sn_var (pv 7))) (sb_one (ss_expr (sn_meth PySem.F.plainAttrs_list PySem.F.slot_list_append PySem.F.type_list_append mt_append mt1_append (sn_var (pv 4)) (sa_cons (sn_var (pv 7)) sa_nil)))) sb_nil) (sb_one (ss_ret (sn_call (ok_law_alike T) (hr.mono (by decide)) rfl T.m_law_alike T.f_law_alike.kp T.b_law_alike .nil closed_nil passA (sa_cons (sn_tup (sa_cons (sn_mthKw0 (c0 := 0) (sn_var (pv 1)) T.cls_Table T.me_Table_put (ok_Table_put T) (hr.mono (by decide)) T.kk_Table_put_1_number_house passA (sk_cons (sn_var (pv 6)) (sk_cons (sn_var (pv 5)) sk_nil))) sa_nil)) (sa_cons (sn_tup (sa_cons (sn_var (pv 7)) sa_nil)) sa_nil))))))) sb_nil) (sb_cons (ss_set (i := 8) (sn_call (ok_law_handle T) (hr.mono (by decide)) rfl T.m_law_handle T.f_law_handle.kp T.b_law_handle .nil closed_nil passA (sa_cons (sn_var (pv 0)) (sa_cons (sn_var (pv 4)) sa_nil))) sc_law_by_names.nd rfl (.inl rfl)) (sb_cons (ss_if (st_not (st_val (sn_call (ok_law_alike T) (hr.mono (by decide)) rfl T.m_law_alike T.f_law_alike.kp T.b_law_alike .nil closed_nil passA (sa_cons (sn_tup (sa_cons (sn_mthKw0 (c0 := 0) (sn_var (pv 1)) T.cls_Table T.me_Table_leads (ok_Table_leads T) (hr.mono (by decide)) T.kk_Table_leads_1_handle passA (sk_cons (sn_var (pv 8)) sk_nil)) sa_nil)) (sa_cons (sn_tup (sa_cons (sn_call (ok_law_model_leads T) (hr.mono (by decide)) rfl T.m_law_model_leads T.f_law_model_leads.kp T.b_law_model_leads .nil closed_nil passA (sa_cons (sn_var (pv 2)) (sa_cons (sn_var (pv 8)) sa_nil))) sa_nil)) sa_nil))))) (sb_one (ss_ret sn_bl)) sb_nil) (sb_one (ss_ret (sn_call (ok_law_alike T) (hr.mono (by decide)) rfl T.m_law_alike T.f_law_alike.kp T.b_law_alike .nil closed_nil passA (sa_cons (sn_tup (sa_cons (sn_mthKw0 (c0 := 0) (sn_var (pv 1)) T.cls_Table T.me_Table_drop (ok_Table_drop T) (hr.mono (by decide)) T.kk_Table_drop_1_handle passA (sk_cons (sn_var (pv 8)) sk_nil)) sa_nil)) (sa_cons (sn_tup (sa_cons (sn_call (ok_law_model_drop T) (hr.mono (by decide)) rfl T.m_law_model_drop T.f_law_model_drop.kp T.b_law_model_drop .nil closed_nil passA (sa_cons (sn_var (pv 2)) (sa_cons (sn_var (pv 8)) sa_nil))) sa_nil)) sa_nil)))))))))
theorem ok_law (T : Tx K mg cl) : FnOk P w K mg base CX0 4 T.a_law T.d_law ["_law_script"] (spOf ⟨K, cl⟩ 1 g_law) := by
  refine fn_def (B := B_law) T.f_law sc_law (fun cdv A outer s H E hr => ?_) (fun ds M _ => ref_run B_law 12 ds M)
  have hu := huE hr
  have hu1 := hu1E hr
  exact (sb_cons (ss_set (i := 1) (sn_call (ok_law_flow T) (hr.mono (by decide)) rfl T.m_law_flow T.f_law_flow.kp T.b_law_flow .nil closed_nil passA (sa_cons (sn_var (pv 0)) (sa_cons sn_int sa_nil))) sc_law.nd rfl (.inl rfl)) (sb_cons (ss_par3 (i := 2) (j := 3) (l := 4) rfl sc_law.nd rfl rfl rfl (by decide) (by decide) (by decide) rfl rfl rfl (sa_cons (sn_call (ok_law_things T) (hr.mono (by decide)) rfl T.m_law_things T.f_law_things.kp T.b_law_things .nil closed_nil passA (sa_cons (sn_var (pv 1)) (sa_cons (sn_add false sn_int (sn_call (ok_law_draw T) (hr.mono (by decide)) rfl T.m_law_draw T.f_law_draw.kp T.b_law_draw .nil closed_nil passA (sa_cons (sn_var (pv 1)) (sa_cons sn_int sa_nil)))) sa_nil))) (sa_cons (sn_add false sn_int (sn_call (ok_law_draw T) (hr.mono (by decide)) rfl T.m_law_draw T.f_law_draw.kp T.b_law_draw .nil closed_nil passA (sa_cons (sn_var (pv 1)) (sa_cons sn_int sa_nil)))) (sa_cons (sn_lst true sa_nil) sa_nil))) (by rfl)) (sb_cons (ss_par (i := 5) (j := 6) rfl sc_law.nd rfl rfl (by decide) rfl rfl (sa_cons (sn_lc false (own := [("_law_k", 7)]) rfl sc_law.nd (si_range1 rfl T.n_range (sa_cons (sn_var (pv 3)) sa_nil)) (blkOk_by (N := ["_law_script", "_law_flow_here", "_law_pool", "_law_many", "_law_told", "_law_tables", "_law_models", "_law_k", "_law_at", "_law_fits", "_law_board", "_law_model"]) (sc := defScope s_law) (by decide +kernel)) (fun _ _ _ _ _ => (sg_name (pg_name (i := 7) sc_law.nd rfl (.inl rfl)) (by decide))) (fun _ _ _ _ _ => sts_nil) (fun _ _ _ _ _ => (sn_make0 (c0 := 0) T.mk_Table (ok_Table___init__ T) (hr.mono (by decide)) rfl T.c_Table T.b_Table___init__ .nil closedK_nil passA))) (sa_cons (sn_lc false (own := [("_law_k", 7)]) rfl sc_law.nd (si_range1 rfl T.n_range (sa_cons (sn_var (pv 3)) sa_nil)) (blkOk_by (N := ["_law_script", "_law_flow_here", "_law_pool", "_law_many", "_law_told", "_law_tables", "_law_models", "_law_k", "_law_at", "_law_fits", "_law_board", "_law_model"]) (sc := defScope s_law) (by decide +kernel)) (fun _ _ _ _ _ => (sg_name (pg_name (i := 7) sc_law.nd rfl (.inl rfl)) (by decide))) (fun _ _ _ _ _ => sts_nil) (fun _ _ _ _ _ => (sn_lst true sa_nil))) sa_nil)) (by rfl)) (sb_cons (ss_for (sl := [7]) PassesOwn.never rfl (si_range2 rfl T.n_range (sa_cons sn_int (sa_cons (sn_callB (call_max2 rfl) fn_2I rfl T.n_max (by decide +kernel) (sa_cons sn_int (sa_cons (sn_callB (call_min2 rfl) fn_2I rfl T.n_min (by decide +kernel) (sa_cons sn_int (sa_cons (sn_callB call_lenA fn_len rfl T.n_len PySem.boot_len (sa_cons (sn_var (pv 0)) sa_nil)) sa_nil))) sa_nil))) sa_nil))) (sg_name (pg_name (i := 7) sc_law.nd rfl (.inl rfl)) (by decide)) (sb_cons (ss_set (i := 1) (sn_call (ok_law_flow T) (hr.mono (by decide)) rfl T.m_law_flow T.f_law_flow.kp T.b_law_flow .nil closed_nil passA (sa_cons (sn_var (pv 0)) (sa_cons (sn_var (pv 7)) sa_nil))) sc_law.nd rfl (.inl rfl)) (sb_cons (ss_set (i := 8) (sn_call (ok_law_draw T) (hr.mono (by decide)) rfl T.m_law_draw T.f_law_draw.kp T.b_law_draw .nil closed_nil passA (sa_cons (sn_var (pv 1)) (sa_cons (sn_var (pv 3)) sa_nil))) sc_law.nd rfl (.inl rfl)) (sb_cons (ss_if (st_cmp (op_eqP hu) op2_eq (nomark _) (sn_call (ok_law_draw T) (hr.mono (by decide)) rfl T.m_law_draw T.f_law_draw.kp T.b_law_draw .nil closed_nil passA (sa_cons (sn_var (pv 1)) (sa_cons sn_int sa_nil))) sn_int) (sb_one (ss_set (i := 9) (sn_call (ok_law_by_names T) (hr.mono (by decide)) rfl T.m_law_by_names T.f_law_by_names.kp T.b_law_by_names .nil closed_nil passA (sa_cons (sn_var (pv 1)) (sa_cons (sn_ix (sn_var (pv 5)) (sn_var (pv 8))) (sa_cons (sn_ix (sn_var (pv 6)) (sn_var (pv 8))) (sa_cons (sn_var (pv 2)) (sa_cons (sn_var (pv 4)) sa_nil)))))) sc_law.nd rfl (.inl rfl))) (sb_one (ss_set (i := 9) (sn_call (ok_law_deed T) (hr.mono (by decide)) rfl T.m_law_deed T.f_law_deed.kp T.b_law_deed .nil closed_nil passA (sa_cons (sn_var (pv 1)) (sa_cons (sn_ix (sn_var (pv 5)) (sn_var (pv 8))) (sa_cons (sn_ix (sn_var (pv 6)) (sn_var (pv 8))) (sa_cons (sn_var (pv 2)) (sa_cons (sn_var (pv 4)) sa_nil)))))) sc_law.nd rfl (.inl rfl)))) (sb_one (ss_if (st_not (st_truth (sn_var (pv 9)))) (sb_one (ss_ret sn_bl)) sb_nil)))))) (sb_one (ss_ret (sn_callB (cr_all rfl) fn_allany rfl T.n_all (by decide +kernel) (sa_cons (sn_lc false (own := [("_law_board", 10), ("_law_model", 11)]) rfl sc_law.nd (si_zip rfl T.n_zip (sa_cons (sn_var (pv 5)) (sa_cons (sn_var (pv 6)) sa_nil))) (blkOk_by (N := ["_law_script", "_law_flow_here", "_law_pool", "_law_many", "_law_told", "_law_tables", "_law_models", "_law_k", "_law_at", "_law_fits", "_law_board", "_law_model"]) (sc := defScope s_law) (by decide +kernel)) (fun _ _ _ _ _ => (sg_tup rfl (sgs_cons (sg_name (pg_name (i := 10) sc_law.nd rfl (.inl rfl)) (by decide)) (sgs_cons (sg_name (pg_name (i := 11) sc_law.nd rfl (.inl rfl)) (by decide)) sgs_nil)))) (fun _ _ _ _ _ => sts_nil) (fun _ _ _ _ _ => (sn_call (ok_law_stands T) (hr.mono (by decide)) rfl T.m_law_stands T.f_law_stands.kp T.b_law_stands .nil closed_nil passA (sa_cons (sn_var (pv 10)) (sa_cons (sn_var (pv 11)) sa_nil))))) sa_nil))))))))
end
theorem all_mk {l : PySem.W.OpenLaw} {w : World} {K : PySem.W.Frag} {h : Heap} {mg : Str → Option Value} {fa : Addr} (X : K.In h) (G : h.Ns mainGlobals mg) (hfa : mg "law" = some (.ref fa))
    {C_Table : Addr}
    {f0 : Addr} {od0 an0 : Option Addr} {sl0 : Array (Option Value)} {oc0 dc0 pm0 cd0 ct0 : Value}
    {kV0 : Value}
    (a0 : PySem.W.findIn K (.ref C_Table) "__init__" = some (some (.ref f0))) (i0 : PySem.W.isFn K (.ref f0) = true) (l0 : K.lookup f0 = some ⟨oc0, od0, .func (PySem.W.fnOf "__init__" "Table.__init__" (defArgs s_Table___init__) (defBody s_Table___init__) (defScope s_Table___init__) .none kV0 dc0 pm0 an0 cd0 ct0), sl0⟩) (c0 : PySem.W.codeIn K cd0 "Table.__init__" = true) (k0 : PySem.W.keepIn K (.ref f0) = true)
    {f1 : Addr} {od1 an1 : Option Addr} {sl1 : Array (Option Value)} {oc1 dc1 pm1 cd1 ct1 : Value}
    {kV1 : Value}
    (a1 : PySem.W.findIn K (.ref C_Table) "__len__" = some (some (.ref f1))) (i1 : PySem.W.isFn K (.ref f1) = true) (l1 : K.lookup f1 = some ⟨oc1, od1, .func (PySem.W.fnOf "__len__" "Table.__len__" (defArgs s_Table___len__) (defBody s_Table___len__) (defScope s_Table___len__) .none kV1 dc1 pm1 an1 cd1 ct1), sl1⟩) (c1 : PySem.W.codeIn K cd1 "Table.__len__" = true) (k1 : PySem.W.keepIn K (.ref f1) = true)
    {f2 : Addr} {od2 an2 : Option Addr} {sl2 : Array (Option Value)} {oc2 dc2 pm2 cd2 ct2 : Value}
    {kV2 : Value}
    (a2 : PySem.W.findIn K (.ref C_Table) "free_place" = some (some (.ref f2))) (i2 : PySem.W.isFn K (.ref f2) = true) (l2 : K.lookup f2 = some ⟨oc2, od2, .func (PySem.W.fnOf "free_place" "Table.free_place" (defArgs s_Table_free_place) (defBody s_Table_free_place) (defScope s_Table_free_place) .none kV2 dc2 pm2 an2 cd2 ct2), sl2⟩) (c2 : PySem.W.codeIn K cd2 "Table.free_place" = true) (k2 : PySem.W.keepIn K (.ref f2) = true)
    {f3 : Addr} {od3 an3 : Option Addr} {sl3 : Array (Option Value)} {oc3 dc3 pm3 cd3 ct3 : Value}
    {kV3 : Value}
    (a3 : PySem.W.findIn K (.ref C_Table) "leads" = some (some (.ref f3))) (i3 : PySem.W.isFn K (.ref f3) = true) (l3 : K.lookup f3 = some ⟨oc3, od3, .func (PySem.W.fnOf "leads" "Table.leads" (defArgs s_Table_leads) (defBody s_Table_leads) (defScope s_Table_leads) .none kV3 dc3 pm3 an3 cd3 ct3), sl3⟩) (c3 : PySem.W.codeIn K cd3 "Table.leads" = true) (k3 : PySem.W.keepIn K (.ref f3) = true)
    {f4 : Addr} {od4 an4 : Option Addr} {sl4 : Array (Option Value)} {oc4 dc4 pm4 cd4 ct4 : Value}
    {kV4 : Value}
    (a4 : PySem.W.findIn K (.ref C_Table) "handles" = some (some (.ref f4))) (i4 : PySem.W.isFn K (.ref f4) = true) (l4 : K.lookup f4 = some ⟨oc4, od4, .func (PySem.W.fnOf "handles" "Table.handles" (defArgs s_Table_handles) (defBody s_Table_handles) (defScope s_Table_handles) .none kV4 dc4 pm4 an4 cd4 ct4), sl4⟩) (c4 : PySem.W.codeIn K cd4 "Table.handles" = true) (k4 : PySem.W.keepIn K (.ref f4) = true)
    {f5 : Addr} {od5 an5 : Option Addr} {sl5 : Array (Option Value)} {oc5 dc5 pm5 cd5 ct5 : Value}
    {kV5 : Value}
    (a5 : PySem.W.nsIn K mainGlobals "_law_cell" = some (some (.ref f5))) (l5 : K.lookup f5 = some ⟨oc5, od5, .func (PySem.W.fnOf "_law_cell" "_law_cell" (defArgs s_law_cell) (defBody s_law_cell) (defScope s_law_cell) .none kV5 dc5 pm5 an5 cd5 ct5), sl5⟩) (c5 : PySem.W.codeIn K cd5 "_law_cell" = true) (k5 : PySem.W.keepIn K (.ref f5) = true)
    {f6 : Addr} {od6 an6 : Option Addr} {sl6 : Array (Option Value)} {oc6 dc6 pm6 cd6 ct6 : Value}
    {kV6 : Value}
    (a6 : PySem.W.nsIn K mainGlobals "_law_draw" = some (some (.ref f6))) (l6 : K.lookup f6 = some ⟨oc6, od6, .func (PySem.W.fnOf "_law_draw" "_law_draw" (defArgs s_law_draw) (defBody s_law_draw) (defScope s_law_draw) .none kV6 dc6 pm6 an6 cd6 ct6), sl6⟩) (c6 : PySem.W.codeIn K cd6 "_law_draw" = true) (k6 : PySem.W.keepIn K (.ref f6) = true)
    {f7 : Addr} {od7 an7 : Option Addr} {sl7 : Array (Option Value)} {oc7 dc7 pm7 cd7 ct7 : Value}
    {kV7 : Value}
    (a7 : PySem.W.nsIn K mainGlobals "_law_alike" = some (some (.ref f7))) (l7 : K.lookup f7 = some ⟨oc7, od7, .func (PySem.W.fnOf "_law_alike" "_law_alike" (defArgs s_law_alike) (defBody s_law_alike) (defScope s_law_alike) .none kV7 dc7 pm7 an7 cd7 ct7), sl7⟩) (c7 : PySem.W.codeIn K cd7 "_law_alike" = true) (k7 : PySem.W.keepIn K (.ref f7) = true)
    {f8 : Addr} {od8 an8 : Option Addr} {sl8 : Array (Option Value)} {oc8 dc8 pm8 cd8 ct8 : Value}
    {kV8 : Value}
    (a8 : PySem.W.nsIn K mainGlobals "_law_model_put" = some (some (.ref f8))) (l8 : K.lookup f8 = some ⟨oc8, od8, .func (PySem.W.fnOf "_law_model_put" "_law_model_put" (defArgs s_law_model_put) (defBody s_law_model_put) (defScope s_law_model_put) .none kV8 dc8 pm8 an8 cd8 ct8), sl8⟩) (c8 : PySem.W.codeIn K cd8 "_law_model_put" = true) (k8 : PySem.W.keepIn K (.ref f8) = true)
    {f9 : Addr} {od9 an9 : Option Addr} {sl9 : Array (Option Value)} {oc9 dc9 pm9 cd9 ct9 : Value}
    {kV9 : Value}
    (a9 : PySem.W.nsIn K mainGlobals "_law_model_leads" = some (some (.ref f9))) (l9 : K.lookup f9 = some ⟨oc9, od9, .func (PySem.W.fnOf "_law_model_leads" "_law_model_leads" (defArgs s_law_model_leads) (defBody s_law_model_leads) (defScope s_law_model_leads) .none kV9 dc9 pm9 an9 cd9 ct9), sl9⟩) (c9 : PySem.W.codeIn K cd9 "_law_model_leads" = true) (k9 : PySem.W.keepIn K (.ref f9) = true)
    {f10 : Addr} {od10 an10 : Option Addr} {sl10 : Array (Option Value)} {oc10 dc10 pm10 cd10 ct10 : Value}
    {kV10 : Value}
    (a10 : PySem.W.nsIn K mainGlobals "_law_model_handles" = some (some (.ref f10))) (l10 : K.lookup f10 = some ⟨oc10, od10, .func (PySem.W.fnOf "_law_model_handles" "_law_model_handles" (defArgs s_law_model_handles) (defBody s_law_model_handles) (defScope s_law_model_handles) .none kV10 dc10 pm10 an10 cd10 ct10), sl10⟩) (c10 : PySem.W.codeIn K cd10 "_law_model_handles" = true) (k10 : PySem.W.keepIn K (.ref f10) = true)
    {f11 : Addr} {od11 an11 : Option Addr} {sl11 : Array (Option Value)} {oc11 dc11 pm11 cd11 ct11 : Value}
    {kV11 : Value}
    (a11 : PySem.W.findIn K (.ref C_Table) "put" = some (some (.ref f11))) (i11 : PySem.W.isFn K (.ref f11) = true) (l11 : K.lookup f11 = some ⟨oc11, od11, .func (PySem.W.fnOf "put" "Table.put" (defArgs s_Table_put) (defBody s_Table_put) (defScope s_Table_put) .none kV11 dc11 pm11 an11 cd11 ct11), sl11⟩) (c11 : PySem.W.codeIn K cd11 "Table.put" = true) (k11 : PySem.W.keepIn K (.ref f11) = true)
    {f12 : Addr} {od12 an12 : Option Addr} {sl12 : Array (Option Value)} {oc12 dc12 pm12 cd12 ct12 : Value}
    {kV12 : Value}
    (a12 : PySem.W.findIn K (.ref C_Table) "drop" = some (some (.ref f12))) (i12 : PySem.W.isFn K (.ref f12) = true) (l12 : K.lookup f12 = some ⟨oc12, od12, .func (PySem.W.fnOf "drop" "Table.drop" (defArgs s_Table_drop) (defBody s_Table_drop) (defScope s_Table_drop) .none kV12 dc12 pm12 an12 cd12 ct12), sl12⟩) (c12 : PySem.W.codeIn K cd12 "Table.drop" = true) (k12 : PySem.W.keepIn K (.ref f12) = true)
    {f13 : Addr} {od13 an13 : Option Addr} {sl13 : Array (Option Value)} {oc13 dc13 pm13 cd13 ct13 : Value}
    {kV13 : Value}
    (a13 : PySem.W.nsIn K mainGlobals "_law_flow" = some (some (.ref f13))) (l13 : K.lookup f13 = some ⟨oc13, od13, .func (PySem.W.fnOf "_law_flow" "_law_flow" (defArgs s_law_flow) (defBody s_law_flow) (defScope s_law_flow) .none kV13 dc13 pm13 an13 cd13 ct13), sl13⟩) (c13 : PySem.W.codeIn K cd13 "_law_flow" = true) (k13 : PySem.W.keepIn K (.ref f13) = true)
    {f14 : Addr} {od14 an14 : Option Addr} {sl14 : Array (Option Value)} {oc14 dc14 pm14 cd14 ct14 : Value}
    {kV14 : Value}
    (a14 : PySem.W.nsIn K mainGlobals "_law_names" = some (some (.ref f14))) (l14 : K.lookup f14 = some ⟨oc14, od14, .func (PySem.W.fnOf "_law_names" "_law_names" (defArgs s_law_names) (defBody s_law_names) (defScope s_law_names) .none kV14 dc14 pm14 an14 cd14 ct14), sl14⟩) (c14 : PySem.W.codeIn K cd14 "_law_names" = true) (k14 : PySem.W.keepIn K (.ref f14) = true)
    {f15 : Addr} {od15 an15 : Option Addr} {sl15 : Array (Option Value)} {oc15 dc15 pm15 cd15 ct15 : Value}
    {kV15 : Value}
    (a15 : PySem.W.nsIn K mainGlobals "_law_model_drop" = some (some (.ref f15))) (l15 : K.lookup f15 = some ⟨oc15, od15, .func (PySem.W.fnOf "_law_model_drop" "_law_model_drop" (defArgs s_law_model_drop) (defBody s_law_model_drop) (defScope s_law_model_drop) .none kV15 dc15 pm15 an15 cd15 ct15), sl15⟩) (c15 : PySem.W.codeIn K cd15 "_law_model_drop" = true) (k15 : PySem.W.keepIn K (.ref f15) = true)
    {f16 : Addr} {od16 an16 : Option Addr} {sl16 : Array (Option Value)} {oc16 dc16 pm16 cd16 ct16 : Value}
    {kV16 : Value}
    (a16 : PySem.W.nsIn K mainGlobals "_law_handle" = some (some (.ref f16))) (l16 : K.lookup f16 = some ⟨oc16, od16, .func (PySem.W.fnOf "_law_handle" "_law_handle" (defArgs s_law_handle) (defBody s_law_handle) (defScope s_law_handle) .none kV16 dc16 pm16 an16 cd16 ct16), sl16⟩) (c16 : PySem.W.codeIn K cd16 "_law_handle" = true) (k16 : PySem.W.keepIn K (.ref f16) = true)
    {f17 : Addr} {od17 an17 : Option Addr} {sl17 : Array (Option Value)} {oc17 dc17 pm17 cd17 ct17 : Value}
    {kV17 : Value}
    (a17 : PySem.W.nsIn K mainGlobals "_law_things" = some (some (.ref f17))) (l17 : K.lookup f17 = some ⟨oc17, od17, .func (PySem.W.fnOf "_law_things" "_law_things" (defArgs s_law_things) (defBody s_law_things) (defScope s_law_things) .none kV17 dc17 pm17 an17 cd17 ct17), sl17⟩) (c17 : PySem.W.codeIn K cd17 "_law_things" = true) (k17 : PySem.W.keepIn K (.ref f17) = true)
    {f18 : Addr} {od18 an18 : Option Addr} {sl18 : Array (Option Value)} {oc18 dc18 pm18 cd18 ct18 : Value}
    {kV18 : Value}
    (a18 : PySem.W.nsIn K mainGlobals "_law_stands" = some (some (.ref f18))) (l18 : K.lookup f18 = some ⟨oc18, od18, .func (PySem.W.fnOf "_law_stands" "_law_stands" (defArgs s_law_stands) (defBody s_law_stands) (defScope s_law_stands) .none kV18 dc18 pm18 an18 cd18 ct18), sl18⟩) (c18 : PySem.W.codeIn K cd18 "_law_stands" = true) (k18 : PySem.W.keepIn K (.ref f18) = true)
    {f19 : Addr} {od19 an19 : Option Addr} {sl19 : Array (Option Value)} {oc19 dc19 pm19 cd19 ct19 : Value}
    {kV19 : Value}
    (a19 : PySem.W.nsIn K mainGlobals "_law_deed" = some (some (.ref f19))) (l19 : K.lookup f19 = some ⟨oc19, od19, .func (PySem.W.fnOf "_law_deed" "_law_deed" (defArgs s_law_deed) (defBody s_law_deed) (defScope s_law_deed) .none kV19 dc19 pm19 an19 cd19 ct19), sl19⟩) (c19 : PySem.W.codeIn K cd19 "_law_deed" = true) (k19 : PySem.W.keepIn K (.ref f19) = true)
    {f20 : Addr} {od20 an20 : Option Addr} {sl20 : Array (Option Value)} {oc20 dc20 pm20 cd20 ct20 : Value}
    {kV20 : Value}
    (a20 : PySem.W.nsIn K mainGlobals "_law_by_names" = some (some (.ref f20))) (l20 : K.lookup f20 = some ⟨oc20, od20, .func (PySem.W.fnOf "_law_by_names" "_law_by_names" (defArgs s_law_by_names) (defBody s_law_by_names) (defScope s_law_by_names) .none kV20 dc20 pm20 an20 cd20 ct20), sl20⟩) (c20 : PySem.W.codeIn K cd20 "_law_by_names" = true) (k20 : PySem.W.keepIn K (.ref f20) = true)
    {f21 : Addr} {od21 an21 : Option Addr} {sl21 : Array (Option Value)} {oc21 dc21 pm21 cd21 ct21 : Value}
    {kV21 : Value}
    (a21 : PySem.W.nsIn K mainGlobals "law" = some (some (.ref f21))) (l21 : K.lookup f21 = some ⟨oc21, od21, .func (PySem.W.fnOf "law" "law" (defArgs s_law) (defBody s_law) (defScope s_law) .none kV21 dc21 pm21 an21 cd21 ct21), sl21⟩) (c21 : PySem.W.codeIn K cd21 "law" = true) (k21 : PySem.W.keepIn K (.ref f21) = true)
    (aC_Table : PySem.W.nsIn K mainGlobals "Table" = some (some (.ref C_Table))) (pg_Table : PySem.W.plainGet K C_Table Str.empty = true) (hd_Table : PySem.W.hasDictIn K C_Table = true) (po_Table : PySem.W.plainOver K C_Table = true) (sa_Table : PySem.W.findIn K (.ref C_Table) "__setattr__" = some (some (.builtin "object.__setattr__"))) (mk_Table : PySem.W.makesIn K C_Table = true) (kc_Table : PySem.W.keepIn K (.ref C_Table) = true)
    (nf_Table_used : PySem.W.findIn K (.ref C_Table) "used" = some none)
    (nf_Table_there : PySem.W.findIn K (.ref C_Table) "there" = some none)
    (nf_Table_known : PySem.W.findIn K (.ref C_Table) "known" = some none)
    (z_all : PySem.W.nsIn K mainGlobals "all" = some none)
    (z_bool : PySem.W.nsIn K mainGlobals "bool" = some none)
    (z_enumerate : PySem.W.nsIn K mainGlobals "enumerate" = some none)
    (z_isinstance : PySem.W.nsIn K mainGlobals "isinstance" = some none)
    (z_len : PySem.W.nsIn K mainGlobals "len" = some none)
    (z_list : PySem.W.nsIn K mainGlobals "list" = some none)
    (z_max : PySem.W.nsIn K mainGlobals "max" = some none)
    (z_min : PySem.W.nsIn K mainGlobals "min" = some none)
    (z_range : PySem.W.nsIn K mainGlobals "range" = some none)
    (z_sorted : PySem.W.nsIn K mainGlobals "sorted" = some none)
    (z_str : PySem.W.nsIn K mainGlobals "str" = some none)
    (z_tuple : PySem.W.nsIn K mainGlobals "tuple" = some none)
    (z_zip : PySem.W.nsIn K mainGlobals "zip" = some none) :
    ∃ fd : FuncData, (∀ (s : Shared) (v : Value), BindsTo s fd ⟨[v], []⟩ [("_law_script", v)]) ∧ ∀ base : Heap, K.In base → base.Ns mainGlobals mg → FnOk l.prog w K mg base CX0 4 fa fd ["_law_script"] (fun vs H Q E => ∀ cl, spOf ⟨K, cl⟩ 1 g_law vs H Q E) := by
  have e := hfa.symm.trans (PySem.W.mg_of X G a21)
  cases e
  have F0 := fun_mk (st := s_Table___init__) l0 c0 k0
  have F1 := fun_mk (st := s_Table___len__) l1 c1 k1
  have F2 := fun_mk (st := s_Table_free_place) l2 c2 k2
  have F3 := fun_mk (st := s_Table_leads) l3 c3 k3
  have F4 := fun_mk (st := s_Table_handles) l4 c4 k4
  have F5 := fun_mk (st := s_law_cell) l5 c5 k5
  have F6 := fun_mk (st := s_law_draw) l6 c6 k6
  have F7 := fun_mk (st := s_law_alike) l7 c7 k7
  have F8 := fun_mk (st := s_law_model_put) l8 c8 k8
  have F9 := fun_mk (st := s_law_model_leads) l9 c9 k9
  have F10 := fun_mk (st := s_law_model_handles) l10 c10 k10
  have F11 := fun_mk (st := s_Table_put) l11 c11 k11
  have F12 := fun_mk (st := s_Table_drop) l12 c12 k12
  have F13 := fun_mk (st := s_law_flow) l13 c13 k13
  have F14 := fun_mk (st := s_law_names) l14 c14 k14
  have F15 := fun_mk (st := s_law_model_drop) l15 c15 k15
  have F16 := fun_mk (st := s_law_handle) l16 c16 k16
  have F17 := fun_mk (st := s_law_things) l17 c17 k17
  have F18 := fun_mk (st := s_law_stands) l18 c18 k18
  have F19 := fun_mk (st := s_law_deed) l19 c19 k19
  have F20 := fun_mk (st := s_law_by_names) l20 c20 k20
  have F21 := fun_mk (st := s_law) l21 c21 k21
  let T : Tx K mg (fun i => if i = 0 then C_Table else (fun _ => 0) i) := { a_Table___init__ := _, d_Table___init__ := _, f_Table___init__ := F0, b_Table___init__ := F0.binds (ps := ["self"]) (fun _ _ _ _ _ _ us hl => (match us, hl with | [_], _ => rfl)), a_Table___len__ := _, d_Table___len__ := _, f_Table___len__ := F1, me_Table___len__ := ⟨a1, i1, k1⟩, b_Table___len__ := F1.binds (ps := ["self"]) (fun _ _ _ _ _ _ us hl => (match us, hl with | [_], _ => rfl)), a_Table_free_place := _, d_Table_free_place := _, f_Table_free_place := F2, me_Table_free_place := ⟨a2, i2, k2⟩, b_Table_free_place := F2.binds (ps := ["self"]) (fun _ _ _ _ _ _ us hl => (match us, hl with | [_], _ => rfl)), a_Table_leads := _, d_Table_leads := _, f_Table_leads := F3, me_Table_leads := ⟨a3, i3, k3⟩, b_Table_leads := F3.binds (ps := ["self", "handle"]) (fun _ _ _ _ _ _ us hl => (match us, hl with | [_, _], _ => rfl)), a_Table_handles := _, d_Table_handles := _, f_Table_handles := F4, me_Table_handles := ⟨a4, i4, k4⟩, b_Table_handles := F4.binds (ps := ["self"]) (fun _ _ _ _ _ _ us hl => (match us, hl with | [_], _ => rfl)), a_law_cell := _, d_law_cell := _, f_law_cell := F5, m_law_cell := PySem.W.mg_of X G a5, b_law_cell := F5.binds (ps := ["_law_script", "_law_k"]) (fun _ _ _ _ _ _ us hl => (match us, hl with | [_, _], _ => rfl)), a_law_draw := _, d_law_draw := _, f_law_draw := F6, m_law_draw := PySem.W.mg_of X G a6, b_law_draw := F6.binds (ps := ["_law_flow_here", "_law_many"]) (fun _ _ _ _ _ _ us hl => (match us, hl with | [_, _], _ => rfl)), a_law_alike := _, d_law_alike := _, f_law_alike := F7, m_law_alike := PySem.W.mg_of X G a7, b_law_alike := F7.binds (ps := ["_law_found", "_law_due"]) (fun _ _ _ _ _ _ us hl => (match us, hl with | [_, _], _ => rfl)), a_law_model_put := _, d_law_model_put := _, f_law_model_put := F8, m_law_model_put := PySem.W.mg_of X G a8, b_law_model_put := F8.binds (ps := ["_law_model", "_law_thing"]) (fun _ _ _ _ _ _ us hl => (match us, hl with | [_, _], _ => rfl)), a_law_model_leads := _, d_law_model_leads := _, f_law_model_leads := F9, m_law_model_leads := PySem.W.mg_of X G a9, b_law_model_leads := F9.binds (ps := ["_law_model", "_law_grip"]) (fun _ _ _ _ _ _ us hl => (match us, hl with | [_, _], _ => rfl)), a_law_model_handles := _, d_law_model_handles := _, f_law_model_handles := F10, m_law_model_handles := PySem.W.mg_of X G a10, b_law_model_handles := F10.binds (ps := ["_law_model"]) (fun _ _ _ _ _ _ us hl => (match us, hl with | [_], _ => rfl)), a_Table_put := _, d_Table_put := _, f_Table_put := F11, me_Table_put := ⟨a11, i11, k11⟩, b_Table_put := F11.binds (ps := ["self", "house", "number"]) (fun _ _ _ _ _ _ us hl => (match us, hl with | [_, _, _], _ => rfl)), a_Table_drop := _, d_Table_drop := _, f_Table_drop := F12, me_Table_drop := ⟨a12, i12, k12⟩, b_Table_drop := F12.binds (ps := ["self", "handle"]) (fun _ _ _ _ _ _ us hl => (match us, hl with | [_, _], _ => rfl)), a_law_flow := _, d_law_flow := _, f_law_flow := F13, m_law_flow := PySem.W.mg_of X G a13, b_law_flow := F13.binds (ps := ["_law_script", "_law_k"]) (fun _ _ _ _ _ _ us hl => (match us, hl with | [_, _], _ => rfl)), a_law_names := _, d_law_names := _, f_law_names := F14, m_law_names := PySem.W.mg_of X G a14, b_law_names := F14.binds (ps := ["_law_flow_here", "_law_many"]) (fun _ _ _ _ _ _ us hl => (match us, hl with | [_, _], _ => rfl)), a_law_model_drop := _, d_law_model_drop := _, f_law_model_drop := F15, m_law_model_drop := PySem.W.mg_of X G a15, b_law_model_drop := F15.binds (ps := ["_law_model", "_law_grip"]) (fun _ _ _ _ _ _ us hl => (match us, hl with | [_, _], _ => rfl)), a_law_handle := _, d_law_handle := _, f_law_handle := F16, m_law_handle := PySem.W.mg_of X G a16, b_law_handle := F16.binds (ps := ["_law_flow_here", "_law_told"]) (fun _ _ _ _ _ _ us hl => (match us, hl with | [_, _], _ => rfl)), a_law_things := _, d_law_things := _, f_law_things := F17, m_law_things := PySem.W.mg_of X G a17, b_law_things := F17.binds (ps := ["_law_flow_here", "_law_many"]) (fun _ _ _ _ _ _ us hl => (match us, hl with | [_, _], _ => rfl)), a_law_stands := _, d_law_stands := _, f_law_stands := F18, m_law_stands := PySem.W.mg_of X G a18, b_law_stands := F18.binds (ps := ["_law_board", "_law_model"]) (fun _ _ _ _ _ _ us hl => (match us, hl with | [_, _], _ => rfl)), a_law_deed := _, d_law_deed := _, f_law_deed := F19, m_law_deed := PySem.W.mg_of X G a19, b_law_deed := F19.binds (ps := ["_law_flow_here", "_law_board", "_law_model", "_law_pool", "_law_told"]) (fun _ _ _ _ _ _ us hl => (match us, hl with | [_, _, _, _, _], _ => rfl)), a_law_by_names := _, d_law_by_names := _, f_law_by_names := F20, m_law_by_names := PySem.W.mg_of X G a20, b_law_by_names := F20.binds (ps := ["_law_flow_here", "_law_board", "_law_model", "_law_pool", "_law_told"]) (fun _ _ _ _ _ _ us hl => (match us, hl with | [_, _, _, _, _], _ => rfl)), a_law := _, d_law := _, f_law := F21, m_law := PySem.W.mg_of X G a21, b_law := F21.binds (ps := ["_law_script"]) (fun _ _ _ _ _ _ us hl => (match us, hl with | [_], _ => rfl)), cls_Table := ⟨pg_Table, hd_Table, po_Table, sa_Table⟩, c_Table := PySem.W.mg_of X G aC_Table, mk_Table := ⟨mk_Table, a0, i0, kc_Table⟩, na_Table_used := nf_Table_used, na_Table_there := nf_Table_there, na_Table_known := nf_Table_known, kk_Table_put_1_number_house := ⟨fun us ws => ([0, 2, 1] : List Nat).filterMap (fun i => (us ++ ws)[i]?), fun vs zs => ([0, 2, 1] : List Nat).filterMap (fun i => (vs ++ zs)[i]?), ⟨fun s us ws X l1 l2 => (match us, ws, l1, l2 with | [_], [_, _], _, _ => .of_eq rfl), fun r1 r2 => vals_pick (r1.append r2) _⟩, fun _ _ ds zs vs ws r1 r2 => by rw [List.append_nil]; exact rpl_pick (r1.append r2) _⟩, kk_Table_leads_1_handle := ⟨fun us ws => us ++ ws, fun vs zs => vs ++ zs, ⟨fun s us ws X l1 l2 => (match us, ws, l1, l2 with | [_], [_], _, _ => .of_eq rfl), fun r1 r2 => r1.append r2⟩, fun _ _ ds zs vs ws r1 r2 => by rw [List.append_nil]; exact r1.append r2⟩, kk_Table_drop_1_handle := ⟨fun us ws => us ++ ws, fun vs zs => vs ++ zs, ⟨fun s us ws X l1 l2 => (match us, ws, l1, l2 with | [_], [_], _, _ => .of_eq rfl), fun r1 r2 => r1.append r2⟩, fun _ _ ds zs vs ws r1 r2 => by rw [List.append_nil]; exact r1.append r2⟩, n_all := PySem.W.mg_none_of X G z_all, n_bool := PySem.W.mg_none_of X G z_bool, n_enumerate := PySem.W.mg_none_of X G z_enumerate, n_isinstance := PySem.W.mg_none_of X G z_isinstance, n_len := PySem.W.mg_none_of X G z_len, n_list := PySem.W.mg_none_of X G z_list, n_max := PySem.W.mg_none_of X G z_max, n_min := PySem.W.mg_none_of X G z_min, n_range := PySem.W.mg_none_of X G z_range, n_sorted := PySem.W.mg_none_of X G z_sorted, n_str := PySem.W.mg_none_of X G z_str, n_tuple := PySem.W.mg_none_of X G z_tuple, n_zip := PySem.W.mg_none_of X G z_zip }
  exact ⟨_, fun s v => .of_eq rfl, fun base _ _ => (ok_law T).imp fun vs H Q E h => h _⟩
end K15
open PySem PySem.W PyProof.Rows
set_option maxHeartbeats 0 in
theorem PySem.Challenge.cw_grantchain_k15_tables_by_turns_holds : PySem.Challenge.rw_grantchain_k15_tables_by_turns.Holds := by
  w_on; o_law; k_head; (case hw => w_witness2)
  k_fill
  refine L2.walk_of (l := PySem.Challenge.rw_grantchain_k15_tables_by_turns) (n := 63) (k := 4) (x := "_law_script") (CX := fun _ => L2.CX0) (sp := fun w vs H Q E => ∀ cl, Fn.spOf ⟨_, cl⟩ 1 K15.g_law vs H Q E) rfl (by decide) rfl ⟨rfl, by decide, by decide⟩ (fun w h Y => PySem.W.kIn_of Y) ?F (fun w H a ns hl ho hS cl => Fn.law_end K15.law_holds hl ho hS) (fun _ _ _ _ _ h => h)
  case F =>
    intro w mg fa h KX G hmg
    refine' K15.all_mk KX G hmg ?a0 ?i0 ?l0 ?c0 ?k0 ?a1 ?i1 ?l1 ?c1 ?k1 ?a2 ?i2 ?l2 ?c2 ?k2 ?a3 ?i3 ?l3 ?c3 ?k3 ?a4 ?i4 ?l4 ?c4 ?k4 ?a5 ?l5 ?c5 ?k5 ?a6 ?l6 ?c6 ?k6 ?a7 ?l7 ?c7 ?k7 ?a8 ?l8 ?c8 ?k8 ?a9 ?l9 ?c9 ?k9 ?a10 ?l10 ?c10 ?k10 ?a11 ?i11 ?l11 ?c11 ?k11 ?a12 ?i12 ?l12 ?c12 ?k12 ?a13 ?l13 ?c13 ?k13 ?a14 ?l14 ?c14 ?k14 ?a15 ?l15 ?c15 ?k15 ?a16 ?l16 ?c16 ?k16 ?a17 ?l17 ?c17 ?k17 ?a18 ?l18 ?c18 ?k18 ?a19 ?l19 ?c19 ?k19 ?a20 ?l20 ?c20 ?k20 ?a21 ?l21 ?c21 ?k21 ?aC_Table ?pg_Table ?hd_Table ?po_Table ?sa_Table ?mk_Table ?kc_Table ?nf_Table_used ?nf_Table_there ?nf_Table_known ?z_all ?z_bool ?z_enumerate ?z_isinstance ?z_len ?z_list ?z_max ?z_min ?z_range ?z_sorted ?z_str ?z_tuple ?z_zip
    (case aC_Table => k_is); (case a0 => k_is); (case i0 => k_is); (case l0 => k_is); (case c0 => k_is); (case k0 => k_is); (case a1 => k_is); (case i1 => k_is); (case l1 => k_is); (case c1 => k_is); (case k1 => k_is); (case a2 => k_is); (case i2 => k_is); (case l2 => k_is); (case c2 => k_is); (case k2 => k_is); (case a3 => k_is); (case i3 => k_is); (case l3 => k_is); (case c3 => k_is); (case k3 => k_is); (case a4 => k_is); (case i4 => k_is); (case l4 => k_is); (case c4 => k_is); (case k4 => k_is); (case a5 => k_is); (case l5 => k_is); (case c5 => k_is); (case k5 => k_is); (case a6 => k_is); (case l6 => k_is); (case c6 => k_is); (case k6 => k_is); (case a7 => k_is); (case l7 => k_is); (case c7 => k_is); (case k7 => k_is); (case a8 => k_is); (case l8 => k_is); (case c8 => k_is); (case k8 => k_is); (case a9 => k_is); (case l9 => k_is); (case c9 => k_is); (case k9 => k_is); (case a10 => k_is); (case l10 => k_is); (case c10 => k_is); (case k10 => k_is); (case a11 => k_is); (case i11 => k_is); (case l11 => k_is); (case c11 => k_is); (case k11 => k_is); (case a12 => k_is); (case i12 => k_is); (case l12 => k_is); (case c12 => k_is); (case k12 => k_is); (case a13 => k_is); (case l13 => k_is); (case c13 => k_is); (case k13 => k_is); (case a14 => k_is); (case l14 => k_is); (case c14 => k_is); (case k14 => k_is); (case a15 => k_is); (case l15 => k_is); (case c15 => k_is); (case k15 => k_is); (case a16 => k_is); (case l16 => k_is); (case c16 => k_is); (case k16 => k_is); (case a17 => k_is); (case l17 => k_is); (case c17 => k_is); (case k17 => k_is); (case a18 => k_is); (case l18 => k_is); (case c18 => k_is); (case k18 => k_is); (case a19 => k_is); (case l19 => k_is); (case c19 => k_is); (case k19 => k_is); (case a20 => k_is); (case l20 => k_is); (case c20 => k_is); (case k20 => k_is); (case a21 => k_is); (case l21 => k_is); (case c21 => k_is); (case k21 => k_is); (case pg_Table => k_is); (case hd_Table => k_is); (case po_Table => k_is); (case sa_Table => k_is); (case mk_Table => k_is); (case kc_Table => k_is); (case nf_Table_used => k_is); (case nf_Table_there => k_is); (case nf_Table_known => k_is); (case z_all => k_is); (case z_bool => k_is); (case z_enumerate => k_is); (case z_isinstance => k_is); (case z_len => k_is); (case z_list => k_is); (case z_max => k_is); (case z_min => k_is); (case z_range => k_is); (case z_sorted => k_is); (case z_str => k_is); (case z_tuple => k_is); (case z_zip => k_is)
