import PyProof.Rows.All
import Wide.All
import OpenK.AllK
import Wide.FinOn
import HandS.ForMost
import HandS.Wide
import HandS.TupAny
import KE.DataEq
import KE.DataFind
import HandS.IsInst
import HandS.SortInts
import HandS.Zip
import HandS.Defaults
import KE.SortData
import HandS.Style
import HandS.MakeKwOnly
import KE.KUnpackStar
import PyProof.MakeMany
import HandS.SetFor
import HandS.Strs
import KE.DataCmp
import HandS.DictTup
import HandS.TupLen
import HandS.WordsDict
import HandS.Iter
import HandS.OwnEq
import OpenK.KOps
import HandS.Conv
import HandS.DictSubView
import HandS.Ends
import PyProof.ReprRoads
import PyProof.ReprLen
import HandS.RaiseMore
import HandS.ListItems
import HandS.Dict
import KE.GoesEnum
import HandS.Zip0
import HandS.Text
import KE.KDictZip
import KE.KItemsList
import PyProof.Seq
import HandS.SetKeys
import HandS.Flow
import HandS.More
import KE.GoesMore
import HandS.DictComp
import HandS.Exc
import HandS.TupMul
import HandS.SetTxt0
import HandS.Sort
import KE.KDictPairs
import PySem.Challenge.RW_grantchain_k39_the_first_answer_stays
set_option Elab.async false
set_option linter.all false
set_option maxRecDepth 100000
set_option maxHeartbeats 1000000
namespace Fn
open PySem PySem.Spec PyProof.Rows L2
abbrev Txt := List Nat
def l2s (l : List Nat) : Str := ⟨l.toArray⟩
def s2l (x : Str) : List Nat := x.cps.toList
theorem l2s_s2l (x : Str) : l2s (s2l x) = x := by cases x with | mk c => simp [l2s, s2l]
theorem s2l_l2s (l : List Nat) : s2l (l2s l) = l := by simp [l2s, s2l]
theorem l2s_inj {a b : List Nat} (h : l2s a = l2s b) : a = b := by have := congrArg s2l h; rwa [s2l_l2s, s2l_l2s] at this
/-- a key of a dict -/
abbrev KK := Sum Int (List Nat)
def kk : KK → Key
  | .inl i => .inl i
  | .inr l => .inr (l2s l)
theorem kk_inj {a b : KK} (h : kk a = kk b) : a = b := by
  cases a <;> cases b
  · exact congrArg Sum.inl (Sum.inl.inj h)
  · cases h
  · cases h
  · exact congrArg Sum.inr (l2s_inj (Sum.inr.inj h))
/-- a value: what never changes is a tree; a changing object is a cell of the memory -/
inductive D where
  | non | bl (b : Bool) | int (i : Int) | str (x : List Nat) | tup (l : List D) | lst (l : List D) | fz (l : List D) | ref (i : Nat) | ct (l : List D)
inductive Cell where
  | lst (l : List D)
  | dk (lk : Bool) (kvs : List (KK × D))
  | dt (lk : Bool) (kvs : List (List KK × D))
  | ins (c : Nat) (fs : List (Str × D))
abbrev Mem := List Cell
abbrev Env := List (Option D)
inductive R (α : Type) where
  | ok (a : α) (m : Mem)
  | ex (c : Nat) (fs : List (Str × D)) (m : Mem)
  | no
def R.bind {α β : Type} (r : R α) (k : α → Mem → R β) : R β := match r with
  | .ok a m => k a m
  | .ex c fs m => .ex c fs m
  | .no => .no
@[simp] theorem R.bind_ok {α β : Type} (a : α) (m : Mem) (k : α → Mem → R β) : (R.ok a m).bind k = k a m := rfl
@[simp] theorem R.bind_ex {α β : Type} (c : Nat) (fs : List (Str × D)) (m : Mem) (k : α → Mem → R β) : (R.ex c fs m : R α).bind k = .ex c fs m := rfl
@[simp] theorem R.bind_no {α β : Type} (k : α → Mem → R β) : (R.no : R α).bind k = .no := rfl
/-- the world of addresses: the cells', and hidden ones -/
structure Wd where
  as : List Addr
  hd : List Addr
/-- the context: the written part, the classes -/
structure Gx where
  K : PySem.W.Frag
  cl : Nat → Addr
section
variable (G : Gx) (W : Wd) (H : Hp)
def InK (a : Addr) (us : List V) : Prop := ∃ (o : Obj) (its : Array Value) (n : Nat), G.K.lookup a = some o ∧ o.cls = .type "list" ∧ o.dict = none ∧ o.data = .seq its n ∧ its.size ≤ sizeLine ∧ Vals us its.toList
def LstAt (a : Addr) (us : List V) : Prop := H a = some (.lst us) ∧ a ∉ W.as ∧ a ∉ W.hd
def FzAt (a : Addr) (us : List V) : Prop := (∃ o, H a = some (.frz o (.lst us))) ∨ InK G a us
/-- a tuple of which is known that it has no dict of its own -/
def CtAt (a : Addr) (us : List V) : Prop := ∃ o, H a = some (.frz o (.tup us)) ∧ o.dict = none
/-- a tuple of the heap (so it may be a key); an empty one may be written -/
def TupAt (a : Addr) (l : List D) (us : List V) : Prop := H a = some (.tup us) ∨ (l = [] ∧ SqT G.K H a us)
mutual
def Rp : D → V → Prop
  | .non, u => u = .non
  | .bl b, u => u = .bl b
  | .int i, u => u = .int i
  | .str x, u => u = .str (l2s x)
  | .tup l, u => ∃ a us, u = .ref a ∧ TupAt G H a l us ∧ RpL l us
  | .lst l, u => ∃ a us, u = .ref a ∧ LstAt W H a us ∧ RpL l us
  | .fz l, u => ∃ a us, u = .ref a ∧ FzAt G H a us ∧ RpL l us
  | .ref i, u => ∃ a, W.as[i]? = some a ∧ u = .ref a
  | .ct l, u => ∃ a us, u = .ref a ∧ CtAt H a us ∧ RpL l us
def RpL : List D → List V → Prop
  | [], us => us = []
  | d :: r, us => ∃ u us', us = u :: us' ∧ Rp d u ∧ RpL r us'
end
theorem CtAt.sq {K : PySem.W.Frag} {H : Hp} {a : Addr} {us : List V} (h : CtAt H a us) : SqT K H a us := by
  obtain ⟨o, h, _⟩ := h
  exact .inl (.inr ⟨o, h⟩)
theorem TupAt.sq {G : Gx} {H : Hp} {a : Addr} {l : List D} {us : List V} (h : TupAt G H a l us) : SqT G.K H a us := by
  rcases h with h | h
  · exact .inl (.inl h)
  · exact h.2
def RpK {κ κ' : Type} (f : κ → κ') : List (κ × D) → List (κ' × V) → Prop := Paired fun p q => f p.1 = q.1 ∧ Rp G W H p.2 q.2
def CellOk (a : Addr) : Cell → Prop
  | .lst l => ∃ us, H a = some (.lst us) ∧ RpL G W H l us
  | .dk lk kvs => ∃ vs, (if lk = true then ∃ o, H a = some (.frz o (.dK vs)) else H a = some (.dK vs)) ∧ RpK G W H kk kvs vs
  | .dt lk kvs => ∃ vs, (if lk = true then ∃ o, H a = some (.frz o (.dT vs)) else H a = some (.dT vs)) ∧ RpK G W H (List.map kk) kvs vs
  | .ins c fs => ∃ dx vs, H a = some (.ins (G.cl c) dx vs) ∧ RpK G W H id fs vs
structure MemOk (M : Mem) : Prop where
  len : W.as.length = M.length
  nd : W.as.Nodup
  cell : ∀ (i : Nat) c a, M[i]? = some c → W.as[i]? = some a → CellOk G W H a c
  apart : ∀ a ∈ W.as, a ∉ W.hd
  hid : ∀ a ∈ W.hd, ∃ o, H a = some o
def EnvOk (env : Env) (σ : L2.St) : Prop := env.length = σ.length ∧ ∀ (i : Nat) d, env[i]? = some (some d) → ∃ u, σ[i]? = some (some u) ∧ Rp G W H d u
end
/-- the heap goes on -/
structure Fut (W : Wd) (H : Hp) (W' : Wd) (H' : Hp) : Prop where
  ext : ∃ new, W'.as = W.as ++ new ∧ ∀ a ∈ new, H a = none ∧ a ∉ W.as
  hd : W'.hd = W.hd
  keep : ∀ a o, H a = some o → a ∉ W.as → H' a = some o
  lk : ∀ a od u, H a = some (.frz od u) → H' a = some (.frz od u)
theorem Fut.rfl' {W : Wd} {H : Hp} : Fut W H W H := ⟨⟨[], by simp, by simp⟩, rfl, fun _ _ e _ => e, fun _ _ _ e => e⟩
theorem Fut.nin {W W1 : Wd} {H H1 : Hp} (a : Fut W H W1 H1) {x : Addr} {o : HO} (e : H x = some o) (hx : x ∉ W.as) : x ∉ W1.as := by
  obtain ⟨n1, e1, f1⟩ := a.ext
  rw [e1]
  intro z
  rcases List.mem_append.mp z with z | z
  · exact hx z
  · rw [(f1 x z).1] at e; cases e
theorem Fut.nhd {W W1 : Wd} {H H1 : Hp} (a : Fut W H W1 H1) {x : Addr} {o : HO} (e : H x = some o) (hx : x ∉ W.hd) : x ∉ W1.hd := by rw [a.hd]; exact hx
theorem Fut.old {W W1 : Wd} {H H1 : Hp} (a : Fut W H W1 H1) {x : Addr} (h1 : H1 x = none) (hx : x ∉ W.as) : H x = none := by
  cases q : H x with
  | none => rfl
  | some o =>
    have := a.keep x o q hx
    rw [h1] at this; cases this
theorem Fut.sub {W W1 : Wd} {H H1 : Hp} (a : Fut W H W1 H1) {x : Addr} (hx : x ∉ W1.as) : x ∉ W.as := fun zz => by
  obtain ⟨n1, e1, f1⟩ := a.ext
  exact hx (by rw [e1]; exact List.mem_append_left _ zz)
theorem Fut.trans {W W1 W2 : Wd} {H H1 H2 : Hp} (a : Fut W H W1 H1) (b : Fut W1 H1 W2 H2) : Fut W H W2 H2 := by
  obtain ⟨n1, e1, f1⟩ := a.ext
  obtain ⟨n2, e2, f2⟩ := b.ext
  refine ⟨⟨n1 ++ n2, by rw [e2, e1, List.append_assoc], fun x hx => ?_⟩, b.hd.trans a.hd, fun x o e hx => b.keep x o (a.keep x o e hx) (a.nin e hx), fun x od u e => b.lk x od u (a.lk x od u e)⟩
  · rcases List.mem_append.mp hx with z | z
    · exact f1 x z
    · have n1' := a.sub (f2 x z).2
      exact ⟨a.old (f2 x z).1 n1', n1'⟩
theorem Fut.get {W W1 : Wd} {H H1 : Hp} (a : Fut W H W1 H1) {i : Nat} {x : Addr} (h : W.as[i]? = some x) : W1.as[i]? = some x := by
  obtain ⟨n1, e1, _⟩ := a.ext
  rw [e1]
  rw [List.getElem?_append_left]
  · exact h
  · have := List.getElem?_eq_some_iff.mp h
    exact this.1
theorem LstAt.fut {W W' : Wd} {H H' : Hp} (f : Fut W H W' H') {a : Addr} {us : List V} (h : LstAt W H a us) : LstAt W' H' a us :=
  ⟨f.keep _ _ h.1 h.2.1, f.nin h.1 h.2.1, f.nhd h.1 h.2.2⟩
/-- what is a tuple, or a frozen list -/
def Still (o : HO) : Prop := match o with
  | .tup _ => True
  | .frz _ (.tup _) => True
  | .frz _ (.lst _) => True
  | _ => False
/-- no cell is a tuple -/
theorem MemOk.nt {G : Gx} {W : Wd} {H : Hp} {M : Mem} (m : MemOk G W H M) : ∀ a o, H a = some o → Still o → a ∉ W.as := by
  intro a o h st ha
  obtain ⟨i, hi⟩ := List.getElem?_of_mem ha
  have hl : i < M.length := by
    rw [← m.len]
    exact (List.getElem?_eq_some_iff.mp hi).1
  have c := m.cell i _ a (List.getElem?_eq_getElem hl) hi
  cases e : M[i] with
  | lst l =>
    rw [e] at c
    obtain ⟨vs, q, _⟩ := c
    rw [h] at q; cases q; exact st
  | dk lk kvs =>
    rw [e] at c
    obtain ⟨vs, q, _⟩ := c
    cases lk
    · have q' : H a = some (.dK vs) := q
      rw [h] at q'; cases q'; exact st
    · obtain ⟨o', q'⟩ : ∃ o, H a = some (.frz o (.dK vs)) := q
      rw [h] at q'; cases q'; exact st
  | dt lk kvs =>
    rw [e] at c
    obtain ⟨vs, q, _⟩ := c
    cases lk
    · have q' : H a = some (.dT vs) := q
      rw [h] at q'; cases q'; exact st
    · obtain ⟨o', q'⟩ : ∃ o, H a = some (.frz o (.dT vs)) := q
      rw [h] at q'; cases q'; exact st
  | ins c0 fs =>
    rw [e] at c
    obtain ⟨dx, vs, q, _⟩ := c
    rw [h] at q; cases q; exact st
/-- what makes a value's form stay -/
structure Kp (W : Wd) (H : Hp) (W' : Wd) (H' : Hp) : Prop where
  get : ∀ (i : Nat) a, W.as[i]? = some a → W'.as[i]? = some a
  keep : ∀ a o, H a = some o → a ∉ W.as → a ∉ W.hd → H' a = some o
  still : ∀ a o, H a = some o → Still o → H' a = some o
  out : ∀ a o, H a = some o → a ∉ W.as → a ∉ W.hd → a ∉ W'.as ∧ a ∉ W'.hd
theorem Kp.trans {W W1 W2 : Wd} {H H1 H2 : Hp} (a : Kp W H W1 H1) (b : Kp W1 H1 W2 H2) : Kp W H W2 H2 :=
  ⟨fun i x h => b.get i x (a.get i x h), fun x o e h1 h2 => b.keep x o (a.keep x o e h1 h2) (a.out x o e h1 h2).1 (a.out x o e h1 h2).2, fun x o e st => b.still x o (a.still x o e st) st,
   fun x o e h1 h2 => b.out x o (a.keep x o e h1 h2) (a.out x o e h1 h2).1 (a.out x o e h1 h2).2⟩
theorem Fut.kp {G : Gx} {W W' : Wd} {H H' : Hp} {M : Mem} (f : Fut W H W' H') (m : MemOk G W H M) : Kp W H W' H' :=
  ⟨fun _ _ h => f.get h, fun a o e h1 _ => f.keep a o e h1, fun a o e st => f.keep a o e (m.nt a o e st), fun a o e h1 h2 => ⟨f.nin e h1, f.nhd e h2⟩⟩
mutual
theorem Rp.kp {G : Gx} {W W' : Wd} {H H' : Hp} (k : Kp W H W' H') : ∀ (d : D) (u : V), Rp G W H d u → Rp G W' H' d u
  | .non, u, h => h
  | .bl b, u, h => h
  | .int i, u, h => h
  | .str x, u, h => h
  | .tup l, u, h => by
    obtain ⟨a, us, e, s, r⟩ := h
    refine ⟨a, us, e, ?_, RpL.kp k l us r⟩
    rcases s with s | ⟨h, (s | ⟨o, s⟩) | s⟩
    · exact .inl (k.still _ _ s trivial)
    · exact .inr ⟨h, .inl (.inl (k.still _ _ s trivial))⟩
    · exact .inr ⟨h, .inl (.inr ⟨o, k.still _ _ s trivial⟩)⟩
    · exact .inr ⟨h, .inr s⟩
  | .lst l, u, h => by
    obtain ⟨a, us, e, s, r⟩ := h
    exact ⟨a, us, e, ⟨k.keep _ _ s.1 s.2.1 s.2.2, k.out _ _ s.1 s.2.1 s.2.2⟩, RpL.kp k l us r⟩
  | .fz l, u, h => by
    obtain ⟨a, us, e, s, r⟩ := h
    refine ⟨a, us, e, ?_, RpL.kp k l us r⟩
    rcases s with ⟨o, s⟩ | s
    · exact .inl ⟨o, k.still _ _ s trivial⟩
    · exact .inr s
  | .ref i, u, h => by
    obtain ⟨a, e, r⟩ := h
    exact ⟨a, k.get _ _ e, r⟩
  | .ct l, u, h => by
    obtain ⟨a, us, e, ⟨o, s, z⟩, r⟩ := h
    exact ⟨a, us, e, ⟨o, k.still _ _ s trivial, z⟩, RpL.kp k l us r⟩
theorem RpL.kp {G : Gx} {W W' : Wd} {H H' : Hp} (k : Kp W H W' H') : ∀ (l : List D) (us : List V), RpL G W H l us → RpL G W' H' l us
  | [], us, h => h
  | d :: r, us, h => by
    obtain ⟨u, us', e, h1, h2⟩ := h
    exact ⟨u, us', e, Rp.kp k d u h1, RpL.kp k r us' h2⟩
end
theorem MemOk.rp {G : Gx} {W W' : Wd} {H H' : Hp} {M : Mem} (m : MemOk G W H M) (f : Fut W H W' H') {d : D} {u : V} (h : Rp G W H d u) : Rp G W' H' d u := Rp.kp (f.kp m) d u h
theorem MemOk.rpL {G : Gx} {W W' : Wd} {H H' : Hp} {M : Mem} (m : MemOk G W H M) (f : Fut W H W' H') {d : List D} {u : List V} (h : RpL G W H d u) : RpL G W' H' d u := RpL.kp (f.kp m) d u h
theorem EnvOk.fut {G : Gx} {W W' : Wd} {H H' : Hp} {M : Mem} {env : Env} {σ : L2.St} (h : EnvOk G W H env σ) (m : MemOk G W H M) (f : Fut W H W' H') : EnvOk G W' H' env σ :=
  ⟨h.1, fun i d e => let ⟨u, h1, h2⟩ := h.2 i d e; ⟨u, h1, m.rp f h2⟩⟩
theorem EnvOk.kp {G : Gx} {W W' : Wd} {H H' : Hp} {env : Env} {σ : L2.St} (h : EnvOk G W H env σ) (k : Kp W H W' H') : EnvOk G W' H' env σ :=
  ⟨h.1, fun i d e => let ⟨u, h1, h2⟩ := h.2 i d e; ⟨u, h1, Rp.kp k _ _ h2⟩⟩
def XOk (G : Gx) (W : Wd) (H : Hp) (d : Addr) (fs : List (Str × D)) : Prop := ∃ vs, H d = some (.xd vs) ∧ RpK G W H id fs vs
def PX (G : Gx) (W : Wd) (H : Hp) (E : XK) (c : Nat) (fs : List (Str × D)) (m : Mem) : Prop := ∀ W' d H', Fut W H W' H' → MemOk G W' H' m → XOk G W' H' d fs → E (.ref (G.cl c)) (some d) H'
def PR {α : Type} (G : Gx) (W : Wd) (H : Hp) (K : α → Mem → Wd → Hp → Prop) (E : XK) : R α → Prop
  | .ok a m => ∀ W' H', Fut W H W' H' → MemOk G W' H' m → K a m W' H'
  | .ex c fs m => PX G W H E c fs m
  | .no => False
theorem PX.fut {G : Gx} {W W' : Wd} {H H' : Hp} {E : XK} {c : Nat} {fs : List (Str × D)} {m : Mem} (f : Fut W H W' H') (h : PX G W H E c fs m) : PX G W' H' E c fs m := fun W2 d H2 f2 => h W2 d H2 (f.trans f2)
theorem PR.fut {α : Type} {G : Gx} {W W' : Wd} {H H' : Hp} {K : α → Mem → Wd → Hp → Prop} {E : XK} (f : Fut W H W' H') : ∀ {r : R α}, PR G W H K E r → PR G W' H' K E r
  | .ok a m, h => fun W2 H2 f2 => h W2 H2 (f.trans f2)
  | .ex c fs m, h => PX.fut f h
  | .no, h => h
theorem PR.mono {α : Type} {G : Gx} {W : Wd} {H : Hp} {K K' : α → Mem → Wd → Hp → Prop} {E : XK} : ∀ {r : R α}, PR G W H K E r → (∀ a m W' H', Fut W H W' H' → MemOk G W' H' m → K a m W' H' → K' a m W' H') → PR G W H K' E r
  | .ok a m, h, k => fun W2 H2 f2 m2 => k a m W2 H2 f2 m2 (h W2 H2 f2 m2)
  | .ex c fs m, h, _ => h
  | .no, h, _ => h
/-- one thing behind another -/
theorem PR.bind {α β : Type} {G : Gx} {W : Wd} {H : Hp} {K : β → Mem → Wd → Hp → Prop} {K1 : α → Mem → Wd → Hp → Prop} {E : XK} {k : α → Mem → R β} : ∀ {r : R α}, PR G W H K E (r.bind k) →
    (∀ a m W1 H1, Fut W H W1 H1 → MemOk G W1 H1 m → PR G W1 H1 K E (k a m) → K1 a m W1 H1) → PR G W H K1 E r
  | .ok a m, h, hk => fun W2 H2 f2 m2 => hk a m W2 H2 f2 m2 (PR.fut f2 (show PR G W H K E (k a m) from h))
  | .ex c fs m, h, _ => h
  | .no, h, _ => h
/-- a value comes -/
def PV (G : Gx) (Q : VK) : D → Mem → Wd → Hp → Prop := fun d _ W' H' => ∀ u, Rp G W' H' d u → Q u H'
def PVs (G : Gx) (Q : List V → Hp → Prop) : List D → Mem → Wd → Hp → Prop := fun d _ W' H' => ∀ u, RpL G W' H' d u → Q u H'
def PB (G : Gx) (Q : Bool → Hp → Prop) : Bool → Mem → Wd → Hp → Prop := fun b _ _ H' => Q b H'
abbrev FE := Env → Mem → R D
abbrev FT := Env → Mem → R Bool
abbrev FA := Env → Mem → R (List D)
structure Sta (G : Gx) (W : Wd) (env : Env) (M : Mem) (σ : L2.St) (H : Hp) : Prop where
  mem : MemOk G W H M
  env : EnvOk G W H env σ
theorem Sta.fut {G : Gx} {W W' : Wd} {H H' : Hp} {M M' : Mem} {env : Env} {σ : L2.St} (h : Sta G W env M σ H) (f : Fut W H W' H') (m : MemOk G W' H' M') : Sta G W' env M' σ H' := ⟨m, h.env.fut h.mem f⟩
def tE (G : Gx) (E : XK) (f : FE) : TE := fun σ H Q => ∃ W env M, Sta G W env M σ H ∧ PR G W H (PV G Q) E (f env M)
def tT (G : Gx) (E : XK) (f : FT) : TT := fun σ H Q => ∃ W env M, Sta G W env M σ H ∧ PR G W H (PB G Q) E (f env M)
def tA (G : Gx) (E : XK) (f : FA) : TA := fun σ H Q => ∃ W env M, Sta G W env M σ H ∧ PR G W H (PVs G Q) E (f env M)
theorem pe_imp {X : Cx} {e : Expr} {t t' : TE} (h : PE X e t) (i : ∀ σ H Q, t' σ H Q → t σ H Q) : PE X e t' := ⟨fun pins s σ H Q I q => h.run pins s σ H Q I (i σ H Q q)⟩
theorem pt_imp {X : Cx} {e : Expr} {t t' : TT} (h : PT X e t) (i : ∀ σ H Q, t' σ H Q → t σ H Q) : PT X e t' := ⟨fun pins s σ H Q I q => h.run pins s σ H Q I (i σ H Q q)⟩
theorem pw_imp {X : Cx} {e : Expr} {t t' : TT} (h : PW X e t) (i : ∀ σ H Q, t' σ H Q → t σ H Q) : PW X e t' := ⟨fun wh pins s σ H Q I q => h.run wh pins s σ H Q I (i σ H Q q)⟩
theorem pa_imp {X : Cx} {e : List Expr} {t t' : TA} (h : PA X e t) (i : ∀ σ H Q, t' σ H Q → t σ H Q) : PA X e t' := ⟨fun pos pins s σ H Q I q => h.run pos pins s σ H Q I (i σ H Q q)⟩
theorem ps_imp {X : Cx} {e : Stmt} {t t' : TS} (h : PS X e t) (i : ∀ D σ H, t' D σ H → t D σ H) : PS X e t' := ⟨fun pins s σ H D I q => h.run pins s σ H D I (i D σ H q)⟩
theorem pss_imp {X : Cx} {e : List Stmt} {t t' : TS} (h : PSs X e t) (i : ∀ D σ H, t' D σ H → t D σ H) : PSs X e t' := ⟨fun pins s σ H D I q => h.run pins s σ H D I (i D σ H q)⟩
section
variable {X : Cx} {G : Gx} {E : XK}
/-- pass a part on -/
theorem tE.bind {f : FE} {α : Type} {k : D → Mem → R α} {W : Wd} {env : Env} {M : Mem} {σ : L2.St} {H : Hp} {K : α → Mem → Wd → Hp → Prop} {Q : VK} (s : Sta G W env M σ H) (h : PR G W H K E ((f env M).bind k))
    (hk : ∀ d m W1 H1 u, Fut W H W1 H1 → Sta G W1 env m σ H1 → Rp G W1 H1 d u → PR G W1 H1 K E (k d m) → Q u H1) : tE G E f σ H Q :=
  ⟨W, env, M, s, PR.bind h fun d m W1 H1 f1 m1 q => fun u r => hk d m W1 H1 u f1 (s.fut f1 m1) r q⟩
theorem tT.bind {f : FT} {α : Type} {k : Bool → Mem → R α} {W : Wd} {env : Env} {M : Mem} {σ : L2.St} {H : Hp} {K : α → Mem → Wd → Hp → Prop} {Q : Bool → Hp → Prop} (s : Sta G W env M σ H) (h : PR G W H K E ((f env M).bind k))
    (hk : ∀ d m W1 H1, Fut W H W1 H1 → Sta G W1 env m σ H1 → PR G W1 H1 K E (k d m) → Q d H1) : tT G E f σ H Q :=
  ⟨W, env, M, s, PR.bind h fun d m W1 H1 f1 m1 q => hk d m W1 H1 f1 (s.fut f1 m1) q⟩
theorem tA.bind {f : FA} {α : Type} {k : List D → Mem → R α} {W : Wd} {env : Env} {M : Mem} {σ : L2.St} {H : Hp} {K : α → Mem → Wd → Hp → Prop} {Q : List V → Hp → Prop} (s : Sta G W env M σ H) (h : PR G W H K E ((f env M).bind k))
    (hk : ∀ d m W1 H1 u, Fut W H W1 H1 → Sta G W1 env m σ H1 → RpL G W1 H1 d u → PR G W1 H1 K E (k d m) → Q u H1) : tA G E f σ H Q :=
  ⟨W, env, M, s, PR.bind h fun d m W1 H1 f1 m1 q => fun u r => hk d m W1 H1 u f1 (s.fut f1 m1) r q⟩
def mVar (i : Nat) : FE := fun env M => match env[i]? with
  | some (some d) => .ok d M
  | _ => .no
def mC (d : D) : FE := fun _ M => .ok d M
theorem sn_var {i : Nat} {x : Str} {pos : Pos} (h : PE X (.Name x pos) (tVar i)) : PE X (.Name x pos) (tE G E (mVar i)) := pe_imp h fun σ H Q ⟨W, env, M, s, p⟩ => by
  unfold mVar at p
  split at p
  · rename_i d e
    obtain ⟨u, h1, h2⟩ := s.env.2 i d e
    exact ⟨u, h1, p W H Fut.rfl' s.mem u h2⟩
  · exact p.elim
theorem sn_int {i j pos} : PE X (.Constant (.int i) j pos) (tE G E (mC (.int i))) := pe_imp pe_int fun σ H Q ⟨W, env, M, s, p⟩ => p W H Fut.rfl' s.mem _ rfl
theorem sn_bl {b j pos} : PE X (.Constant (.bool b) j pos) (tE G E (mC (.bl b))) := pe_imp pe_bl fun σ H Q ⟨W, env, M, s, p⟩ => p W H Fut.rfl' s.mem _ rfl
theorem sn_non {j pos} : PE X (.Constant .none j pos) (tE G E (mC .non)) := pe_imp pe_non fun σ H Q ⟨W, env, M, s, p⟩ => p W H Fut.rfl' s.mem _ rfl
theorem sn_str {x : Str} {j pos} : PE X (.Constant (.str x) j pos) (tE G E (mC (.str (s2l x)))) := pe_imp pe_str fun σ H Q ⟨W, env, M, s, p⟩ => p W H Fut.rfl' s.mem _ (by show V.str x = .str (l2s (s2l x)); rw [l2s_s2l])
end
end Fn
set_option Elab.async false
set_option linter.all false
set_option maxRecDepth 100000
set_option maxHeartbeats 1000000
namespace Fn
open PySem PySem.Spec PyProof.Rows L2
theorem line_eq : (sizeLine : Nat) = 16777216 := sizeLine_eq
theorem l2s_len (l : List Nat) : (l2s l).length = l.length := by simp [l2s, Str.length]
theorem l2s_toList (l : List Nat) : (l2s l).cps.toList = l := s2l_l2s l
theorem l2s_append (a b : List Nat) : l2s a ++ l2s b = l2s (a ++ b) := by
  show (⟨(l2s a).cps ++ (l2s b).cps⟩ : Str) = _
  simp [l2s]
section
variable {X : Cx} {cl : Nat → Addr} {E : XK} {G : Gx} {W W' : Wd} {H H' : Hp} {M : Mem} {Q : VK}
theorem CellOk.there {a : Addr} {c : Cell} (h : CellOk G W H a c) : ∃ o, H a = some o ∧ ¬ Still o := by
  cases c with
  | lst l => obtain ⟨vs, q, _⟩ := h; exact ⟨_, q, fun z => z⟩
  | dk lk kvs =>
    obtain ⟨vs, q, _⟩ := h
    cases lk
    · exact ⟨_, (show H a = some (.dK vs) from q), fun z => z⟩
    · obtain ⟨o', q'⟩ : ∃ o, H a = some (.frz o (.dK vs)) := q
      exact ⟨_, q', fun z => z⟩
  | dt lk kvs =>
    obtain ⟨vs, q, _⟩ := h
    cases lk
    · exact ⟨_, (show H a = some (.dT vs) from q), fun z => z⟩
    · obtain ⟨o', q'⟩ : ∃ o, H a = some (.frz o (.dT vs)) := q
      exact ⟨_, q', fun z => z⟩
  | ins c0 fs => obtain ⟨dx, vs, q, _⟩ := h; exact ⟨_, q, fun z => z⟩
theorem MemOk.at (m : MemOk G W H M) {a : Addr} (ha : a ∈ W.as) : ∃ (i : Nat) (c : Cell), W.as[i]? = some a ∧ M[i]? = some c ∧ CellOk G W H a c := by
  obtain ⟨i, hi⟩ := List.getElem?_of_mem ha
  have hl : i < M.length := by
    rw [← m.len]
    exact (List.getElem?_eq_some_iff.mp hi).1
  exact ⟨i, _, hi, List.getElem?_eq_getElem hl, m.cell i _ a (List.getElem?_eq_getElem hl) hi⟩
theorem MemOk.fresh (m : MemOk G W H M) {p : Addr} (hp : H p = none) : p ∉ W.as ∧ p ∉ W.hd := by
  constructor
  · intro z
    obtain ⟨i, c, _, _, k⟩ := m.at z
    obtain ⟨o, ho, _⟩ := k.there
    rw [hp] at ho; cases ho
  · intro z
    obtain ⟨o, ho⟩ := m.hid p z
    rw [hp] at ho; cases ho
theorem Paired.imp {α β : Type} {F F' : α → β → Prop} (h : ∀ a b, F a b → F' a b) : ∀ {l : List α} {l' : List β}, Paired F l l' → Paired F' l l'
  | _, _, .nil => .nil
  | _, _, .cons a b => .cons (h _ _ a) (Paired.imp h b)
theorem RpK.fut {κ κ' : Type} {f : κ → κ'} (m : MemOk G W H M) (fu : Fut W H W' H') {l : List (κ × D)} {vs : List (κ' × V)} (h : RpK G W H f l vs) : RpK G W' H' f l vs := Paired.imp (fun _ _ z => ⟨z.1, m.rp fu z.2⟩) h
theorem CellOk.fut (m : MemOk G W H M) (fu : Fut W H W' H') {a : Addr} {c : Cell} (e : H' a = H a) (h : CellOk G W H a c) : CellOk G W' H' a c := by
  cases c with
  | lst l => obtain ⟨vs, q, r⟩ := h; exact ⟨vs, by rw [e]; exact q, m.rpL fu r⟩
  | dk lk kvs => obtain ⟨vs, q, r⟩ := h; exact ⟨vs, by rw [e]; exact q, r.fut m fu⟩
  | dt lk kvs => obtain ⟨vs, q, r⟩ := h; exact ⟨vs, by rw [e]; exact q, r.fut m fu⟩
  | ins c0 fs => obtain ⟨dx, vs, q, r⟩ := h; exact ⟨dx, vs, by rw [e]; exact q, r.fut m fu⟩
/-- a new object beside -/
theorem Fut.laid {p : Addr} {o : HO} (hp : H p = none) : Fut W H W (upd H p o) := ⟨⟨[], by simp, by simp⟩, rfl, fun a u e _ => by rw [upd_ne (ne_of_none e hp)]; exact e, fun a od u e => by rw [upd_ne (ne_of_none e hp)]; exact e⟩
theorem MemOk.laid (m : MemOk G W H M) {p : Addr} {o : HO} (hp : H p = none) : MemOk G W (upd H p o) M :=
  ⟨m.len, m.nd, fun i c a e1 e2 => by
    have k := m.cell i c a e1 e2
    obtain ⟨u, hu, _⟩ := k.there
    exact k.fut m (Fut.laid hp) (upd_ne (ne_of_none hu hp)), m.apart, fun a ha => by
    obtain ⟨u, hu⟩ := m.hid a ha
    exact ⟨u, by rw [upd_ne (ne_of_none hu hp)]; exact hu⟩⟩
/-- a new cell -/
theorem Fut.added {p : Addr} {o : HO} (m : MemOk G W H M) (hp : H p = none) : Fut W H ⟨W.as ++ [p], W.hd⟩ (upd H p o) :=
  ⟨⟨[p], rfl, fun a ha => by rw [List.mem_singleton] at ha; subst ha; exact ⟨hp, (m.fresh hp).1⟩⟩, rfl, fun a u e _ => by rw [upd_ne (ne_of_none e hp)]; exact e, fun a od u e => by rw [upd_ne (ne_of_none e hp)]; exact e⟩
theorem MemOk.added (m : MemOk G W H M) {p : Addr} {o : HO} (hp : H p = none) {c : Cell} (hc : CellOk G ⟨W.as ++ [p], W.hd⟩ (upd H p o) p c) : MemOk G ⟨W.as ++ [p], W.hd⟩ (upd H p o) (M ++ [c]) where
  len := by simp [m.len]
  nd := by
    rw [List.nodup_append]
    refine ⟨m.nd, by simp, fun a ha b hb => ?_⟩
    rw [List.mem_singleton] at hb; subst hb
    intro z; subst z
    exact (m.fresh hp).1 ha
  cell := fun i c' a e1 e2 => by
    by_cases hi : i < M.length
    · rw [List.getElem?_append_left hi] at e1
      have hi2 : i < W.as.length := by rw [m.len]; exact hi
      rw [show (⟨W.as ++ [p], W.hd⟩ : Wd).as = W.as ++ [p] from rfl, List.getElem?_append_left hi2] at e2
      have k := m.cell i c' a e1 e2
      obtain ⟨u, hu, _⟩ := k.there
      exact k.fut m (Fut.added m hp) (upd_ne (ne_of_none hu hp))
    · have hi2 : ¬ i < W.as.length := by rw [m.len]; exact hi
      rw [List.getElem?_append_right (by omega)] at e1
      rw [show (⟨W.as ++ [p], W.hd⟩ : Wd).as = W.as ++ [p] from rfl, List.getElem?_append_right (by omega)] at e2
      have e3 : i - M.length = 0 := by
        have := (List.getElem?_eq_some_iff.mp e1).1
        simp at this; omega
      rw [e3] at e1
      rw [show i - W.as.length = 0 by rw [m.len]; exact e3] at e2
      simp at e1 e2
      subst e1 e2
      exact hc
  apart := fun a ha => by
    rcases List.mem_append.mp ha with z | z
    · exact m.apart a z
    · rw [List.mem_singleton] at z; subst z
      exact (m.fresh hp).2
  hid := fun a ha => by
    obtain ⟨u, hu⟩ := m.hid a ha
    exact ⟨u, by rw [upd_ne (ne_of_none hu hp)]; exact hu⟩
/-- a cell is written -/
def Nf : HO → Prop
  | .frz _ _ => False
  | _ => True
theorem Fut.wrote {i : Nat} {a : Addr} {o o' : HO} (hi : W.as[i]? = some a) (ha : H a = some o') (hn : Nf o') : Fut W H W (upd H a o) :=
  ⟨⟨[], by simp, by simp⟩, rfl, fun b u e hb => by rw [upd_ne (fun z => hb (by rw [z]; exact List.mem_of_getElem? hi))]; exact e, fun b od u e => by
    rw [upd_ne (fun z => by rw [z, ha] at e; cases e; exact hn)]; exact e⟩
theorem Kp.wrote (m : MemOk G W H M) {i : Nat} {a : Addr} {o : HO} (hi : W.as[i]? = some a) : Kp W H W (upd H a o) :=
  ⟨fun _ _ h => h, fun b u e hb _ => by rw [upd_ne (fun z => hb (by rw [z]; exact List.mem_of_getElem? hi))]; exact e, fun b u e st => by
    rw [upd_ne (fun z => m.nt _ _ e st (by rw [z]; exact List.mem_of_getElem? hi))]; exact e, fun _ _ _ h1 h2 => ⟨h1, h2⟩⟩
theorem CellOk.kp' {W' : Wd} {H' : Hp} (k : Kp W H W' H') {a : Addr} {c : Cell} (e : H' a = H a) (h : CellOk G W H a c) : CellOk G W' H' a c := by
  have rk : ∀ {κ κ' : Type} {f : κ → κ'} {kvs : List (κ × D)} {vs : List (κ' × V)}, RpK G W H f kvs vs → RpK G W' H' f kvs vs := fun r => Paired.mapP r fun _ _ z => ⟨z.1, Rp.kp k _ _ z.2⟩
  cases c with
  | lst l => obtain ⟨us, q, r⟩ := h; exact ⟨us, by rw [e]; exact q, RpL.kp k _ _ r⟩
  | dk lk kvs => obtain ⟨vs, q, r⟩ := h; exact ⟨vs, by rw [e]; exact q, rk r⟩
  | dt lk kvs => obtain ⟨vs, q, r⟩ := h; exact ⟨vs, by rw [e]; exact q, rk r⟩
  | ins c0 fs => obtain ⟨dx, vs, q, r⟩ := h; exact ⟨dx, vs, by rw [e]; exact q, rk r⟩
theorem MemOk.wrote (m : MemOk G W H M) {i : Nat} {a : Addr} {o : HO} (hi : W.as[i]? = some a) {c : Cell} (hc : CellOk G W (upd H a o) a c) : MemOk G W (upd H a o) (M.set i c) where
  len := by simp [m.len]
  nd := m.nd
  cell := fun j c' b e1 e2 => by
    by_cases hj : i = j
    · subst hj
      rw [hi] at e2; cases e2
      rw [List.getElem?_set_self (by rw [← m.len]; exact (List.getElem?_eq_some_iff.mp hi).1)] at e1
      cases e1
      exact hc
    · rw [List.getElem?_set_ne hj] at e1
      have k := m.cell j c' b e1 e2
      refine k.kp' (Kp.wrote m hi) (upd_ne fun z => hj ?_)
      subst z
      exact (List.getElem?_inj (List.getElem?_eq_some_iff.mp hi).1 m.nd).mp (hi.trans e2.symm)
  apart := m.apart
  hid := fun b hb => by
    obtain ⟨u, hu⟩ := m.hid b hb
    refine ⟨u, ?_⟩
    rw [upd_ne fun z => ?_]
    · exact hu
    · subst z
      exact m.apart b (List.mem_of_getElem? hi) hb
/-- a new list: a cell or by value -/
def mkL (c : Bool) (ds : List D) (M : Mem) : R D := if c = true then .ok (.ref M.length) (M ++ [.lst ds]) else .ok (.lst ds) M
theorem mkL_new {c : Bool} {ds : List D} {us : List V} (m : MemOk G W H M) (h : PR G W H (PV G Q) E (mkL c ds M)) (r : RpL G W H ds us) : ∀ p, H p = none → Q (.ref p) (upd H p (.lst us)) := by
  intro p hp
  unfold mkL at h
  cases c with
  | true =>
    rw [if_pos rfl] at h
    refine h ⟨W.as ++ [p], W.hd⟩ _ (Fut.added m hp) (m.added hp ⟨us, upd_same, m.rpL (Fut.added m hp) r⟩) _ ⟨p, ?_, rfl⟩
    rw [← m.len]
    simp
  | false =>
    rw [if_neg Bool.false_ne_true] at h
    exact h W _ (Fut.laid hp) (m.laid hp) _ ⟨p, us, rfl, ⟨upd_same, m.fresh hp⟩, m.rpL (Fut.laid hp) r⟩
theorem tup_new {ds : List D} {us : List V} (m : MemOk G W H M) (h : PR G W H (PV G Q) E (.ok (.tup ds) M)) (r : RpL G W H ds us) : ∀ p, H p = none → Q (.ref p) (upd H p (.tup us)) := fun p hp =>
  h W _ (Fut.laid hp) (m.laid hp) _ ⟨p, us, rfl, .inl upd_same, m.rpL (Fut.laid hp) r⟩
theorem RpL.len : ∀ {ds : List D} {us : List V}, RpL G W H ds us → us.length = ds.length
  | [], us, h => by have : us = [] := h; subst this; rfl
  | d :: r, us, h => by
    obtain ⟨u, us', e, _, h2⟩ := h
    subst e
    simp [RpL.len h2]
/-- the items of a list (by value, frozen, a cell) -/
def lstOf (M : Mem) : D → Option (List D)
  | .lst l => some l
  | .fz l => some l
  | .ref i => match M[i]? with
    | some (.lst l) => some l
    | _ => none
  | _ => none
/-- of a list that the call itself made -/
def ownOf (M : Mem) : D → Option (List D)
  | .lst l => some l
  | .ref i => match M[i]? with
    | some (.lst l) => some l
    | _ => none
  | _ => none
theorem lstOf_ok (m : MemOk G W H M) {d : D} {u : V} {l : List D} (r : Rp G W H d u) (e : lstOf M d = some l) : ∃ a us, u = .ref a ∧ SqL G.K H a us ∧ RpL G W H l us := by
  cases d with
  | lst l' => cases e; obtain ⟨a, us, e1, e2, e3⟩ := r; exact ⟨a, us, e1, .inl (.inl e2.1), e3⟩
  | fz l' =>
    cases e; obtain ⟨a, us, e1, e2, e3⟩ := r
    refine ⟨a, us, e1, ?_, e3⟩
    rcases e2 with ⟨o, e2⟩ | e2
    · exact .inl (.inr ⟨o, e2⟩)
    · exact .inr e2
  | ref i =>
    obtain ⟨a, e1, e2⟩ := r
    simp only [lstOf] at e
    split at e
    · rename_i l' hc
      cases e
      obtain ⟨us, h1, h2⟩ := m.cell i _ a hc e1
      exact ⟨a, us, e2, .inl (.inl h1), h2⟩
    · cases e
  | _ => cases e
theorem ownOf_ok (m : MemOk G W H M) {d : D} {u : V} {l : List D} (r : Rp G W H d u) (e : ownOf M d = some l) : ∃ a us, u = .ref a ∧ H a = some (.lst us) ∧ RpL G W H l us := by
  cases d with
  | lst l' => cases e; obtain ⟨a, us, e1, e2, e3⟩ := r; exact ⟨a, us, e1, e2.1, e3⟩
  | ref i =>
    obtain ⟨a, e1, e2⟩ := r
    simp only [ownOf] at e
    split at e
    · rename_i l' hc
      cases e
      obtain ⟨us, h1, h2⟩ := m.cell i _ a hc e1
      exact ⟨a, us, e2, h1, h2⟩
    · cases e
  | _ => cases e
/-- a list's or a tuple's items -/
def seqOf (M : Mem) : D → Option (List D)
  | .tup l => some l
  | .ct l => some l
  | d => lstOf M d
theorem seqOf_ok (m : MemOk G W H M) {d : D} {u : V} {l : List D} (r : Rp G W H d u) (e : seqOf M d = some l) : ∃ a us, u = .ref a ∧ (SqL G.K H a us ∨ SqT G.K H a us) ∧ RpL G W H l us := by
  cases d with
  | tup l' => cases e; obtain ⟨a, us, e1, e2, e3⟩ := r; exact ⟨a, us, e1, .inr e2.sq, e3⟩
  | ct l' => cases e; obtain ⟨a, us, e1, e2, e3⟩ := r; exact ⟨a, us, e1, .inr e2.sq, e3⟩
  | _ => obtain ⟨a, us, e1, e2, e3⟩ := lstOf_ok m r e; exact ⟨a, us, e1, .inl e2, e3⟩
theorem RpL.get : ∀ {ds : List D} {us : List V}, RpL G W H ds us → ∀ {j : Nat} {d : D}, ds[j]? = some d → ∃ u, us[j]? = some u ∧ Rp G W H d u
  | [], us, h, j, d, e => by simp at e
  | d0 :: r, us, h, j, d, e => by
    obtain ⟨u, us', e1, h1, h2⟩ := h
    subst e1
    cases j with
    | zero => simp at e; subst e; exact ⟨u, by simp, h1⟩
    | succ j => obtain ⟨v, e2, h3⟩ := RpL.get h2 (j := j) (by simpa using e); exact ⟨v, by simpa using e2, h3⟩
theorem RpL.append : ∀ {ds ds' : List D} {us us' : List V}, RpL G W H ds us → RpL G W H ds' us' → RpL G W H (ds ++ ds') (us ++ us')
  | [], ds', us, us', h, h' => by have : us = [] := h; subst this; exact h'
  | d :: r, ds', us, us', h, h' => by
    obtain ⟨u, vs, e1, h1, h2⟩ := h
    subst e1
    exact ⟨u, vs ++ us', rfl, h1, RpL.append h2 h'⟩
theorem RpL.drop : ∀ {ds : List D} {us : List V} (n : Nat), RpL G W H ds us → RpL G W H (ds.drop n) (us.drop n)
  | ds, us, 0, h => h
  | [], us, n + 1, h => by have : us = [] := h; subst this; exact (rfl : ([] : List V) = [])
  | d :: r, us, n + 1, h => by
    obtain ⟨u, vs, e1, h1, h2⟩ := h
    subst e1
    exact RpL.drop n h2
theorem RpL.take : ∀ {ds : List D} {us : List V} (n : Nat), RpL G W H ds us → RpL G W H (ds.take n) (us.take n)
  | ds, us, 0, h => by simp; exact (rfl : ([] : List V) = [])
  | [], us, n + 1, h => by have : us = [] := h; subst this; exact (rfl : ([] : List V) = [])
  | d :: r, us, n + 1, h => by
    obtain ⟨u, vs, e1, h1, h2⟩ := h
    subst e1
    exact ⟨u, vs.take n, by simp, h1, RpL.take n h2⟩
theorem RpL.set : ∀ {ds : List D} {us : List V} {d : D} {u : V} (j : Nat), RpL G W H ds us → Rp G W H d u → RpL G W H (ds.set j d) (us.set j u)
  | [], us, d, u, j, h, r => by have : us = [] := h; subst this; exact (rfl : ([] : List V) = [])
  | d0 :: ds, us, d, u, 0, h, r => by
    obtain ⟨v, vs, e1, h1, h2⟩ := h
    subst e1
    exact ⟨u, vs, rfl, r, h2⟩
  | d0 :: ds, us, d, u, j + 1, h, r => by
    obtain ⟨v, vs, e1, h1, h2⟩ := h
    subst e1
    exact ⟨v, vs.set j u, rfl, h1, RpL.set j h2 r⟩
def Op2 (G : Gx) (E : XK) (r : R2) (o : D → D → Mem → R D) : Prop := ∀ W H M a b u v Q, MemOk G W H M → Rp G W H a u → Rp G W H b v → PR G W H (PV G Q) E (o a b M) → r u v H Q
def mOp (o : D → D → Mem → R D) (fa fb : FE) : FE := fun env M => (fa env M).bind fun a m => (fb env m).bind fun b m' => o a b m'
theorem tE_op {r : R2} {fa fb : FE} {o : D → D → Mem → R D} (hs : Op2 G E r o) (σ : L2.St) (H : Hp) (Q : VK) (h : tE G E (mOp o fa fb) σ H Q) : tOp r (tE G E fa) (tE G E fb) σ H Q := by
  obtain ⟨W, env, M, s, p⟩ := h
  refine tE.bind s p fun d m W1 H1 u f1 s1 r1 p1 => ?_
  refine tE.bind s1 p1 fun d2 m2 W2 H2 u2 f2 s2 r2 p2 => ?_
  exact hs W2 H2 m2 d d2 u u2 Q s2.mem (s1.mem.rp f2 r1) r2 p2
theorem sn_op {op : Operator} {r : R2} {a b : Expr} {fa fb : FE} {o : D → D → Mem → R D} {pos : Pos} (ho : OpR X (binaryOp op) r) (hs : Op2 G E r o) (ha : PE X a (tE G E fa)) (hb : PE X b (tE G E fb)) : PE X (.BinOp a op b pos) (tE G E (mOp o fa fb)) :=
  pe_imp (pe_op ho ha hb) (tE_op hs)
theorem sn_cmp {op : CmpOp} {r : R2} {a b : Expr} {fa fb : FE} {o : D → D → Mem → R D} {pos : Pos} (ho : OpR X (compareOp op) r) (hs : Op2 G E r o) (hm : behindInMarks op b = false) (ha : PE X a (tE G E fa)) (hb : PE X b (tE G E fb)) : PE X (.Compare a [op] [b] pos) (tE G E (mOp o fa fb)) :=
  pe_imp (pe_cmpR ho ha hb hm) (tE_op hs)
/-- two ways: the kinds tell -/
theorem Op2.or {r r' : R2} {o o1 o2 : D → D → Mem → R D} (h : Op2 G E r o1) (h' : Op2 G E r' o2) (e : ∀ a b M, o a b M = o1 a b M ∨ o a b M = o2 a b M) : Op2 G E (fun x y H Q => r x y H Q ∨ r' x y H Q) o := fun W H M a b u v Q m ra rb p => by
  rcases e a b M with z | z
  · rw [z] at p; exact .inl (h W H M a b u v Q m ra rb p)
  · rw [z] at p; exact .inr (h' W H M a b u v Q m ra rb p)
theorem PR.here {α : Type} {K : α → Mem → Wd → Hp → Prop} {a : α} (m : MemOk G W H M) (h : PR G W H K E (.ok a M)) : K a M W H := h W H Fut.rfl' m
/-- ints -/
def oI (g : Int → Int → D) : D → D → Mem → R D
  | .int i, .int j, M => .ok (g i j) M
  | _, _, _ => .no
theorem op2_I {g : Int → Int → D} {g' : Int → Int → V} (hg : ∀ W H i j, Rp G W H (g i j) (g' i j)) : Op2 G E (rI0 g') (oI g) := fun W H M a b u v Q m ra rb p => by
  cases a <;> cases b <;> first
    | exact p.elim
    | exact ⟨_, _, ra, rb, p.here m _ (hg _ _ _ _)⟩
/-- ints, under a condition -/
def oIC (C : Int → Int → Bool) (g : Int → Int → D) : D → D → Mem → R D
  | .int i, .int j, M => if C i j = true then .ok (g i j) M else .no
  | _, _, _ => .no
theorem op2_IC {C : Int → Int → Bool} {C' : Int → Int → Prop} {g : Int → Int → D} {g' : Int → Int → V} (hC : ∀ i j, C i j = true → C' i j) (hg : ∀ W H i j, Rp G W H (g i j) (g' i j)) : Op2 G E (rI C' g') (oIC C g) := fun W H M a b u v Q m ra rb p => by
  cases a <;> cases b <;> first
    | exact p.elim
    | (simp only [oIC] at p
       split at p
       · rename_i hc
         exact ⟨_, _, ra, rb, hC _ _ hc, p.here m _ (hg _ _ _ _)⟩
       · exact p.elim)
end
section
variable {X : Cx} {G : Gx} {cl : Nat → Addr} {E : XK}
/-- texts -/
def oAddS : D → D → Mem → R D
  | .str a, .str b, M => if a.length + b.length ≤ 16777216 then .ok (.str (a ++ b)) M else .no
  | _, _, _ => .no
def oAddB : D → D → Mem → R D
  | .int i, .bl k, M => .ok (.int (i + if k = true then 1 else 0)) M
  | _, _, _ => .no
def oAddT : D → D → Mem → R D
  | .tup a, .tup b, M => if a.length + b.length ≤ 16777216 then .ok (.tup (a ++ b)) M else .no
  | _, _, _ => .no
def oAddL (c : Bool) (a b : D) (M : Mem) : R D := match ownOf M a, ownOf M b with
  | some x, some y => if x.length + y.length ≤ 16777216 then mkL c (x ++ y) M else .no
  | _, _ => .no
def oAdd (c : Bool) : D → D → Mem → R D
  | .int i, .int j, M => .ok (.int (i + j)) M
  | .str a, .str b, M => oAddS (.str a) (.str b) M
  | .int i, .bl k, M => oAddB (.int i) (.bl k) M
  | .tup a, .tup b, M => oAddT (.tup a) (.tup b) M
  | a, b, M => oAddL c a b M
theorem op2_addS : Op2 G E (fun x y H Q => ∃ i j, x = .str i ∧ y = .str j ∧ i.length + j.length ≤ sizeLine ∧ Q (.str (i ++ j)) H) oAddS := fun W H M a b u v Q m ra rb p => by
  cases a <;> cases b <;> first
    | exact p.elim
    | (simp only [oAddS] at p
       split at p
       · rename_i hc
         refine ⟨_, _, ra, rb, by rw [l2s_len, l2s_len, line_eq]; exact hc, p.here m _ ?_⟩
         show V.str _ = V.str _
         rw [l2s_append]
       · exact p.elim)
theorem op2_addB : Op2 G E (fun x y H Q => ∃ i k, x = .int i ∧ y = .bl k ∧ Q (.int (i + b2i k)) H) oAddB := fun W H M a b u v Q m ra rb p => by
  cases a <;> cases b <;> first
    | exact p.elim
    | (refine ⟨_, _, ra, rb, p.here m _ ?_⟩
       rename_i k
       cases k <;> rfl)
theorem op2_addT : Op2 G E (rCatA G.K) oAddT := fun W H M a b u v Q m ra rb p => by
  cases a <;> cases b <;> first
    | exact p.elim
    | (simp only [oAddT] at p
       split at p
       · rename_i xs ys hc
         obtain ⟨a1, us, e1, s1, r1⟩ := ra
         obtain ⟨a2, vs, e2, s2, r2⟩ := rb
         subst e1 e2
         refine ⟨a1, a2, us, vs, rfl, rfl, s1.sq, s2.sq, by rw [r1.len, r2.len, line_eq]; exact hc, fun z => ?_, fun _ z => ?_, fun _ _ => tup_new m p (r1.append r2)⟩
         · have e3 : xs = [] := by
             have := r1.len
             rw [z] at this
             exact List.length_eq_zero_iff.mp this.symm
           subst e3
           exact p.here m _ ⟨a2, vs, rfl, s2, r2⟩
         · have e3 : ys = [] := by
             have := r2.len
             rw [z] at this
             exact List.length_eq_zero_iff.mp this.symm
           subst e3
           rw [List.append_nil] at p
           exact p.here m _ ⟨a1, us, rfl, s1, r1⟩
       · exact p.elim)
theorem op2_addL {c : Bool} : Op2 G E rCat (oAddL c) := fun W H M a b u v Q m ra rb p => by
  unfold oAddL at p
  split at p
  · rename_i x y e1 e2
    split at p
    · rename_i hc
      obtain ⟨a1, us, h1, h2, h3⟩ := ownOf_ok m ra e1
      obtain ⟨a2, vs, h4, h5, h6⟩ := ownOf_ok m rb e2
      exact ⟨a1, a2, us, vs, h1, h4, h2, h5, by rw [h3.len, h6.len, line_eq]; exact hc, mkL_new m p (h3.append h6)⟩
    · exact p.elim
  · exact p.elim
theorem sn_add (c : Bool) {a b : Expr} {fa fb : FE} {pos : Pos} (ha : PE X a (tE ⟨X.K, cl⟩ E fa)) (hb : PE X b (tE ⟨X.K, cl⟩ E fb)) : PE X (.BinOp a .Add b pos) (tE ⟨X.K, cl⟩ E (mOp (oAdd c) fa fb)) := by
  refine sn_op (op_add.or (op_add_str.or (op_add_ib.or (op_catA.or op_cat)))) (?_ : Op2 ⟨X.K, cl⟩ E _ _) ha hb
  intro W H M a b u v Q m ra rb p
  have h1 : Op2 ⟨X.K, cl⟩ E (rI0 fun i j => .int (i + j)) (oI fun i j => .int (i + j)) := op2_I fun _ _ _ _ => rfl
  cases a <;> cases b <;> first
    | exact .inl (h1 W H M _ _ u v Q m ra rb p)
    | exact .inr (.inl (op2_addS W H M _ _ u v Q m ra rb p))
    | exact .inr (.inr (.inl (op2_addB W H M _ _ u v Q m ra rb p)))
    | exact .inr (.inr (.inr (.inl (op2_addT W H M _ _ u v Q m ra rb p))))
    | exact .inr (.inr (.inr (.inr (op2_addL W H M _ _ u v Q m ra rb p))))
def oSub : D → D → Mem → R D := oI fun i j => .int (i - j)
/-- the one factor below 2 ^ 64, or both together below a million bits -/
def mulOk (i j : Int) : Bool := decide (-(2 ^ 64) < i ∧ i < 2 ^ 64) || decide (-(2 ^ 64) < j ∧ j < 2 ^ 64) || decide (i.natAbs.log2 + j.natAbs.log2 < 1000000)
def oMulI : D → D → Mem → R D := oIC mulOk fun i j => .int (i * j)
theorem op_mulA : OpR X (binaryOp .Mult) (rI (fun i j => CMul i j ∨ CMulW i j) fun i j => .int (i * j)) := opI fun _ _ _ _ _ _ _ hc q => mul_int q (hc.elim CMul.ok CMulW.ok)
theorem op2_mulI : Op2 G E (rI (fun i j => CMul i j ∨ CMulW i j) fun i j => .int (i * j)) oMulI := op2_IC (fun i j h => by
  unfold mulOk at h
  simp only [Bool.or_eq_true, decide_eq_true_eq] at h
  rcases h with (h | h) | h
  · exact .inl (.inl h)
  · exact .inl (.inr h)
  · exact .inr h) fun _ _ _ _ => rfl
/-- a list as often -/
def oRep (c : Bool) (a b : D) (M : Mem) : R D := match ownOf M a, b with
  | some x, .int k => if -(2 ^ 63) ≤ k ∧ k < 2 ^ 63 ∧ x.length * k.toNat ≤ 16777216 then mkL c (List.replicate k.toNat x).flatten M else .no
  | _, _ => .no
theorem RpL.rep {W : Wd} {H : Hp} {ds : List D} {us : List V} (h : RpL G W H ds us) : ∀ n, RpL G W H (List.replicate n ds).flatten (List.replicate n us).flatten
  | 0 => (rfl : ([] : List V) = [])
  | n + 1 => by
    rw [List.replicate_succ, List.replicate_succ, List.flatten_cons, List.flatten_cons]
    exact h.append (RpL.rep h n)
theorem op2_rep {c : Bool} : Op2 G E rRep (oRep c) := fun W H M a b u v Q m ra rb p => by
  unfold oRep at p
  split at p
  · rename_i x k e1
    split at p
    · rename_i hc
      obtain ⟨a1, us, h1, h2, h3⟩ := ownOf_ok m ra e1
      exact ⟨a1, k, us, h1, rb, h2, hc.1, hc.2.1, by rw [h3.len, line_eq]; exact hc.2.2, mkL_new m p (h3.rep _)⟩
    · exact p.elim
  · exact p.elim
def oMul (c : Bool) : D → D → Mem → R D
  | .int i, .int j, M => oMulI (.int i) (.int j) M
  | a, b, M => oRep c a b M
theorem sn_mul (c : Bool) {a b : Expr} {fa fb : FE} {pos : Pos} (ha : PE X a (tE G E fa)) (hb : PE X b (tE G E fb)) : PE X (.BinOp a .Mult b pos) (tE G E (mOp (oMul c) fa fb)) :=
  sn_op (op_mulA.or op_rep) (op2_mulI.or op2_rep fun a b M => by cases a <;> cases b <;> first | exact .inl rfl | exact .inr rfl) ha hb
def divOk (_ j : Int) : Bool := decide (0 < j) && decide (j.natAbs.log2 < 9000)
def oDiv : D → D → Mem → R D := oIC divOk fun i j => .int (i / j)
theorem sn_div {a b : Expr} {fa fb : FE} {pos : Pos} (ha : PE X a (tE G E fa)) (hb : PE X b (tE G E fb)) : PE X (.BinOp a .FloorDiv b pos) (tE G E (mOp oDiv fa fb)) :=
  sn_op op_fdivW (op2_IC (fun i j h => by unfold divOk at h; simp only [Bool.and_eq_true, decide_eq_true_eq] at h; exact h) fun _ _ _ _ => rfl) ha hb
def oMod : D → D → Mem → R D := oIC (fun _ j => decide (0 < j)) fun i j => .int (i % j)
theorem sn_mod {a b : Expr} {fa fb : FE} {pos : Pos} (ha : PE X a (tE G E fa)) (hb : PE X b (tE G E fb)) : PE X (.BinOp a .Mod b pos) (tE G E (mOp oMod fa fb)) :=
  sn_op op_mod (op2_IC (fun i j h => of_decide_eq_true h) fun _ _ _ _ => rfl) ha hb
def powOk (i j : Int) : Bool := decide (0 ≤ j) && decide (j ≤ 1000000) && decide (i.natAbs < 2 ^ 64)
def oPow : D → D → Mem → R D := oIC powOk fun i j => .int (i ^ j.toNat)
theorem sn_pow {a b : Expr} {fa fb : FE} {pos : Pos} (ha : PE X a (tE G E fa)) (hb : PE X b (tE G E fb)) : PE X (.BinOp a .Pow b pos) (tE G E (mOp oPow fa fb)) :=
  sn_op op_pow (op2_IC (C' := CPow) (fun i j h => by
    unfold powOk at h
    simp only [Bool.and_eq_true, decide_eq_true_eq] at h
    exact ⟨h.1.1, h.1.2, h.2⟩) fun _ _ _ _ => rfl) ha hb
def mUn (o : D → Mem → R D) (fa : FE) : FE := fun env M => (fa env M).bind fun a m => o a m
def oNeg : D → Mem → R D
  | .int i, M => .ok (.int (-i)) M
  | _, _ => .no
theorem sn_neg {a : Expr} {fa : FE} {pos : Pos} (ha : PE X a (tE G E fa)) : PE X (.UnaryOp .USub a pos) (tE G E (mUn oNeg fa)) := pe_imp (pe_un un_neg ha) fun σ H Q ⟨W, env, M, s, p⟩ => by
  refine tE.bind s p fun d m W1 H1 u f1 s1 r1 p1 => ?_
  cases d <;> first
    | exact p1.elim
    | exact ⟨_, r1, p1.here s1.mem _ rfl⟩
end
end Fn
set_option Elab.async false
set_option linter.all false
set_option maxRecDepth 100000
set_option maxHeartbeats 1000000
namespace Fn
open PySem PySem.Spec PyProof.Rows L2
section
variable {X : Cx} {G : Gx} {cl : Nat → Addr} {E : XK} {W : Wd} {H : Hp} {M : Mem}
mutual
def pyD : D → Option PyData
  | .non => some .none
  | .bl b => some (.bool b)
  | .int i => some (.int i)
  | .str x => some (.str (l2s x))
  | .tup l => (pyL l).map .tuple
  | .ct l => (pyL l).map .tuple
  | .lst l => (pyL l).map .list
  | .fz l => (pyL l).map .list
  | .ref _ => none
def pyL : List D → Option (List PyData)
  | [] => some []
  | d :: r => match pyD d, pyL r with
    | some a, some b => some (a :: b)
    | _, _ => none
end
mutual
/-- the data that a value tells, cells by k -/
def pyGo (k : Nat → Option PyData) : D → Option PyData
  | .non => some .none
  | .bl b => some (.bool b)
  | .int i => some (.int i)
  | .str x => some (.str (l2s x))
  | .tup l => (pyGoL k l).map .tuple
  | .ct l => (pyGoL k l).map .tuple
  | .lst l => (pyGoL k l).map .list
  | .fz l => (pyGoL k l).map .list
  | .ref i => k i
def pyGoL (k : Nat → Option PyData) : List D → Option (List PyData)
  | [] => some []
  | d :: r => match pyGo k d, pyGoL k r with
    | some a, some b => some (a :: b)
    | _, _ => none
end
/-- a cell that holds a list, to the depth n -/
def kN (M : Mem) : Nat → Nat → Option PyData
  | 0, _ => none
  | n + 1, i => match M[i]? with
    | some (.lst l) => (pyGoL (kN M n) l).map .list
    | _ => none
def pyM (M : Mem) (d : D) : Option PyData := pyGo (kN M 4) d
mutual
theorem pyGo_of {k : Nat → Option PyData} : ∀ {d : D} {p : PyData}, pyD d = some p → pyGo k d = some p
  | .non, p, e => e
  | .bl b, p, e => e
  | .int i, p, e => e
  | .str x, p, e => e
  | .tup l, p, e => by
    simp only [pyD] at e
    cases q : pyL l with
    | none => rw [q] at e; cases e
    | some ps => rw [q] at e; simp only [pyGo, pyGoL_of q]; exact e
  | .ct l, p, e => by
    simp only [pyD] at e
    cases q : pyL l with
    | none => rw [q] at e; cases e
    | some ps => rw [q] at e; simp only [pyGo, pyGoL_of q]; exact e
  | .lst l, p, e => by
    simp only [pyD] at e
    cases q : pyL l with
    | none => rw [q] at e; cases e
    | some ps => rw [q] at e; simp only [pyGo, pyGoL_of q]; exact e
  | .fz l, p, e => by
    simp only [pyD] at e
    cases q : pyL l with
    | none => rw [q] at e; cases e
    | some ps => rw [q] at e; simp only [pyGo, pyGoL_of q]; exact e
  | .ref i, p, e => by cases e
theorem pyGoL_of {k : Nat → Option PyData} : ∀ {l : List D} {ps : List PyData}, pyL l = some ps → pyGoL k l = some ps
  | [], ps, e => e
  | d :: l, ps, e => by
    simp only [pyL] at e
    split at e
    · rename_i a b h1 h2
      simp only [pyGoL, pyGo_of h1, pyGoL_of h2]
      exact e
    · cases e
end
mutual
theorem pyD_ok : ∀ {d : D} {u : V} {p : PyData}, Rp G W H d u → pyD d = some p → Dp G.K H u p
  | .non, u, p, r, e => by cases r; cases e; exact .non
  | .bl b, u, p, r, e => by cases r; cases e; exact .bl b
  | .int i, u, p, r, e => by cases r; cases e; exact .int i
  | .str x, u, p, r, e => by cases r; cases e; exact .str _
  | .tup l, u, p, r, e => by
    obtain ⟨a, us, e1, s1, r1⟩ := r
    subst e1
    simp only [pyD] at e
    cases q : pyL l with
    | none => rw [q] at e; cases e
    | some ps => rw [q] at e; cases e; exact .tup s1.sq (pyL_ok r1 q)
  | .ct l, u, p, r, e => by
    obtain ⟨a, us, e1, s1, r1⟩ := r
    subst e1
    simp only [pyD] at e
    cases q : pyL l with
    | none => rw [q] at e; cases e
    | some ps => rw [q] at e; cases e; exact .tup s1.sq (pyL_ok r1 q)
  | .lst l, u, p, r, e => by
    obtain ⟨a, us, e1, s1, r1⟩ := r
    subst e1
    simp only [pyD] at e
    cases q : pyL l with
    | none => rw [q] at e; cases e
    | some ps => rw [q] at e; cases e; exact .lst (.inl (.inl s1.1)) (pyL_ok r1 q)
  | .fz l, u, p, r, e => by
    obtain ⟨a, us, e1, s1, r1⟩ := r
    subst e1
    simp only [pyD] at e
    cases q : pyL l with
    | none => rw [q] at e; cases e
    | some ps =>
      rw [q] at e; cases e
      refine .lst ?_ (pyL_ok r1 q)
      rcases s1 with ⟨o, s1⟩ | s1
      · exact .inl (.inr ⟨o, s1⟩)
      · exact .inr s1
  | .ref i, u, p, r, e => by cases e
theorem pyL_ok : ∀ {l : List D} {us : List V} {ps : List PyData}, RpL G W H l us → pyL l = some ps → DpAll G.K H us ps
  | [], us, ps, r, e => by have : us = [] := r; subst this; cases e; exact .nil
  | d :: l, us, ps, r, e => by
    obtain ⟨u, us', e1, r1, r2⟩ := r
    subst e1
    simp only [pyL] at e
    split at e
    · rename_i a b h1 h2
      cases e
      exact .cons (pyD_ok r1 h1) (pyL_ok r2 h2)
    · cases e
end
mutual
theorem pyGo_ok {k : Nat → Option PyData} (hk : ∀ i a p, W.as[i]? = some a → k i = some p → Dp G.K H (.ref a) p) : ∀ {d : D} {u : V} {p : PyData}, Rp G W H d u → pyGo k d = some p → Dp G.K H u p
  | .non, u, p, r, e => by cases r; cases e; exact .non
  | .bl b, u, p, r, e => by cases r; cases e; exact .bl b
  | .int i, u, p, r, e => by cases r; cases e; exact .int i
  | .str x, u, p, r, e => by cases r; cases e; exact .str _
  | .tup l, u, p, r, e => by
    obtain ⟨a, us, e1, s1, r1⟩ := r
    subst e1
    simp only [pyGo] at e
    cases q : pyGoL k l with
    | none => rw [q] at e; cases e
    | some ps => rw [q] at e; cases e; exact .tup s1.sq (pyGoL_ok hk r1 q)
  | .ct l, u, p, r, e => by
    obtain ⟨a, us, e1, s1, r1⟩ := r
    subst e1
    simp only [pyGo] at e
    cases q : pyGoL k l with
    | none => rw [q] at e; cases e
    | some ps => rw [q] at e; cases e; exact .tup s1.sq (pyGoL_ok hk r1 q)
  | .lst l, u, p, r, e => by
    obtain ⟨a, us, e1, s1, r1⟩ := r
    subst e1
    simp only [pyGo] at e
    cases q : pyGoL k l with
    | none => rw [q] at e; cases e
    | some ps => rw [q] at e; cases e; exact .lst (.inl (.inl s1.1)) (pyGoL_ok hk r1 q)
  | .fz l, u, p, r, e => by
    obtain ⟨a, us, e1, s1, r1⟩ := r
    subst e1
    simp only [pyGo] at e
    cases q : pyGoL k l with
    | none => rw [q] at e; cases e
    | some ps =>
      rw [q] at e; cases e
      refine .lst ?_ (pyGoL_ok hk r1 q)
      rcases s1 with ⟨o, s1⟩ | s1
      · exact .inl (.inr ⟨o, s1⟩)
      · exact .inr s1
  | .ref i, u, p, r, e => by
    obtain ⟨a, e1, rfl⟩ := r
    exact hk i a p e1 e
theorem pyGoL_ok {k : Nat → Option PyData} (hk : ∀ i a p, W.as[i]? = some a → k i = some p → Dp G.K H (.ref a) p) : ∀ {l : List D} {us : List V} {ps : List PyData}, RpL G W H l us → pyGoL k l = some ps → DpAll G.K H us ps
  | [], us, ps, r, e => by have : us = [] := r; subst this; cases e; exact .nil
  | d :: l, us, ps, r, e => by
    obtain ⟨u, us', e1, r1, r2⟩ := r
    subst e1
    simp only [pyGoL] at e
    split at e
    · rename_i a b h1 h2
      cases e
      exact .cons (pyGo_ok hk r1 h1) (pyGoL_ok hk r2 h2)
    · cases e
end
theorem kN_ok (m : MemOk G W H M) : ∀ (n i : Nat) (a : Addr) (p : PyData), W.as[i]? = some a → kN M n i = some p → Dp G.K H (.ref a) p
  | 0, i, a, p, e1, e => by cases e
  | n + 1, i, a, p, e1, e => by
    simp only [kN] at e
    split at e
    · rename_i l hc
      obtain ⟨us, h1, h2⟩ := m.cell i _ a hc e1
      cases q : pyGoL (kN M n) l with
      | none => rw [q] at e; cases e
      | some ps => rw [q] at e; cases e; exact .lst (.inl (.inl h1)) (pyGoL_ok (kN_ok m n) h2 q)
    · cases e
theorem pyM_ok (m : MemOk G W H M) {d : D} {u : V} {p : PyData} (r : Rp G W H d u) (e : pyM M d = some p) : Dp G.K H u p := pyGo_ok (kN_ok m 4) r e
mutual
theorem pyGo_plain {k : Nat → Option PyData} (hk : ∀ i p, k i = some p → p.plain = true) : ∀ {d : D} {p : PyData}, pyGo k d = some p → p.plain = true
  | .non, p, e => by cases e; rfl
  | .bl b, p, e => by cases e; rfl
  | .int b, p, e => by cases e; rfl
  | .str b, p, e => by cases e; rfl
  | .tup l, p, e => by
    simp only [pyGo] at e
    cases q : pyGoL k l with
    | none => rw [q] at e; cases e
    | some ps => rw [q] at e; cases e; simp only [PyData.plain]; exact pyGoL_plain hk q
  | .ct l, p, e => by
    simp only [pyGo] at e
    cases q : pyGoL k l with
    | none => rw [q] at e; cases e
    | some ps => rw [q] at e; cases e; simp only [PyData.plain]; exact pyGoL_plain hk q
  | .lst l, p, e => by
    simp only [pyGo] at e
    cases q : pyGoL k l with
    | none => rw [q] at e; cases e
    | some ps => rw [q] at e; cases e; simp only [PyData.plain]; exact pyGoL_plain hk q
  | .fz l, p, e => by
    simp only [pyGo] at e
    cases q : pyGoL k l with
    | none => rw [q] at e; cases e
    | some ps => rw [q] at e; cases e; simp only [PyData.plain]; exact pyGoL_plain hk q
  | .ref i, p, e => hk i p e
theorem pyGoL_plain {k : Nat → Option PyData} (hk : ∀ i p, k i = some p → p.plain = true) : ∀ {l : List D} {ps : List PyData}, pyGoL k l = some ps → PyData.plainAll ps = true
  | [], ps, e => by cases e; rfl
  | d :: l, ps, e => by
    simp only [pyGoL] at e
    split at e
    · rename_i a b h1 h2
      cases e
      simp only [PyData.plainAll, Bool.and_eq_true]
      exact ⟨pyGo_plain hk h1, pyGoL_plain hk h2⟩
    · cases e
end
theorem kN_plain : ∀ (n i : Nat) (p : PyData), kN M n i = some p → p.plain = true
  | 0, i, p, e => by cases e
  | n + 1, i, p, e => by
    simp only [kN] at e
    split at e
    · rename_i l hc
      cases q : pyGoL (kN M n) l with
      | none => rw [q] at e; cases e
      | some ps => rw [q] at e; cases e; simp only [PyData.plain]; exact pyGoL_plain (kN_plain n) q
    · cases e
theorem pyM_plain {d : D} {p : PyData} (e : pyM M d = some p) : p.plain = true := pyGo_plain (kN_plain 4) e
def rEqP (K : PySem.W.Frag) : R2 := fun x y H Q => ∃ d e, Dp K H x d ∧ Dp K H y e ∧ d.plain = true ∧ e.plain = true ∧ min d.depth e.depth ≤ 60 ∧ Q (.bl (PyData.eqv d e)) H
def rNeP (K : PySem.W.Frag) : R2 := fun x y H Q => ∃ d e, Dp K H x d ∧ Dp K H y e ∧ d.plain = true ∧ e.plain = true ∧ min d.depth e.depth ≤ 60 ∧ Q (.bl (!PyData.eqv d e)) H
theorem op_eqP (hu : X.A.units + 64 < cLine) : OpR X (compareOp .Eq) (rEqP X.K) := by
  intro pins s σ H x y v u Q I rx ry h
  obtain ⟨d, e, hd, he, sd, se, hm, q⟩ := h
  obtain ⟨as, r1⟩ := Dp.reads I d x v hd rx
  obtain ⟨bs, r2⟩ := Dp.reads I e y u he ry
  exact PySem.SeqAt.eq_plain r1 r2 sd se (by omega) ⟨.bl _, H, I, rfl, q⟩
theorem op_neP (hu : X.A.units + 64 < cLine) : OpR X (compareOp .NotEq) (rNeP X.K) := by
  intro pins s σ H x y v u Q I rx ry h
  obtain ⟨d, e, hd, he, sd, se, hm, q⟩ := h
  obtain ⟨as, r1⟩ := Dp.reads I d x v hd rx
  obtain ⟨bs, r2⟩ := Dp.reads I e y u he ry
  exact PySem.SeqAt.ne_plain r1 r2 sd se (by omega) ⟨.bl _, H, I, rfl, q⟩
def oEq (ne : Bool) (a b : D) (M : Mem) : R D := match pyM M a, pyM M b with
  | some x, some y => if min x.depth y.depth ≤ 60 then .ok (.bl (if ne = true then !PyData.eqv x y else PyData.eqv x y)) M else .no
  | _, _ => .no
theorem op2_eq : Op2 G E (rEqP G.K) (oEq false) := fun W H M a b u v Q m ra rb p => by
  simp only [oEq] at p
  split at p
  · rename_i x y e1 e2
    split at p
    · rename_i hc
      exact ⟨x, y, pyM_ok m ra e1, pyM_ok m rb e2, pyM_plain e1, pyM_plain e2, hc, p.here m _ rfl⟩
    · exact p.elim
  · exact p.elim
theorem op2_ne : Op2 G E (rNeP G.K) (oEq true) := fun W H M a b u v Q m ra rb p => by
  simp only [oEq] at p
  split at p
  · rename_i x y e1 e2
    split at p
    · rename_i hc
      exact ⟨x, y, pyM_ok m ra e1, pyM_ok m rb e2, pyM_plain e1, pyM_plain e2, hc, p.here m _ rfl⟩
    · exact p.elim
  · exact p.elim
def rInP (K : PySem.W.Frag) (neg : Bool) : R2 := fun x y H Q => ∃ d ds, Dp K H x d ∧ (Dp K H y (.list ds) ∨ Dp K H y (.tuple ds)) ∧ d.plain = true ∧ PyData.plainAll ds = true ∧ min (PyData.depthAll ds) d.depth ≤ 60 ∧ Q (.bl (if neg = true then !ds.any fun z => PyData.eqv z d else ds.any fun z => PyData.eqv z d)) H
theorem op_inP (hu : X.A.units + 64 < cLine) : OpR X (compareOp .In) (rInP X.K false) := by
  intro pins s σ H x y v u Q I rx ry h
  obtain ⟨d, ds, hd, he, sd, se, hm, q⟩ := h
  obtain ⟨as, r1⟩ := Dp.reads I d x v hd rx
  rcases he with he | he
  · obtain ⟨bs, r2⟩ := Dp.reads I _ y u he ry
    exact PySem.SeqAt.in_list_data r2 r1 se sd (by omega) ⟨.bl _, H, I, rfl, q⟩
  · obtain ⟨bs, r2⟩ := Dp.reads I _ y u he ry
    exact PySem.SeqAt.in_tuple_data r2 r1 se sd (by omega) ⟨.bl _, H, I, rfl, q⟩
theorem op_notInP (hu : X.A.units + 64 < cLine) : OpR X (compareOp .NotIn) (rInP X.K true) := by
  intro pins s σ H x y v u Q I rx ry h
  obtain ⟨d, ds, hd, he, sd, se, hm, q⟩ := h
  obtain ⟨as, r1⟩ := Dp.reads I d x v hd rx
  rcases he with he | he
  · obtain ⟨bs, r2⟩ := Dp.reads I _ y u he ry
    exact PySem.SeqAt.notIn_list_data r2 r1 se sd (by omega) ⟨.bl _, H, I, rfl, q⟩
  · obtain ⟨bs, r2⟩ := Dp.reads I _ y u he ry
    exact PySem.SeqAt.notIn_tuple_data r2 r1 se sd (by omega) ⟨.bl _, H, I, rfl, q⟩
def oInD (neg : Bool) (a b : D) (M : Mem) : R D := match pyM M a, pyM M b with
  | some x, some (.list ds) => if min (PyData.depthAll ds) x.depth ≤ 60 then .ok (.bl (if neg = true then !ds.any fun z => PyData.eqv z x else ds.any fun z => PyData.eqv z x)) M else .no
  | some x, some (.tuple ds) => if min (PyData.depthAll ds) x.depth ≤ 60 then .ok (.bl (if neg = true then !ds.any fun z => PyData.eqv z x else ds.any fun z => PyData.eqv z x)) M else .no
  | _, _ => .no
theorem op2_inD {neg : Bool} : Op2 G E (rInP G.K neg) (oInD neg) := fun W H M a b u v Q m ra rb p => by
  simp only [oInD] at p
  split at p
  · rename_i x ds e1 e2
    split at p
    · rename_i hc
      exact ⟨x, ds, pyM_ok m ra e1, .inl (pyM_ok m rb e2), pyM_plain e1, pyM_plain e2, hc, p.here m _ rfl⟩
    · exact p.elim
  · rename_i x ds e1 e2
    split at p
    · rename_i hc
      exact ⟨x, ds, pyM_ok m ra e1, .inr (pyM_ok m rb e2), pyM_plain e1, pyM_plain e2, hc, p.here m _ rfl⟩
    · exact p.elim
  · exact p.elim
section
variable {a b c : Expr} {fa fb fc : FE} {pos : Pos}
theorem sn_eq (hu : X.A.units + 64 < cLine) (ha : PE X a (tE ⟨X.K, cl⟩ E fa)) (hb : PE X b (tE ⟨X.K, cl⟩ E fb)) : PE X (.Compare a [.Eq] [b] pos) (tE ⟨X.K, cl⟩ E (mOp (oEq false) fa fb)) := sn_cmp (op_eqP hu) op2_eq (nomark _) ha hb
def oOrd (p : Int → Int → Bool) (q : List Nat → List Nat → Bool) : D → D → Mem → R D
  | .int i, .int j, M => .ok (.bl (p i j)) M
  | .str x, .str y, M => .ok (.bl (q x y)) M
  | _, _, _ => .no
def oLt := oOrd (fun i j => decide (i < j)) (fun x y => decide (x < y))
def oLe := oOrd (fun i j => decide (i ≤ j)) (fun x y => !decide (y < x))
def oGt := oOrd (fun i j => decide (j < i)) (fun x y => decide (y < x))
def oGe := oOrd (fun i j => decide (j ≤ i)) (fun x y => !decide (x < y))
theorem op2_ord {p : Int → Int → Bool} {q : List Nat → List Nat → Bool} : Op2 G E (fun x y H Q => rI0 (fun i j => .bl (p i j)) x y H Q ∨ ∃ i j : Str, x = .str i ∧ y = .str j ∧ Q (.bl (q i.cps.toList j.cps.toList)) H) (oOrd p q) := fun W H M a b u v Q m ra rb h => by
  cases a <;> cases b <;> first
    | exact h.elim
    | exact .inl ⟨_, _, ra, rb, h.here m _ rfl⟩
    | exact .inr ⟨_, _, ra, rb, h.here m _ (by rw [l2s_toList, l2s_toList]; rfl)⟩
theorem sn_ge (ha : PE X a (tE G E fa)) (hb : PE X b (tE G E fb)) : PE X (.Compare a [.GtE] [b] pos) (tE G E (mOp oGe fa fb)) := sn_cmp (op_ge.or op_ge_str) op2_ord (nomark _) ha hb
def oIsN (neg : Bool) : D → Mem → R D
  | .non, M => .ok (.bl (!neg)) M
  | _, M => .ok (.bl neg) M
def flatD : D → Bool
  | .non | .bl _ | .int _ | .str _ => true
  | _ => false
def eqF : D → D → Bool
  | .non, .non => true
  | .bl a, .bl b => a == b
  | .bl a, .int b => (if a = true then 1 else 0) == b
  | .int a, .bl b => a == (if b = true then 1 else 0)
  | .int a, .int b => a == b
  | .str a, .str b => a == b
  | _, _ => false
theorem l2s_beq (a b : List Nat) : (l2s a == l2s b) = (a == b) := by
  by_cases h : a = b
  · subst h; simp
  · have h2 : ¬ l2s a = l2s b := fun z => h (l2s_inj z)
    rw [beq_eq_false_iff_ne.mpr h, beq_eq_false_iff_ne.mpr h2]
theorem flat_ok {d : D} {u : V} (r : Rp G W H d u) (h : flatD d = true) : flatV u = true := by
  cases d <;> first
    | (cases r; rfl)
    | cases h
theorem eqF_ok {x y : D} {u v : V} (rx : Rp G W H x u) (ry : Rp G W H y v) (hx : flatD x = true) (hy : flatD y = true) : eqV u v = eqF x y := by
  cases x <;> first
    | (cases hx; done)
    | (cases rx
       cases y <;> first
        | (cases hy; done)
        | (cases ry; first | rfl | exact l2s_beq _ _ | (rename_i p q; cases p <;> rfl) | (rename_i p q; cases q <;> rfl)))
theorem inV_ok {x : D} {u : V} (rx : Rp G W H x u) (hx : flatD x = true) : ∀ {l : List D} {us : List V}, RpL G W H l us → l.all flatD = true → us.all flatV = true ∧ inV u us = l.any fun y => eqF y x
  | [], us, r, h => by have : us = [] := r; subst this; exact ⟨rfl, rfl⟩
  | d :: l, us, r, h => by
    obtain ⟨v, us', e1, r1, r2⟩ := r
    subst e1
    rw [List.all_cons, Bool.and_eq_true] at h
    obtain ⟨k1, k2⟩ := inV_ok rx hx r2 h.2
    refine ⟨by rw [List.all_cons, flat_ok r1 h.1, k1]; rfl, ?_⟩
    have k3 : inV u us' = us'.any fun y => eqV y u := rfl
    show (v :: us').any (fun y => eqV y u) = _
    rw [List.any_cons, List.any_cons, ← k2, k3, eqF_ok r1 rx h.1 hx]
def oInF (neg : Bool) (a b : D) (M : Mem) : R D := match seqOf M b with
  | some l => if flatD a = true ∧ l.all flatD = true then .ok (.bl (if neg = true then !l.any fun y => eqF y a else l.any fun y => eqF y a)) M else .no
  | none => .no
theorem op2_inF {neg : Bool} : Op2 G E (rIn G.K neg) (oInF neg) := fun W H M a b u v Q m ra rb p => by
  simp only [oInF] at p
  split at p
  · rename_i l e1
    split at p
    · rename_i hc
      obtain ⟨p1, us, h1, h2, h3⟩ := seqOf_ok m rb e1
      obtain ⟨k1, k2⟩ := inV_ok ra hc.1 h3 hc.2
      refine ⟨p1, us, h1, h2, flat_ok ra hc.1, k1, ?_⟩
      rw [k2]
      exact p.here m _ rfl
    · exact p.elim
  · exact p.elim
/-- one sign in a text -/
def oInS (neg : Bool) : D → D → Mem → R D
  | .str [c], .str y, M => .ok (.bl (if neg = true then !decide (c ∈ y) else decide (c ∈ y))) M
  | _, _, _ => .no
def mChain (o o' : D → D → Mem → R D) (fa fb fc : FE) : FE := fun env M => (fa env M).bind fun x m => (fb env m).bind fun y m => (o x y m).bind fun z m => match z with
  | .bl true => (fc env m).bind fun w m => o' y w m
  | .bl false => .ok (.bl false) m
  | _ => .no
end
/-- the truth of a value -/
def truD (M : Mem) : D → Option Bool
  | .non => some false
  | .bl b => some b
  | .int i => some (i != 0)
  | .str x => if x.length ≤ 16777216 then some (!x.isEmpty) else none
  | .tup l => some (!l.isEmpty)
  | .ct l => some (!l.isEmpty)
  | .lst l => some (!l.isEmpty)
  | .fz l => some (!l.isEmpty)
  | .ref i => match M[i]? with
    | some (.lst l) => some (!l.isEmpty)
    | some (.dk false kvs) => some (!kvs.isEmpty)
    | _ => none
/-- a test that must be a truth -/
def bOf (f : FE) : FT := fun env M => (f env M).bind fun d m => match d with
  | .bl b => .ok b m
  | _ => .no
section
variable {a b c : Expr} {fa fb fc : FE} {ga gb gc : FT} {pos : Pos}
theorem st_val (ha : PE X a (tE G E fa)) (he : ∀ whole, isTrue a X.env whole = (do let v ← whole; standAt a.pos; holding [v] (truthy v)) := by intro _; rfl) : PT X a (tT G E (bOf fa)) := pt_imp (pt_val ha he) fun σ H Q ⟨W, env, M, s, p⟩ => by
  refine tE.bind s p fun d m W1 H1 u f1 s1 r1 p1 => ?_
  cases d with
  | bl k => exact ⟨k, r1, p1.here s1.mem⟩
  | _ => exact p1.elim
/-- any value as a test -/
def tOf (f : FE) : FT := fun env M => (f env M).bind fun d m => match truD m d with
  | some b => .ok b m
  | none => .no
def tAndM (f g : FT) : FT := fun env M => (f env M).bind fun b m => if b = true then g env m else .ok false m
def tOrM (f g : FT) : FT := fun env M => (f env M).bind fun b m => if b = true then .ok true m else g env m
def tNotM (f : FT) : FT := fun env M => (f env M).bind fun b m => .ok (!b) m
theorem tT_and {f g : FT} {σ : L2.St} {H : Hp} {Q : Bool → Hp → Prop} (h : tT G E (tAndM f g) σ H Q) : tAnd (tT G E f) (tT G E g) σ H Q := by
  obtain ⟨W, env, M, s, p⟩ := h
  refine tT.bind s p fun b m W1 H1 f1 s1 p1 => ?_
  cases b with
  | true => rw [if_pos rfl] at p1 ⊢; exact ⟨W1, env, m, s1, p1⟩
  | false => rw [if_neg Bool.false_ne_true] at p1 ⊢; exact p1.here s1.mem
theorem tT_or {f g : FT} {σ : L2.St} {H : Hp} {Q : Bool → Hp → Prop} (h : tT G E (tOrM f g) σ H Q) : tOr (tT G E f) (tT G E g) σ H Q := by
  obtain ⟨W, env, M, s, p⟩ := h
  refine tT.bind s p fun b m W1 H1 f1 s1 p1 => ?_
  cases b with
  | true => rw [if_pos rfl] at p1 ⊢; exact p1.here s1.mem
  | false => rw [if_neg Bool.false_ne_true] at p1 ⊢; exact ⟨W1, env, m, s1, p1⟩
theorem sw_and1 (ha : PT X a (tT G E ga)) : PW X (.BoolOp .And [a] pos) (tT G E ga) := pw_and1 ha
theorem sw_or1 (ha : PT X a (tT G E ga)) : PW X (.BoolOp .Or [a] pos) (tT G E ga) := pw_or1 ha
theorem sw_and {rest : List Expr} (ha : PT X a (tT G E ga)) (hb : PW X (.BoolOp .And (b :: rest) pos) (tT G E gb)) : PW X (.BoolOp .And (a :: b :: rest) pos) (tT G E (tAndM ga gb)) := pw_imp (pw_and ha hb) fun _ _ _ h => tT_and h
theorem sw_or {rest : List Expr} (ha : PT X a (tT G E ga)) (hb : PW X (.BoolOp .Or (b :: rest) pos) (tT G E gb)) : PW X (.BoolOp .Or (a :: b :: rest) pos) (tT G E (tOrM ga gb)) := pw_imp (pw_or ha hb) fun _ _ _ h => tT_or h
theorem st_not (ha : PT X a (tT G E ga)) : PT X (.UnaryOp .Not a pos) (tT G E (tNotM ga)) := pt_imp (pt_not ha) fun σ H Q ⟨W, env, M, s, p⟩ => by
  refine tT.bind s p fun b m W1 H1 f1 s1 p1 => ?_
  exact p1.here s1.mem
def mAnd (f g : FE) : FE := fun env M => (f env M).bind fun d m => match d with
  | .bl true => g env m
  | .bl false => .ok (.bl false) m
  | _ => .no
def mOr (f g : FE) : FE := fun env M => (f env M).bind fun d m => match d with
  | .bl true => .ok (.bl true) m
  | .bl false => g env m
  | _ => .no
def mNot (f : FE) : FE := fun env M => (f env M).bind fun d m => match d with
  | .bl b => .ok (.bl (!b)) m
  | _ => .no
def mIf (t : FT) (f g : FE) : FE := fun env M => (t env M).bind fun b m => if b = true then f env m else g env m
theorem sn_if (hc : PT X c (tT G E gc)) (ha : PE X a (tE G E fa)) (hb : PE X b (tE G E fb)) : PE X (.IfExp c a b pos) (tE G E (mIf gc fa fb)) := pe_imp (pe_ifExp hc ha hb) fun σ H Q ⟨W, env, M, s, p⟩ => by
  refine tT.bind s p fun k m W1 H1 f1 s1 p1 => ?_
  cases k with
  | true => rw [if_pos rfl] at p1 ⊢; exact ⟨W1, env, m, s1, p1⟩
  | false => rw [if_neg Bool.false_ne_true] at p1 ⊢; exact ⟨W1, env, m, s1, p1⟩
def aNil : FA := fun _ M => .ok [] M
def aCons (f : FE) (g : FA) : FA := fun env M => (f env M).bind fun d m => (g env m).bind fun ds m' => .ok (d :: ds) m'
theorem sa_nil : PA X [] (tA G E aNil) := pa_imp pa_nil fun σ H Q ⟨W, env, M, s, p⟩ => p.here s.mem _ rfl
theorem sa_cons {es : List Expr} {g : FA} (ha : PE X a (tE G E fa)) (hr : PA X es (tA G E g)) (hs : starEach (a :: es) X.env = (false, eval a X.env) :: starEach es X.env := by rfl) : PA X (a :: es) (tA G E (aCons fa g)) := pa_imp (pa_cons ha hr hs) fun σ H Q ⟨W, env, M, s, p⟩ => by
  refine tE.bind s p fun d m W1 H1 u f1 s1 r1 p1 => ?_
  refine tA.bind s1 p1 fun ds m2 W2 H2 us f2 s2 r2 p2 => ?_
  exact p2.here s2.mem _ ⟨u, us, rfl, s1.mem.rp f2 r1, r2⟩
def mTup (g : FA) : FE := fun env M => (g env M).bind fun ds m => if ds.length ≤ 16777216 then .ok (.tup ds) m else .no
def mLst (c : Bool) (g : FA) : FE := fun env M => (g env M).bind fun ds m => if ds.length ≤ 16777216 then mkL c ds m else .no
theorem sn_tup {es : List Expr} {g : FA} {x1} (h : PA X es (tA G E g)) : PE X (.Tuple es x1 pos) (tE G E (mTup g)) := pe_imp (pe_tup h) fun σ H Q ⟨W, env, M, s, p⟩ => by
  refine tA.bind s p fun ds m2 W2 H2 us f2 s2 r2 p2 => ?_
  split at p2
  · rename_i hz
    exact ⟨by rw [r2.len, line_eq]; exact hz, tup_new s2.mem p2 r2⟩
  · exact p2.elim
theorem sn_lst (c : Bool) {es : List Expr} {g : FA} (h : PA X es (tA G E g)) : PE X (.List es pos) (tE G E (mLst c g)) := pe_imp (pe_lst h) fun σ H Q ⟨W, env, M, s, p⟩ => by
  refine tA.bind s p fun ds m2 W2 H2 us f2 s2 r2 p2 => ?_
  split at p2
  · rename_i hz
    exact ⟨by rw [r2.len, line_eq]; exact hz, mkL_new s2.mem p2 r2⟩
  · exact p2.elim
end
end
end Fn
set_option Elab.async false
set_option linter.all false
set_option maxRecDepth 100000
set_option maxHeartbeats 1000000
namespace Fn
open PySem PySem.Spec PyProof.Rows L2
section
variable {X : Cx} {G : Gx} {cl : Nat → Addr} {E : XK} {W : Wd} {H : Hp} {M : Mem} {a b c : Expr} {fa fb fc : FE} {pos : Pos}
def oIx : D → D → Mem → R D
  | .str x, .int i, M => if x.length ≤ 16777216 then match atI x i with
    | some c => .ok (.str [c]) M
    | none => .no
    else .no
  | a, .int i, M => match seqOf M a with
    | some l => match atI l i with
      | some d => .ok d M
      | none => .no
    | none => .no
  | _, _, _ => .no
theorem RpL.atI {ds : List D} {us : List V} (r : RpL G W H ds us) {i : Int} {d : D} (e : atI ds i = some d) : ∃ u, L2.atI us i = some u ∧ Rp G W H d u := by
  unfold L2.atI at e ⊢
  rw [r.len]
  cases h : ixN ds.length i with
  | none => rw [h] at e; cases e
  | some j => rw [h] at e; exact r.get e
theorem op2_ix : Op2 G E (rIx G.K) oIx := fun W H M a b u v Q m ra rb p => by
  cases b with
  | int i =>
    cases rb
    have seq : ∀ l, seqOf M a = some l → PR G W H (PV G Q) E (match atI l i with | some d => .ok d M | none => (.no : R D)) → rIx G.K u (.int i) H Q := fun l e1 p => by
      split at p
      · rename_i d e2
        obtain ⟨p1, us, h1, h2, h3⟩ := seqOf_ok m ra e1
        obtain ⟨w, h4, h5⟩ := h3.atI e2
        rcases h2 with h2 | h2
        · exact .inl ⟨p1, us, i, w, h1, rfl, h2, h4, p.here m _ h5⟩
        · exact .inr (.inl ⟨p1, us, i, w, h1, rfl, h2, h4, p.here m _ h5⟩)
      · exact p.elim
    cases a with
    | str x =>
      cases ra
      simp only [oIx] at p
      split at p
      · rename_i hz
        split at p
        · rename_i c e2
          exact .inr (.inr ⟨l2s x, i, c, rfl, rfl, by rw [l2s_len, line_eq]; exact hz, by rw [l2s_toList]; exact e2, p.here m _ rfl⟩)
        · exact p.elim
      · exact p.elim
    | tup l => exact seq l rfl p
    | ct l => exact seq l rfl p
    | lst l => exact seq l rfl p
    | fz l => exact seq l rfl p
    | ref j =>
      simp only [oIx] at p
      split at p
      · rename_i l e1
        exact seq l e1 p
      · exact p.elim
    | _ => exact p.elim
  | _ => cases a <;> exact p.elim
theorem sn_ix (ha : PE X a (tE ⟨X.K, cl⟩ E fa)) (hb : PE X b (tE ⟨X.K, cl⟩ E fb)) (hs : PlainIx b := by intro _ _; rfl) : PE X (.Subscript a b pos) (tE ⟨X.K, cl⟩ E (mOp oIx fa fb)) :=
  pe_imp (pe_ix ix_seq ha hb hs) (tE_op op2_ix)
def FO := Env → Mem → R (Option Int)
def pNone : FO := fun _ M => .ok none M
def pSome (f : FE) : FO := fun env M => (f env M).bind fun d m => match d with
  | .int i => .ok (some i) m
  | _ => .no
def cutD {α : Type} (xs : List α) (lo hi : Option Int) : List α := (xs.drop (HT.sIx xs.length 0 lo)).take (HT.sIx xs.length xs.length hi - HT.sIx xs.length 0 lo)
def oSl (c : Bool) (d : D) (lo hi : Option Int) (M : Mem) : R D := match d with
  | .str x => if x.length ≤ 16777216 then .ok (.str (cutD x lo hi)) M else .no
  | .tup l => .ok (.tup (cutD l lo hi)) M
  | d => match lstOf M d with
    | some l => mkL c (cutD l lo hi) M
    | none => .no
def mSl (c : Bool) (f : FE) (lo hi : FO) : FE := fun env M => (f env M).bind fun d m => (lo env m).bind fun l m1 => (hi env m1).bind fun h m2 => oSl c d l h m2
def tOO (G : Gx) (E : XK) (f : FO) : L2.St → Hp → (Option Int → Hp → Prop) → Prop := fun σ H Q => ∃ W env M, Sta G W env M σ H ∧ PR G W H (fun o _ _ H' => Q o H') E (f env M)
theorem po_imp {e : Option Expr} {t t' : TO} (h : PO X e t) (i : ∀ σ H Q, t' σ H Q → t σ H Q) : PO X e t' := ⟨fun pins s σ H Q I q => h.run pins s σ H Q I (i σ H Q q)⟩
theorem sp_none : PO X none (tOO G E pNone) := po_imp po_none fun σ H Q ⟨W, env, M, s, p⟩ => p.here s.mem
theorem sp_some (ha : PE X a (tE G E fa)) : PO X (some a) (tOO G E (pSome fa)) := po_imp (po_some ha) fun σ H Q ⟨W, env, M, s, p⟩ => by
  refine tE.bind s p fun d m W1 H1 u f1 s1 r1 p1 => ?_
  cases d with
  | int i => exact ⟨i, r1, p1.here s1.mem⟩
  | _ => exact p1.elim
theorem RpL.cut {ds : List D} {us : List V} (r : RpL G W H ds us) (lo hi : Option Int) : RpL G W H (cutD ds lo hi) (cutV us lo hi) := by
  unfold cutD cutV
  rw [r.len]
  exact (r.drop _).take _
theorem cutD_whole {α : Type} {xs : List α} {lo hi : Option Int} (h : HT.sIx xs.length 0 lo = 0 ∧ HT.sIx xs.length xs.length hi = xs.length) : cutD xs lo hi = xs := by
  unfold cutD
  rw [h.1, h.2, List.drop_zero, Nat.sub_zero, List.take_length]
theorem sl2 (c : Bool) (d : D) (lo hi : Option Int) (W : Wd) (H : Hp) (M : Mem) (u : V) (Q : VK) (m : MemOk G W H M) (r : Rp G W H d u) (p : PR G W H (PV G Q) E (oSl c d lo hi M)) :
    rSlL G.K u lo hi H Q ∨ rSlA G.K u lo hi H Q ∨ rSlS u lo hi H Q := by
  have seq : ∀ l, lstOf M d = some l → PR G W H (PV G Q) E (mkL c (cutD l lo hi) M) → rSlL G.K u lo hi H Q := fun l e q => by
    obtain ⟨a1, us, h1, h2, h3⟩ := lstOf_ok m r e
    exact ⟨a1, us, h1, h2, mkL_new m q (h3.cut lo hi)⟩
  cases d with
  | str x =>
    cases r
    simp only [oSl] at p
    split at p
    · rename_i hz
      refine .inr (.inr ⟨l2s x, rfl, by rw [l2s_len, line_eq]; exact hz, p.here m _ ?_⟩)
      show V.str _ = V.str _
      unfold cutS cutD
      rw [l2s_len, l2s_toList]
      rfl
    · exact p.elim
  | tup l =>
    obtain ⟨a1, us, h1, h2, h3⟩ := r
    refine .inr (.inl ⟨a1, us, h1, h2.sq, fun hw => p.here m _ ⟨a1, us, rfl, h2.imp id fun z => ⟨by rw [z.1]; simp [cutD], z.2⟩, ?_⟩, fun _ => tup_new m p (h3.cut lo hi)⟩)
    have hw' := hw
    rw [h3.len] at hw'
    rw [cutD_whole hw']
    exact h3
  | ct l => exact p.elim
  | lst l => exact .inl (seq l rfl p)
  | fz l => exact .inl (seq l rfl p)
  | ref j =>
    simp only [oSl] at p
    split at p
    · rename_i l e1
      exact .inl (seq l e1 p)
    · exact p.elim
  | _ => exact p.elim
theorem sn_sl (c : Bool) {lo hi : Option Expr} {gl gh : FO} {p2 : Pos} (ha : PE X a (tE ⟨X.K, cl⟩ E fa)) (hl : PO X lo (tOO ⟨X.K, cl⟩ E gl)) (hh : PO X hi (tOO ⟨X.K, cl⟩ E gh)) : PE X (.Subscript a (.Slice lo hi none p2) pos) (tE ⟨X.K, cl⟩ E (mSl c fa gl gh)) :=
  pe_imp (pe_slice (sl_list.or (sl_tupA.or sl_str)) ha hl hh) fun σ H Q ⟨W, env, M, s, p⟩ => by
    refine tE.bind s p fun d m W1 H1 u f1 s1 r1 p1 => ?_
    refine ⟨W1, env, m, s1, PR.bind p1 fun l m2 W2 H2 f2 k2 p2 => ?_⟩
    have s2 := s1.fut f2 k2
    refine ⟨W2, env, m2, s2, PR.bind p2 fun h m3 W3 H3 f3 k3 p3 => ?_⟩
    exact sl2 c d l h W3 H3 m3 u Q k3 (s2.mem.rp f3 (s1.mem.rp f2 r1)) p3
def Fn1 (G : Gx) (E : XK) (r : List V → Hp → VK → Prop) (o : List D → Mem → R D) : Prop := ∀ W H M ds us Q, MemOk G W H M → RpL G W H ds us → PR G W H (PV G Q) E (o ds M) → r us H Q
def mCall (o : List D → Mem → R D) (g : FA) : FE := fun env M => (g env M).bind o
theorem tE_call {r : List V → Hp → VK → Prop} {o : List D → Mem → R D} {g : FA} (hs : Fn1 G E r o) (σ : L2.St) (H : Hp) (Q : VK) (h : tE G E (mCall o g) σ H Q) : tCB r (tA G E g) σ H Q := by
  obtain ⟨W, env, M, s, p⟩ := h
  refine tA.bind s p fun ds m2 W2 H2 us f2 s2 r2 p2 => ?_
  exact hs W2 H2 m2 ds us Q s2.mem r2 p2
def oLen : List D → Mem → R D
  | [.str x], M => if x.length ≤ 16777216 then .ok (.int x.length) M else .no
  | [d], M => match seqOf M d with
    | some l => .ok (.int l.length) M
    | none => .no
  | _, _ => .no
theorem fn_len : Fn1 G E (fun xs H Q => (∃ p ys, xs = [.ref p] ∧ (SqL G.K H p ys ∨ SqT G.K H p ys) ∧ Q (.int ys.length) H) ∨ ∃ z : Str, xs = [.str z] ∧ z.length ≤ sizeLine ∧ Q (.int z.length) H) oLen := fun W H M ds us Q m r p => by
  match ds, r, p with
  | [d], r, p =>
    obtain ⟨u, us', e1, r1, r2⟩ := r
    have : us' = [] := r2
    subst this e1
    have seq : ∀ l, seqOf M d = some l → PR G W H (PV G Q) E (.ok (.int l.length) M) → ∃ p ys, [u] = [V.ref p] ∧ (SqL G.K H p ys ∨ SqT G.K H p ys) ∧ Q (.int ys.length) H := fun l e q => by
      obtain ⟨a1, us, h1, h2, h3⟩ := seqOf_ok m r1 e
      subst h1
      exact ⟨a1, us, rfl, h2, by rw [h3.len]; exact q.here m _ rfl⟩
    cases d with
    | str x =>
      cases r1
      simp only [oLen] at p
      split at p
      · rename_i hz
        exact .inr ⟨_, rfl, by rw [l2s_len, line_eq]; exact hz, by rw [l2s_len]; exact p.here m _ rfl⟩
      · exact p.elim
    | tup l => exact .inl (seq l rfl p)
    | ct l => exact .inl (seq l rfl p)
    | lst l => exact .inl (seq l rfl p)
    | fz l => exact .inl (seq l rfl p)
    | ref j =>
      simp only [oLen] at p
      split at p
      · rename_i l e1
        exact .inl (seq l e1 p)
      · exact p.elim
    | _ => exact p.elim
  | [], r, p => exact p.elim
  | a :: b :: c, r, p => cases a <;> exact p.elim
theorem call_lenA : CallR X (.builtin "len") (fun xs H Q => (∃ p ys, xs = [.ref p] ∧ (SqL X.K H p ys ∨ SqT X.K H p ys) ∧ Q (.int ys.length) H) ∨ ∃ z : Str, xs = [.str z] ∧ z.length ≤ sizeLine ∧ Q (.int z.length) H) := call_len_seq.or call_len_str
def o2I (f : Int → Int → Int) : List D → Mem → R D
  | [.int i, .int j], M => .ok (.int (f i j)) M
  | _, _ => .no
theorem fn_2I {f : Int → Int → Int} : Fn1 G E (fun xs H Q => ∃ i j, xs = [.int i, .int j] ∧ Q (.int (f i j)) H) (o2I f) := fun W H M ds us Q m r p => by
  unfold o2I at p
  split at p
  · obtain ⟨u, us', e1, r1, v, us2, e2, r2, r3⟩ := r
    have : us2 = [] := r3
    subst this e2 e1
    cases r1; cases r2
    exact ⟨_, _, rfl, p.here m _ rfl⟩
  · exact p.elim
def oMax := o2I fun i j => if j > i then j else i
def oMin := o2I fun i j => if j < i then j else i
def oAbs : List D → Mem → R D
  | [.int i], M => .ok (.int (if i < 0 then -i else i)) M
  | _, _ => .no
theorem fn_abs : Fn1 G E (fun xs H Q => ∃ i, xs = [.int i] ∧ Q (.int (if i < 0 then -i else i)) H) oAbs := fun W H M ds us Q m r p => by
  unfold oAbs at p
  split at p
  · obtain ⟨u, us', e1, r1, r3⟩ := r
    have : us' = [] := r3
    subst this e1
    cases r1
    exact ⟨_, rfl, p.here m _ rfl⟩
  · exact p.elim
def oInt : List D → Mem → R D
  | [.int i], M => .ok (.int i) M
  | [.bl k], M => .ok (.int (if k = true then 1 else 0)) M
  | _, _ => .no
theorem fn_int : Fn1 G E (fun xs H Q => (∃ i, xs = [.int i] ∧ Q (.int i) H) ∨ ∃ k, xs = [.bl k] ∧ Q (.int (if k then 1 else 0)) H) oInt := fun W H M ds us Q m r p => by
  unfold oInt at p
  split at p
  · obtain ⟨u, us', e1, r1, r3⟩ := r
    have : us' = [] := r3
    subst this e1
    cases r1
    exact .inl ⟨_, rfl, p.here m _ rfl⟩
  · obtain ⟨u, us', e1, r1, r3⟩ := r
    have : us' = [] := r3
    subst this e1
    cases r1
    exact .inr ⟨_, rfl, p.here m _ rfl⟩
  · exact p.elim
def oList (c : Bool) : List D → Mem → R D
  | [d], M => match seqOf M d with
    | some l => mkL c l M
    | none => .no
  | _, _ => .no
theorem rp_one {d : D} {us : List V} (r : RpL G W H [d] us) : ∃ u, us = [u] ∧ Rp G W H d u := by
  obtain ⟨u, us', e1, r1, r2⟩ := r
  have : us' = [] := r2
  subst this e1
  exact ⟨u, rfl, r1⟩
theorem fn_list {c : Bool} : Fn1 G E (fun xs H Q => ∃ p ys, xs = [.ref p] ∧ (SqL G.K H p ys ∨ SqT G.K H p ys) ∧ ∀ l, H l = none → Q (.ref l) (upd H l (.lst ys))) (oList c) := fun W H M ds us Q m r p => by
  unfold oList at p
  split at p
  · obtain ⟨u, e1, r1⟩ := rp_one r
    subst e1
    split at p
    · rename_i l e1
      obtain ⟨a1, us, h1, h2, h3⟩ := seqOf_ok m r1 e1
      subst h1
      exact ⟨a1, us, rfl, h2, mkL_new m p h3⟩
    · exact p.elim
  · exact p.elim
def oTuple : List D → Mem → R D
  | [.tup l], M => .ok (.tup l) M
  | [d], M => match lstOf M d with
    | some l => .ok (.tup l) M
    | none => .no
  | _, _ => .no
theorem fn_tuple : Fn1 G E (fun xs H Q => ∃ p ys, xs = [.ref p] ∧ ((SqL G.K H p ys ∧ ∀ l, H l = none → Q (.ref l) (upd H l (.tup ys))) ∨ (SqT G.K H p ys ∧ Q (.ref p) H))) oTuple := fun W H M ds us Q m r p => by
  unfold oTuple at p
  split at p
  · obtain ⟨u, e1, r1⟩ := rp_one r
    subst e1
    obtain ⟨a1, us, h1, h2, h3⟩ := r1
    subst h1
    exact ⟨a1, us, rfl, .inr ⟨h2.sq, p.here m _ ⟨a1, us, rfl, h2, h3⟩⟩⟩
  · obtain ⟨u, e1, r1⟩ := rp_one r
    subst e1
    split at p
    · rename_i l e1
      obtain ⟨a1, us, h1, h2, h3⟩ := lstOf_ok m r1 e1
      subst h1
      exact ⟨a1, us, rfl, .inl ⟨h2, tup_new m p h3⟩⟩
    · exact p.elim
  · exact p.elim
def Mt1 (G : Gx) (E : XK) (r : V → List V → Hp → VK → Prop) (o : D → List D → Mem → R D) : Prop := ∀ W H M a u ds us Q, MemOk G W H M → Rp G W H a u → RpL G W H ds us → PR G W H (PV G Q) E (o a ds M) → r u us H Q
def tyOk (T : String) (M : Mem) : D → Bool
  | .str _ => T == "str"
  | .int _ => T == "int"
  | .lst _ => T == "list"
  | .fz _ => T == "list"
  | .ref i => match M[i]? with
    | some (.lst _) => T == "list"
    | some (.dk false _) => T == "dict"
    | some (.dt false _) => T == "dict"
    | _ => false
  | _ => false
theorem tyOk_ok {T : String} {d : D} {u : V} (m : MemOk G W H M) (r : Rp G W H d u) (e : tyOk T M d = true) : tyV G.K T u H := by
  cases d with
  | str x => cases r; exact eq_of_beq e
  | int x => cases r; exact eq_of_beq e
  | lst l => obtain ⟨a1, us, h1, h2, h3⟩ := lstOf_ok m (d := .lst l) r rfl; subst h1; exact .inl ⟨eq_of_beq e, us, h2⟩
  | fz l => obtain ⟨a1, us, h1, h2, h3⟩ := lstOf_ok m (d := .fz l) r rfl; subst h1; exact .inl ⟨eq_of_beq e, us, h2⟩
  | ref i =>
    obtain ⟨a, e1, e2⟩ := r
    subst e2
    simp only [tyOk] at e
    split at e
    · rename_i l hc
      obtain ⟨us, h1, r1⟩ := m.cell i _ a hc e1
      exact .inl ⟨eq_of_beq e, us, .inl (.inl h1)⟩
    · rename_i kvs hc
      obtain ⟨us, h1, r1⟩ := m.cell i _ a hc e1
      exact .inr (.inr (.inl ⟨eq_of_beq e, .inl ⟨us, h1⟩⟩))
    · rename_i kvs hc
      obtain ⟨us, h1, r1⟩ := m.cell i _ a hc e1
      exact .inr (.inr (.inl ⟨eq_of_beq e, .inr ⟨us, h1⟩⟩))
    · cases e
  | _ => cases e
def mMeth (T : String) (o : D → List D → Mem → R D) (f : FE) (g : FA) : FE := fun env M => (f env M).bind fun a m => if tyOk T m a = true then (g env m).bind fun ds m' => o a ds m' else .no
theorem tE_meth {T : String} {r : V → List V → Hp → VK → Prop} {o : D → List D → Mem → R D} {f : FE} {g : FA} (hs : Mt1 G E r o) (σ : L2.St) (H : Hp) (Q : VK) (h : tE G E (mMeth T o f g) σ H Q) : tBM G.K T r (tE G E f) (tA G E g) σ H Q := by
  obtain ⟨W, env, M, s, p⟩ := h
  refine tE.bind s p fun d m W1 H1 u f1 s1 r1 p1 => ?_
  split at p1
  · rename_i ht
    refine ⟨tyOk_ok s1.mem r1 ht, ?_⟩
    refine tA.bind s1 p1 fun ds m2 W2 H2 us f2 s2 r2 p2 => ?_
    exact hs W2 H2 m2 d u ds us Q s2.mem (s1.mem.rp f2 r1) r2 p2
  · exact p1.elim
def oAppend : D → List D → Mem → R D
  | .ref i, [d], M => match M[i]? with
    | some (.lst l) => if l.length < 16777216 then .ok .non (M.set i (.lst (l ++ [d]))) else .no
    | _ => .no
  | _, _, _ => .no
theorem mt1_append : Mt1 G E rAppend oAppend := fun W H M a u ds us Q m ra r p => by
  unfold oAppend at p
  split at p
  · obtain ⟨v, e1, r1⟩ := rp_one r
    subst e1
    obtain ⟨a1, e2, e3⟩ := ra
    subst e3
    split at p
    · rename_i l hc
      split at p
      · rename_i hz
        obtain ⟨xs, h1, h2⟩ := m.cell _ _ a1 hc e2
        refine ⟨a1, xs, v, rfl, rfl, h1, by rw [h2.len, line_eq]; exact hz, ?_⟩
        have f := Fut.wrote (W := W) (H := H) (o := .lst (xs ++ [v])) e2 h1 trivial
        exact p W _ f (m.wrote e2 ⟨_, upd_same, m.rpL f (h2.append ⟨v, [], rfl, r1, rfl⟩)⟩) _ rfl
      · exact p.elim
    · exact p.elim
  · exact p.elim
def oExtend : D → List D → Mem → R D
  | .ref i, [d], M => match M[i]?, ownOf M d with
    | some (.lst l), some l' => if l.length + l'.length ≤ 16777216 then .ok .non (M.set i (.lst (l ++ l'))) else .no
    | _, _ => .no
  | _, _, _ => .no
theorem mt1_extend : Mt1 G E rExtend oExtend := fun W H M a u ds us Q m ra r p => by
  unfold oExtend at p
  split at p
  · obtain ⟨v, e1, r1⟩ := rp_one r
    subst e1
    obtain ⟨a1, e2, e3⟩ := ra
    subst e3
    split at p
    · rename_i l l' hc hd
      split at p
      · rename_i hz
        obtain ⟨xs, h1, h2⟩ := m.cell _ _ a1 hc e2
        obtain ⟨b1, ys, h4, h5, h6⟩ := ownOf_ok m r1 hd
        subst h4
        refine ⟨a1, b1, xs, ys, rfl, rfl, h1, h5, by rw [h2.len, h6.len, line_eq]; exact hz, ?_⟩
        have f := Fut.wrote (W := W) (H := H) (o := .lst (xs ++ ys)) e2 h1 trivial
        exact p W _ f (m.wrote e2 ⟨_, upd_same, m.rpL f (h2.append h6)⟩) _ rfl
      · exact p.elim
    · exact p.elim
  · exact p.elim
def strsOf : List D → Option (List (List Nat))
  | [] => some []
  | .str b :: r => (strsOf r).map (b :: ·)
  | _ :: _ => none
theorem strsOf_ok : ∀ {l : List D} {us : List V} {bs : List (List Nat)}, RpL G W H l us → strsOf l = some bs → us = (bs.map l2s).map V.str
  | [], us, bs, r, e => by have : us = [] := r; subst this; cases e; rfl
  | .str b :: l, us, bs, r, e => by
    obtain ⟨u, us', e1, r1, r2⟩ := r
    cases r1
    simp only [strsOf] at e
    cases q : strsOf l with
    | none => rw [q] at e; cases e
    | some bs' =>
      rw [q] at e; cases e
      rw [e1, strsOf_ok r2 q]; rfl
  | .non :: _, _, _, _, e => by cases e
  | .int _ :: _, _, _, _, e => by cases e
  | .bl _ :: _, _, _, _, e => by cases e
  | .tup _ :: _, _, _, _, e => by cases e
  | .lst _ :: _, _, _, _, e => by cases e
  | .fz _ :: _, _, _, _, e => by cases e
  | .ct _ :: _, _, _, _, e => by cases e
  | .ref _ :: _, _, _, _, e => by cases e
def joinL (sep : List Nat) : List (List Nat) → List Nat
  | [] => []
  | [x] => x
  | x :: r => x ++ sep ++ joinL sep r
def oJoin : D → List D → Mem → R D
  | .str sep, [d], M => match (seqOf M d).bind strsOf with
    | some xs => if (xs.map (·.length)).sum + xs.length * sep.length ≤ 16777216 then .ok (.str (joinL sep xs)) M else .no
    | none => .no
  | _, _, _ => .no
end
end Fn
set_option Elab.async false
set_option linter.all false
set_option maxRecDepth 100000
set_option maxHeartbeats 1000000
namespace Fn
open PySem PySem.Spec PyProof.Rows L2
section
variable {X : Cx} {G : Gx} {cl : Nat → Addr} {E : XK} {W : Wd} {H : Hp} {M : Mem} {a b c : Expr} {fa fb fc : FE} {pos : Pos}
theorem join_l2s (sep : List Nat) : ∀ xs : List (List Nat), Str.join (l2s sep) (xs.map l2s) = l2s (joinL sep xs)
  | [] => rfl
  | [x] => rfl
  | x :: y :: r => by
    show l2s x ++ l2s sep ++ Str.join (l2s sep) ((y :: r).map l2s) = l2s (x ++ sep ++ joinL sep (y :: r))
    rw [join_l2s sep (y :: r), l2s_append, l2s_append]
theorem mt1_join : Mt1 G E (fun x xs H Q => ∃ a p, ∃ ys : List Str, x = .str a ∧ xs = [.ref p] ∧ (SqL G.K H p (ys.map V.str) ∨ SqT G.K H p (ys.map V.str)) ∧
    (ys.map (·.length)).sum + ys.length * a.length ≤ 16777216 ∧ Q (.str (PySem.Txt.join a ys)) H) oJoin := fun W H M a u ds us Q m ra r p => by
  unfold oJoin at p
  split at p
  · obtain ⟨v, e1, r1⟩ := rp_one r
    subst e1
    cases ra
    split at p
    · rename_i xs e1
      cases q : seqOf M _ with
      | none => rw [q] at e1; cases e1
      | some l =>
        rw [q] at e1
        obtain ⟨a1, us, h1, h2, h3⟩ := seqOf_ok m r1 q
        subst h1
        have := strsOf_ok h3 e1
        subst this
        split at p
        · rename_i hz
          refine ⟨_, a1, xs.map l2s, rfl, rfl, h2, ?_, p.here m _ ?_⟩
          · rw [List.map_map, List.length_map, l2s_len]
            rw [show (fun x : Str => x.length) ∘ l2s = (·.length) from funext fun x => l2s_len x]
            exact hz
          · show V.str _ = V.str _
            rw [PySem.Txt.join, PySem.StrLaws.glued_eq_join, join_l2s]
        · exact p.elim
    · exact p.elim
  · exact p.elim
theorem op2_inS : Op2 G E (fun x y H Q => ∃ (c : Nat) (z : Str), x = .str ⟨#[c]⟩ ∧ y = .str z ∧ Q (.bl (decide (c ∈ z.cps.toList))) H) (oInS false) := fun W H M a b u v Q m ra rb p => by
  unfold oInS at p
  split at p
  · cases ra; cases rb
    exact ⟨_, _, rfl, rfl, p.here m _ (by rw [l2s_toList]; rfl)⟩
  · exact p.elim
theorem op2_notInS : Op2 G E (fun x y H Q => ∃ (c : Nat) (z : Str), x = .str ⟨#[c]⟩ ∧ y = .str z ∧ Q (.bl (!decide (c ∈ z.cps.toList))) H) (oInS true) := fun W H M a b u v Q m ra rb p => by
  unfold oInS at p
  split at p
  · cases ra; cases rb
    exact ⟨_, _, rfl, rfl, p.here m _ (by rw [l2s_toList]; rfl)⟩
  · exact p.elim
def tyD (M : Mem) : D → Option String
  | .non => some "NoneType"
  | .bl _ => some "bool"
  | .int _ => some "int"
  | .str _ => some "str"
  | .tup _ => some "tuple"
  | .ct _ => some "tuple"
  | .lst _ => some "list"
  | .fz _ => some "list"
  | .ref i => match M[i]? with
    | some (.lst _) => some "list"
    | _ => none
/-- is a of class b, of the classes of data -/
def isTy (a b : String) : Bool := a == b || (a == "bool" && b == "int")
/-- isinstance(e, T) -/
def oIsi (T : String) (d : D) (M : Mem) : R D := match tyD M d with
  | some t => .ok (.bl (isTy t T)) M
  | none => .no
end
end Fn
set_option Elab.async false
set_option linter.all false
set_option maxRecDepth 100000
set_option maxHeartbeats 1000000
namespace Fn
open PySem PySem.Spec PyProof.Rows L2
inductive Flow where
  | nx (env : Env) | bk (env : Env) | ct (env : Env) | rt (d : D)
abbrev FS := Env → Mem → R Flow
abbrev FG := D → Env → Mem → R Env
section
variable {X : Cx} {G : Gx} {cl : Nat → Addr} {E : XK} {W : Wd} {H : Hp} {M : Mem} {a b c : Expr} {fa fb fc : FE} {pos : Pos}
def PFl (G : Gx) (D : Ends) : Flow → Mem → Wd → Hp → Prop
  | .nx env, _, W', H' => ∀ σ', EnvOk G W' H' env σ' → D.nx σ' H'
  | .bk env, _, W', H' => ∀ σ', EnvOk G W' H' env σ' → D.bk σ' H'
  | .ct env, _, W', H' => ∀ σ', EnvOk G W' H' env σ' → D.ct σ' H'
  | .rt d, _, W', H' => ∀ u, Rp G W' H' d u → D.rt u H'
def tS (G : Gx) (E : XK) (f : FS) : TS := fun D σ H => ∃ W env M, Sta G W env M σ H ∧ PR G W H (PFl G D) E (f env M)
/-- slots beside vs stay -/
def PEnv (G : Gx) (vs : List Nat) (σ : L2.St) (Q : L2.St → Hp → Prop) : Env → Mem → Wd → Hp → Prop := fun env _ W' H' => ∀ σ', EnvOk G W' H' env σ' → wipe σ' vs = wipe σ vs → Q σ' H'
def tGt (G : Gx) (E : XK) (vs : List Nat) (f : FG) : TG := fun v σ H Q => ∃ W env M d, Sta G W env M σ H ∧ Rp G W H d v ∧ PR G W H (PEnv G vs σ Q) E (f d env M)
theorem wipe_get (σ : L2.St) (j : Nat) : ∀ vs : List Nat, j ∉ vs → (wipe σ vs)[j]? = σ[j]?
  | [], _ => rfl
  | v :: vs, h => by
    unfold wipe
    rw [List.getElem?_set_ne (fun z => h (by rw [z]; exact List.mem_cons_self ..))]
    exact wipe_get σ j vs fun z => h (List.mem_cons_of_mem _ z)
theorem wipe_in (σ : L2.St) (j : Nat) : ∀ vs : List Nat, j ∈ vs → j < σ.length → (wipe σ vs)[j]? = some none
  | v :: vs, h, hl => by
    unfold wipe
    by_cases e : v = j
    · subst e
      exact List.getElem?_set_self (by rw [wipe_length]; exact hl)
    · rw [List.getElem?_set_ne e]
      exact wipe_in σ j vs ((List.mem_cons.mp h).resolve_left fun z => e z.symm) hl
theorem wipe_ext {σ σ' : L2.St} {vs : List Nat} (hl : σ.length = σ'.length) (h : ∀ j, j ∉ vs → σ[j]? = σ'[j]?) : wipe σ vs = wipe σ' vs := by
  apply List.ext_getElem?
  intro j
  by_cases hj : j ∈ vs
  · by_cases hb : j < σ.length
    · rw [wipe_in σ j vs hj hb, wipe_in σ' j vs hj (by omega)]
    · rw [List.getElem?_eq_none (by rw [wipe_length]; omega), List.getElem?_eq_none (by rw [wipe_length]; omega)]
  · rw [wipe_get σ j vs hj, wipe_get σ' j vs hj, h j hj]
theorem wipe_set {σ : L2.St} {vs : List Nat} {i : Nat} {x : Option V} (hi : i ∈ vs) : wipe (σ.set i x) vs = wipe σ vs :=
  wipe_ext (by simp) fun j hj => List.getElem?_set_ne (fun z => hj (by rw [← z]; exact hi))
theorem pg_imp {e : Expr} {t t' : TG} (h : PG X e t) (i : ∀ v σ H Q, t' v σ H Q → t v σ H Q) : PG X e t' := ⟨fun pins s σ H v u Q I r q => h.run pins s σ H v u Q I r (i v σ H Q q)⟩
theorem EnvOk.set {env : Env} {σ : L2.St} {d : D} {u : V} (h : EnvOk G W H env σ) (i : Nat) (r : Rp G W H d u) : EnvOk G W H (env.set i (some d)) (σ.set i (some u)) := by
  refine ⟨by simp [h.1], fun j d' e => ?_⟩
  by_cases hj : i = j
  · subst hj
    by_cases hl : i < env.length
    · rw [List.getElem?_set_self hl] at e
      cases e
      exact ⟨u, List.getElem?_set_self (by rw [← h.1]; exact hl), r⟩
    · rw [List.set_eq_of_length_le (by omega)] at e
      rw [List.getElem?_eq_none (by omega)] at e
      cases e
  · rw [List.getElem?_set_ne hj] at e ⊢
    exact h.2 j d' e
def gN (i : Nat) : FG := fun d env M => .ok (env.set i (some d)) M
theorem sg_name {i : Nat} {x : Str} {pos : Pos} {vs : List Nat} (h : PG X (.Name x pos) (gName i)) (hv : i ∈ vs) : PG X (.Name x pos) (tGt G E vs (gN i)) := pg_imp h fun v σ H Q ⟨W, env, M, d, s, r, p⟩ => p.here s.mem _ (s.env.set i r) (wipe_set hv)
abbrev FGs := List D → Env → Mem → R Env
def tGts (G : Gx) (E : XK) (sl : List Nat) (f : FGs) : TGs := fun vs σ H Q => ∃ W env M ds, Sta G W env M σ H ∧ RpL G W H ds vs ∧ PR G W H (PEnv G sl σ Q) E (f ds env M)
theorem pgs_imp {e : List Expr} {t t' : TGs} (h : PGs X e t) (i : ∀ v σ H Q, t' v σ H Q → t v σ H Q) : PGs X e t' := ⟨fun pins s σ H v u Q I r q => h.run pins s σ H v u Q I r (i v σ H Q q)⟩
def gsNil : FGs := fun ds env M => match ds with
  | [] => .ok env M
  | _ => .no
def gsCons (f : FG) (g : FGs) : FGs := fun ds env M => match ds with
  | d :: r => (f d env M).bind fun env' m => g r env' m
  | [] => .no
theorem sgs_nil {vs : List Nat} : PGs X [] (tGts G E vs gsNil) := pgs_imp pgs_nil fun v σ H Q ⟨W, env, M, ds, s, r, p⟩ => by
  unfold gsNil at p
  split at p
  · have : v = [] := r
    subst this
    exact ⟨rfl, p.here s.mem _ s.env rfl⟩
  · exact p.elim
theorem sgs_cons {e : Expr} {es : List Expr} {f : FG} {g : FGs} {sl : List Nat} (h1 : PG X e (tGt G E sl f)) (h2 : PGs X es (tGts G E sl g))
    (hs : (assignEach (e :: es) X.env).map (·.2) = assign e X.env :: (assignEach es X.env).map (·.2) := by rfl) : PGs X (e :: es) (tGts G E sl (gsCons f g)) := pgs_imp (pgs_cons h1 h2 hs) fun v σ H Q ⟨W, env, M, ds, s, r, p⟩ => by
  unfold gsCons at p
  split at p
  · rename_i d r'
    obtain ⟨u, us, e1, r1, r2⟩ := r
    refine ⟨u, us, e1, W, env, M, d, s, r1, PR.bind p fun env' m W1 H1 f1 k1 p1 => fun σ' en ew => ?_⟩
    refine ⟨W1, env', m, r', ⟨k1, en⟩, s.mem.rpL f1 r2, PR.mono p1 fun env2 m2 W2 H2 f2 k2 q σ2 en2 ew2 => q σ2 en2 (ew2.trans ew)⟩
  · exact p.elim
def gT (n : Nat) (g : FGs) : FG := fun d env M => match d with
  | .tup l => if l.length = n then g l env M else .no
  | .ct l => if l.length = n then g l env M else .no
  | _ => .no
theorem sg_tup {es : List Expr} {k : Nat} {g : FGs} {n : Nat} {sl : List Nat} (hc : X.calm = true) (h : PGs X es (tGts ⟨X.K, cl⟩ E sl g))
    (hn : (assignEach es X.env).length = n := by rfl) (hst : (assignEach es X.env).findIdx? (·.1) = none := by rfl) : PG X (.Tuple es k pos) (tGt ⟨X.K, cl⟩ E sl (gT n g)) := pg_imp (pg_tup hc h hn hst) fun v σ H Q ⟨W, env, M, d, s, r, p⟩ => by
  unfold gT at p
  split at p
  · rename_i l
    obtain ⟨a1, us, e1, s1, r1⟩ := r
    split at p
    · rename_i hl
      exact ⟨a1, us, e1, s1.sq, by rw [r1.len, hl], W, env, M, l, s, r1, p⟩
    · exact p.elim
  · rename_i l
    obtain ⟨a1, us, e1, s1, r1⟩ := r
    split at p
    · rename_i hl
      exact ⟨a1, us, e1, s1.sq, by rw [r1.len, hl], W, env, M, l, s, r1, p⟩
    · exact p.elim
  · exact p.elim
/-- x[i] = v of a list -/
def gIx (fo fi : FE) : FG := fun d env M => (fo env M).bind fun o m => (fi env m).bind fun i m' => match o, i with
  | .ref j, .int k => match m'[j]? with
    | some (.lst l) => match ixN l.length k with
      | some n => .ok env (m'.set j (.lst (l.set n d)))
      | none => .no
    | _ => .no
  | _, _ => .no
theorem sg_ix {sl : List Nat} (ha : PE X a (tE G E fa)) (hb : PE X b (tE G E fb)) (hs : ∀ v, assign (.Subscript a b pos) X.env v = (do
      let ov ← holding [v] (eval a X.env)
      let iv ← holding [v, ov] (eval b X.env)
      standAt pos
      holding [v, ov, iv] (setItem ov iv v)
      release [v, ov, iv] []) := by intro _; rfl) : PG X (.Subscript a b pos) (tGt G E sl (gIx fa fb)) := pg_imp (pg_sub ha hb set_list hs) fun v σ H Q ⟨W, env, M, d, s, r, p⟩ => by
  refine tE.bind s p fun o m W1 H1 u1 f1 s1 r1 p1 => ?_
  refine tE.bind s1 p1 fun i m2 W2 H2 u2 f2 s2 r2 p2 => ?_
  split at p2
  · rename_i j k
    split at p2
    · rename_i l hc
      split at p2
      · rename_i n hn
        obtain ⟨a1, e1, e2⟩ := s1.mem.rp f2 r1
        subst e2; cases r2
        obtain ⟨us, h1, h2⟩ := s2.mem.cell _ _ a1 hc e1
        refine ⟨a1, us, k, n, rfl, rfl, h1, by rw [h2.len]; exact hn, ?_⟩
        have f := Fut.wrote (W := W2) (H := H2) (o := .lst (us.set n v)) e1 h1 trivial
        exact p2 W2 _ f (s2.mem.wrote e1 ⟨_, upd_same, s2.mem.rpL f (h2.set n (s1.mem.rp f2 (s.mem.rp f1 r)))⟩) _ (s2.env.fut s2.mem f) rfl
      · exact p2.elim
    · exact p2.elim
  · exact p2.elim
def mSet (i : Nat) (f : FE) : FS := fun env M => (f env M).bind fun d m => .ok (.nx (env.set i (some d))) m
theorem ss_set {i : Nat} {x : Str} {pos' : Pos} (ha : PE X a (tE G E fa)) (hN : X.N.Nodup) (hi : X.N[i]? = some x) (hx : Loc X.env.scope x) (hs : swapsWith a (some (.Name x pos')) pos.line X.env = pure false := by rfl) (hf : X.fn x = true ∨ X.env.scope.names.lookup x = some .local := by first | exact .inl rfl | exact .inr rfl | assumption) :
    PS X (.Assign [.Name x pos'] a pos) (tS G E (mSet i fa)) := ps_imp (ps_set hN hi hx ha hs hf) fun D σ H ⟨W, env, M, s, p⟩ => by
  refine tE.bind s p fun d m W1 H1 u f1 s1 r1 p1 => ?_
  exact p1.here s1.mem _ (s1.env.set i r1)
def mAsg (f : FE) (g : FG) : FS := fun env M => (f env M).bind fun d m => (g d env m).bind fun env' m' => .ok (.nx env') m'
theorem ss_asg {tg : Expr} {g : FG} {sl : List Nat} (ha : PE X a (tE G E fa)) (hg : PG X tg (tGt G E sl g)) (hs : swapsWithSole [tg] a pos.line X.env = pure false := by rfl) (hw : swappedStores [tg] a X.env = pure none := by rfl)
    (h1 : (assignEach [tg] X.env).map (·.2) = [assign tg X.env] := by rfl) : PS X (.Assign [tg] a pos) (tS G E (mAsg fa g)) := ps_imp (ps_asg ha hg hs hw h1) fun D σ H ⟨W, env, M, s, p⟩ => by
  refine tE.bind s p fun d m W1 H1 u f1 s1 r1 p1 => ?_
  refine ⟨W1, env, m, d, s1, r1, PR.bind p1 fun env' m2 W2 H2 f2 k2 p2 => fun σ' en _ => ?_⟩
  exact p2.here k2 _ en
/-- a, b = e, e': no tuple is made -/
def mPar (i j : Nat) (g : FA) : FS := fun env M => (g env M).bind fun ds m => match ds with
  | [d, d'] => .ok (.nx ((env.set i (some d)).set j (some d'))) m
  | _ => .no
theorem ss_par {i j : Nat} {x y : Str} {g : FA} {px py pt : Pos} {kt k2 pt2} (hc : X.calm = true) (hN : X.N.Nodup) (hi : X.N[i]? = some x) (hj : X.N[j]? = some y) (hij : i ≠ j)
    (hx : X.env.scope.names.lookup x = some .local) (hy : X.env.scope.names.lookup y = some .local) (ha : PA X [a, b] (tA G E g))
    (hw : swappedStores [.Tuple [.Name x px, .Name y py] kt pt] (.Tuple [a, b] k2 pt2) X.env = pure (some [x, y]))
    (hs : swapsWithSole [.Tuple [.Name x px, .Name y py] kt pt] (.Tuple [a, b] k2 pt2) pos.line X.env = pure false := by rfl) :
    PS X (.Assign [.Tuple [.Name x px, .Name y py] kt pt] (.Tuple [a, b] k2 pt2) pos) (tS G E (mPar i j g)) := ps_imp (ps_par hc hN hi hj hij hx hy ha hw hs) fun D σ H ⟨W, env, M, s, p⟩ => by
  refine tA.bind s p fun ds m W1 H1 us f1 s1 r1 p1 => ?_
  split at p1
  · rename_i d d'
    obtain ⟨u, us', e1, r2, u', us2, e2, r3, r4⟩ := r1
    have : us2 = [] := r4
    subst this e2 e1
    exact ⟨u, u', rfl, p1.here s1.mem _ ((s1.env.set i r2).set j r3)⟩
  · exact p1.elim
def mExpr (f : FE) : FS := fun env M => (f env M).bind fun _ m => .ok (.nx env) m
theorem ss_expr (ha : PE X a (tE G E fa)) (hs : swapsWith a none pos.line X.env = pure false := by rfl) : PS X (.Expr a pos) (tS G E (mExpr fa)) := ps_imp (ps_expr ha hs) fun D σ H ⟨W, env, M, s, p⟩ => by
  refine tE.bind s p fun d m W1 H1 u f1 s1 r1 p1 => ?_
  exact p1.here s1.mem _ s1.env
def mRet (f : FE) : FS := fun env M => (f env M).bind fun d m => .ok (.rt d) m
theorem ss_ret (ha : PE X a (tE G E fa)) : PS X (.Return (some a) pos) (tS G E (mRet fa)) := ps_imp (ps_ret ha) fun D σ H ⟨W, env, M, s, p⟩ => by
  refine tE.bind s p fun d m W1 H1 u f1 s1 r1 p1 => ?_
  exact p1.here s1.mem _ r1
def mRetN : FS := fun _ M => .ok (.rt .non) M
theorem ss_retN : PS X (.Return none pos) (tS G E mRetN) := ps_imp ps_retN fun D σ H ⟨W, env, M, s, p⟩ => p.here s.mem _ rfl
def mPass : FS := fun env M => .ok (.nx env) M
def mSeq (f g : FS) : FS := fun env M => (f env M).bind fun fl m => match fl with
  | .nx env' => g env' m
  | fl => .ok fl m
theorem sb_nil : PSs X [] (tS G E mPass) := pss_imp pss_nil fun D σ H ⟨W, env, M, s, p⟩ => p.here s.mem _ s.env
theorem sb_one {st : Stmt} {f : FS} (h : PS X st (tS G E f)) : PSs X [st] (tS G E f) := pss_one h
theorem sb_cons {st : Stmt} {r : List Stmt} {f g : FS} (h : PS X st (tS G E f)) (h2 : PSs X r (tS G E g)) : PSs X (st :: r) (tS G E (mSeq f g)) := pss_imp (pss_cons h h2) fun D σ H ⟨W, env, M, s, p⟩ => by
  refine ⟨W, env, M, s, PR.bind p fun fl m W1 H1 f1 k1 p1 => ?_⟩
  cases fl with
  | nx env' => exact fun σ' en => ⟨W1, env', m, ⟨k1, en⟩, p1⟩
  | bk env' => exact PR.here (E := E) k1 p1
  | ct env' => exact PR.here (E := E) k1 p1
  | rt d => exact PR.here (E := E) k1 p1
def mIfS (c : FT) (f g : FS) : FS := fun env M => (c env M).bind fun b m => if b = true then f env m else g env m
theorem ss_if {gc : FT} {f g : FS} {st1 st2 : List Stmt} (hc : PT X c (tT G E gc)) (ha : PSs X st1 (tS G E f)) (hb : PSs X st2 (tS G E g)) : PS X (.If c st1 st2 pos) (tS G E (mIfS gc f g)) := ps_imp (ps_if hc ha hb) fun D σ H ⟨W, env, M, s, p⟩ => by
  refine tT.bind s p fun k m W1 H1 f1 s1 p1 => ?_
  cases k with
  | true => rw [if_pos rfl] at p1 ⊢; exact ⟨W1, env, m, s1, p1⟩
  | false => rw [if_neg Bool.false_ne_true] at p1 ⊢; exact ⟨W1, env, m, s1, p1⟩
/-- x op= e of a name: as x = x op e -/
def mAug (i : Nat) (o : D → D → Mem → R D) (f : FE) : FS := fun env M => match env[i]? with
  | some (some x) => (f env M).bind fun d m => (o x d m).bind fun z m' => .ok (.nx (env.set i (some z))) m'
  | _ => .no
def Ip2 (G : Gx) (E : XK) (r : TIp) (o : D → D → Mem → R D) : Prop := ∀ W H M a b u v Q, MemOk G W H M → Rp G W H a u → Rp G W H b v → PR G W H (PV G Q) E (o a b M) → r u v H Q
theorem ss_aug {i : Nat} {x : Str} {op : Operator} {ti : TIp} {o : D → D → Mem → R D} {pos' : Pos} (hi2 : Ip2 G E ti o) (ha : PE X a (tE G E fa)) (ho : PIp X op ti) (hN : X.N.Nodup) (hi : X.N[i]? = some x) (hx : Loc X.env.scope x) (hf : X.fn x = true ∨ X.env.scope.names.lookup x = some .local := by first | exact .inl rfl | exact .inr rfl | assumption) :
    PS X (.AugAssign (.Name x pos') op a pos) (tS G E (mAug i o fa)) := ps_imp (ps_aug hN hi hx ha ho hf) fun D σ H ⟨W, env, M, s, p⟩ => by
  unfold mAug at p
  split at p
  · rename_i d e
    obtain ⟨u, h1, h2⟩ := s.env.2 i d e
    refine ⟨u, h1, ?_⟩
    refine tE.bind s p fun d2 m W1 H1 u2 f1 s1 r1 p1 => ?_
    refine hi2 W1 H1 m d d2 u u2 _ s1.mem (s.mem.rp f1 h2) r1 (PR.bind p1 fun z m2 W2 H2 f2 k2 p2 => fun w rw_ => ?_)
    exact p2.here k2 _ ((s1.env.fut s1.mem f2).set i rw_)
  · exact p.elim
theorem ip2_add : Ip2 G E (ipI fun i j => i + j) (oI fun i j => .int (i + j)) := fun W H M a b u v Q m ra rb p => by
  cases a <;> cases b <;> first
    | exact p.elim
    | exact ⟨_, _, ra, rb, p.here m _ rfl⟩
def whileM (c : FT) (body : FS) : Nat → Env → Mem → R Flow
  | 0, _, _ => .no
  | n + 1, env, M => (c env M).bind fun b m => if b = true then (body env m).bind fun fl m' => match fl with
      | .nx env' => whileM c body n env' m'
      | .ct env' => whileM c body n env' m'
      | .bk env' => .ok (.nx env') m'
      | .rt d => .ok (.rt d) m'
    else .ok (.nx env) m
def mWhile (c : FT) (body : FS) : FS := whileM c body 1000000000
theorem ss_while {gc : FT} {f : FS} {st : List Stmt} (hp : PassesOwn (model X.prog X.w) X.A X.env X.xe) (hc : PT X c (tT G E gc)) (hb : PSs X st (tS G E f)) : PS X (.While c st [] pos) (tS G E (mWhile gc f)) := ps_imp (ps_while hp hc hb) fun D σ H ⟨W, env, M, s, p⟩ => by
  refine ⟨fun n σ' H' => ∃ W env M, Sta G W env M σ' H' ∧ PR G W H' (PFl G D) E (whileM gc f n env M), ⟨1000000000, W, env, M, s, p⟩, ?_⟩
  rintro n σ' H' ⟨W, env, M, s, p⟩
  cases n with
  | zero => exact p.elim
  | succ n =>
    refine tT.bind s p fun k m W1 H1 f1 s1 p1 => ?_
    cases k with
    | true =>
      rw [if_pos rfl] at p1 ⊢
      refine ⟨fun σ2 H2 => ∃ W env M, Sta G W env M σ2 H2 ∧ PR G W H2 (PFl G D) E (whileM gc f n env M), fun σ2 H2 h => ⟨n, Nat.lt_succ_self n, h⟩, ?_⟩
      refine ⟨W1, env, m, s1, PR.bind p1 fun fl m2 W2 H2 f2 k2 p2 => ?_⟩
      cases fl with
      | nx env' => exact fun σ3 en => ⟨W2, env', m2, ⟨k2, en⟩, p2⟩
      | ct env' => exact fun σ3 en => ⟨W2, env', m2, ⟨k2, en⟩, p2⟩
      | bk env' => exact PR.here (E := E) k2 p2
      | rt d => exact PR.here (E := E) k2 p2
    | false =>
      rw [if_neg Bool.false_ne_true] at p1 ⊢
      exact p1.here s1.mem _ s1.env
end
end Fn
set_option Elab.async false
set_option linter.all false
set_option maxRecDepth 100000
set_option maxHeartbeats 1000000
namespace Fn
open PySem PySem.Spec PyProof.Rows L2
/-- what is walked: its items; what must stay true of the memory meanwhile -/
structure Src where
  items : List D
  still : Mem → Prop
abbrev FI := Env → Mem → R Src
section
variable {X : Cx} {G : Gx} {cl : Nat → Addr} {E : XK} {W : Wd} {H : Hp} {M : Mem} {a b c : Expr} {fa fb fc : FE} {pos : Pos}
/-- what is locked stays -/
def Lk (H H' : Hp) : Prop := ∀ a od u, H a = some (.frz od u) → H' a = some (.frz od u)
structure SrcOk (G : Gx) (W0 : Wd) (H0 : Hp) (src : Src) (J : It) : Prop where
  item : ∀ W H M, Kp W0 H0 W H → Lk H0 H → MemOk G W H M → src.still M → ∀ (i : Nat) d, src.items[i]? = some d → J.go i H ∧ ∀ x H', J.yld i H x H' → Fut W H W H' ∧ MemOk G W H' M ∧ Rp G W H' d x
  stop : ∀ W H M, Kp W0 H0 W H → Lk H0 H → MemOk G W H M → src.still M → J.stop src.items.length H
def PI' (G : Gx) (Rr : It → Hp → Prop) : Src → Mem → Wd → Hp → Prop := fun src M W H => ∀ J, SrcOk G W H src J → src.still M → Rr J H
def tI (G : Gx) (E : XK) (f : FI) : TI := fun σ H Rr => ∃ W env M, Sta G W env M σ H ∧ PR G W H (PI' G Rr) E (f env M)
theorem pi_imp {tg it : Expr} {t t' : TI} (h : PI X tg it t) (i : ∀ σ H Q, t' σ H Q → t σ H Q) : PI X tg it t' := ⟨fun pins s σ H Q I q => h.run pins s σ H Q I (i σ H Q q)⟩
/-- a list or a tuple -/
def iSeq (K : PySem.W.Frag) (tl : TE) : TI := fun σ H R => tl σ H fun x H1 => ∃ a, x = .ref a ∧ (((∃ xs, SqL K H1 a xs) ∧ R (Itl K a) H1) ∨ ((∃ xs, SqT K H1 a xs) ∧ R (Itt K a) H1))
theorem pi_seq {tg l : Expr} {tl : TE} (hl : PE X l tl) : PI X tg l (iSeq X.K tl) := by
  refine ⟨fun pins s σ H R I h => ?_⟩
  refine thn (hl.run pins s σ H _ I h) fun v s1 ⟨x, H1, I1, r1, q1⟩ => ?_
  obtain ⟨a, e, q⟩ := q1
  subst e
  cases r1
  rcases q with ⟨⟨xs, hq⟩, q⟩ | ⟨⟨xs, hq⟩, q⟩
  · obtain ⟨its, rv, p, hz⟩ := I1.list hq
    refine wpAny_pyIter_list p.isList ?_
    refine ⟨s1.heap.objs.size, [s1.heap.objs.size], _, _, H1, rfl, I1.kept (t' := s1.toks) fun b o e => Heap.get?_push_of_some _ e, turn_list a _, ⟨_, Heap.get?_push_size _ rfl, rfl, rfl⟩, fun b hb => ?_, q⟩
    have e : b = s1.heap.objs.size := by simpa using hb
    subst e
    exact I1.fpOk (Nat.le_refl _) (I1.hok.fresh (Nat.le_refl _))
  · obtain ⟨its, rv, p, hz⟩ := I1.tuple hq
    refine wpAny_pyIter_tuple (show s1.heap.IsTuple a its.toArray from p) ?_
    refine ⟨s1.heap.objs.size, [s1.heap.objs.size], _, _, H1, rfl, I1.kept (t' := s1.toks) fun b o e => Heap.get?_push_of_some _ e, turn_tuple a _, ⟨_, Heap.get?_push_size _ rfl, rfl, rfl⟩, fun b hb => ?_, q⟩
    have e : b = s1.heap.objs.size := by simpa using hb
    subst e
    exact I1.fpOk (Nat.le_refl _) (I1.hok.fresh (Nat.le_refl _))
/-- the items of a list or tuple, walked -/
def srcOf (M : Mem) (d : D) : Option Src := match d with
  | .tup l => some ⟨l, fun _ => True⟩
  | .ct l => some ⟨l, fun _ => True⟩
  | .lst l => some ⟨l, fun _ => True⟩
  | .fz l => some ⟨l, fun _ => True⟩
  | .ref i => match M[i]? with
    | some (.lst l) => some ⟨l, fun M' => M'[i]? = some (.lst l)⟩
    | _ => none
  | _ => none
def iSq (f : FE) : FI := fun env M => (f env M).bind fun d m => match srcOf m d with
  | some s => .ok s m
  | none => .no
theorem src_itl {W0 : Wd} {H0 : Hp} {src : Src} {a : Addr} (h : ∀ W H M, Kp W0 H0 W H → MemOk G W H M → src.still M → ∃ us, SqL G.K H a us ∧ RpL G W H src.items us) : SrcOk G W0 H0 src (Itl G.K a) where
  item := fun W H M f _ m st i d e => by
    obtain ⟨us, h1, h2⟩ := h W H M f m st
    obtain ⟨u, e2, r2⟩ := h2.get e
    refine ⟨⟨us, u, h1, e2⟩, fun x H' y => ?_⟩
    obtain ⟨rfl, y⟩ := y
    have := y us h1
    rw [e2] at this; cases this
    exact ⟨Fut.rfl', m, r2⟩
  stop := fun W H M f _ m st => by
    obtain ⟨us, h1, h2⟩ := h W H M f m st
    exact ⟨us, h1, by rw [h2.len]; exact Nat.le_refl _⟩
theorem src_itt {W0 : Wd} {H0 : Hp} {src : Src} {a : Addr} (h : ∀ W H M, Kp W0 H0 W H → MemOk G W H M → src.still M → ∃ us, SqT G.K H a us ∧ RpL G W H src.items us) : SrcOk G W0 H0 src (Itt G.K a) where
  item := fun W H M f _ m st i d e => by
    obtain ⟨us, h1, h2⟩ := h W H M f m st
    obtain ⟨u, e2, r2⟩ := h2.get e
    refine ⟨⟨us, u, h1, e2⟩, fun x H' y => ?_⟩
    obtain ⟨rfl, y⟩ := y
    have := y us h1
    rw [e2] at this; cases this
    exact ⟨Fut.rfl', m, r2⟩
  stop := fun W H M f _ m st => by
    obtain ⟨us, h1, h2⟩ := h W H M f m st
    exact ⟨us, h1, by rw [h2.len]; exact Nat.le_refl _⟩
theorem srcOf_ok (m : MemOk G W H M) {d : D} {u : V} {src : Src} (r : Rp G W H d u) (e : srcOf M d = some src) :
    src.still M ∧ ∃ a, u = .ref a ∧ (((∃ xs, SqL G.K H a xs) ∧ SrcOk G W H src (Itl G.K a)) ∨ ((∃ xs, SqT G.K H a xs) ∧ SrcOk G W H src (Itt G.K a))) := by
  cases d with
  | tup l =>
    cases e
    obtain ⟨a, us, e1, s1, r1⟩ := id r
    refine ⟨trivial, a, e1, .inr ⟨⟨us, s1.sq⟩, src_itt fun W2 H2 M2 f2 m2 _ => ?_⟩⟩
    obtain ⟨a', us', e', s', r'⟩ := Rp.kp f2 _ _ r
    rw [e1] at e'; cases e'
    exact ⟨us', s'.sq, r'⟩
  | ct l =>
    cases e
    obtain ⟨a, us, e1, s1, r1⟩ := id r
    refine ⟨trivial, a, e1, .inr ⟨⟨us, s1.sq⟩, src_itt fun W2 H2 M2 f2 m2 _ => ?_⟩⟩
    obtain ⟨a', us', e', s', r'⟩ := Rp.kp f2 _ _ r
    rw [e1] at e'; cases e'
    exact ⟨us', s'.sq, r'⟩
  | lst l =>
    cases e
    obtain ⟨a, us, e1, s1, r1⟩ := id r
    refine ⟨trivial, a, e1, .inl ⟨⟨us, .inl (.inl s1.1)⟩, src_itl fun W2 H2 M2 f2 m2 _ => ?_⟩⟩
    obtain ⟨a', us', e', s', r'⟩ := Rp.kp f2 _ _ r
    rw [e1] at e'; cases e'
    exact ⟨us', .inl (.inl s'.1), r'⟩
  | fz l =>
    cases e
    obtain ⟨a, us, e1, s1, r1⟩ := lstOf_ok m (d := .fz l) r rfl
    refine ⟨trivial, a, e1, .inl ⟨⟨us, s1⟩, src_itl fun W2 H2 M2 f2 m2 _ => ?_⟩⟩
    obtain ⟨a', us', e', s', r'⟩ := lstOf_ok m2 (d := .fz l) (Rp.kp f2 _ _ r) rfl
    rw [e1] at e'; cases e'
    exact ⟨us', s', r'⟩
  | ref i =>
    simp only [srcOf] at e
    split at e
    · rename_i l hc
      cases e
      obtain ⟨a, e1, e2⟩ := id r
      obtain ⟨us, h1, h2⟩ := m.cell i _ a hc e1
      refine ⟨hc, a, e2, .inl ⟨⟨us, .inl (.inl h1)⟩, src_itl fun W2 H2 M2 f2 m2 st => ?_⟩⟩
      obtain ⟨us', h1', h2'⟩ := m2.cell i _ a st (f2.get _ _ e1)
      exact ⟨us', .inl (.inl h1'), h2'⟩
    · cases e
  | _ => cases e
theorem si_seq {tg : Expr} (ha : PE X a (tE ⟨X.K, cl⟩ E fa)) : PI X tg a (tI ⟨X.K, cl⟩ E (iSq fa)) := pi_imp (pi_seq ha) fun σ H Rr ⟨W, env, M, s, p⟩ => by
  refine tE.bind s p fun d m W1 H1 u f1 s1 r1 p1 => ?_
  split at p1
  · rename_i src e
    obtain ⟨st, a1, e1, q⟩ := srcOf_ok s1.mem r1 e
    have k := p1.here s1.mem
    refine ⟨a1, e1, ?_⟩
    rcases q with ⟨h1, h2⟩ | ⟨h1, h2⟩
    · exact .inl ⟨h1, k _ h2 st⟩
    · exact .inr ⟨h1, k _ h2 st⟩
  · exact p1.elim
/-- a text, sign by sign -/
def iStrM (f : FE) : FI := fun env M => (f env M).bind fun d m => match d with
  | .str x => .ok ⟨x.map fun c => .str [c], fun _ => True⟩ m
  | _ => .no
def rngItems (lo : Int) (n : Nat) : List D := (List.range n).map fun i : Nat => .int (lo + (i : Int))
theorem src_rng {W0 : Wd} {H0 : Hp} (lo : Int) (n : Nat) : SrcOk G W0 H0 ⟨rngItems lo n, fun _ => True⟩ (Itr lo n) where
  item := fun W H M f _ m _ i d e => by
    have e' : (rngItems lo n)[i]? = some d := e
    unfold rngItems at e'
    rw [List.getElem?_map] at e'
    cases q : (List.range n)[i]? with
    | none => rw [q] at e'; cases e'
    | some k =>
      rw [q] at e'; cases e'
      obtain ⟨h1, h2⟩ := List.getElem?_eq_some_iff.mp q
      simp at h1 h2
      subst h2
      refine ⟨h1, fun x H' y => ?_⟩
      obtain ⟨rfl, rfl⟩ := y
      exact ⟨Fut.rfl', m, rfl⟩
  stop := fun W H M f _ m _ => by
    show n ≤ (rngItems lo n).length
    simp [rngItems]
def rngOk (i : Int) : Bool := decide (-(2 ^ 62) ≤ i) && decide (i < 2 ^ 62)
theorem rngOk_ok {i : Int} (h : rngOk i = true) : -(2 ^ 62) ≤ i ∧ i < 2 ^ 62 := by
  unfold rngOk at h
  simp only [Bool.and_eq_true, decide_eq_true_eq] at h
  exact h
def iR1 (g : FA) : FI := fun env M => (g env M).bind fun ds m => match ds with
  | [.int j] => if rngOk j = true then .ok ⟨rngItems 0 j.toNat, fun _ => True⟩ m else .no
  | _ => .no
def iR2 (g : FA) : FI := fun env M => (g env M).bind fun ds m => match ds with
  | [.int i, .int j] => if rngOk i = true ∧ rngOk j = true then .ok ⟨rngItems i (j - i).toNat, fun _ => True⟩ m else .no
  | _ => .no
theorem si_range1 {tg : Expr} {g : FA} {p : Pos} (hg : Gl X "range") (hm : X.mg "range" = none) (ha : PA X [a] (tA G E g)) (hs : starEach [a] X.env = [(false, eval a X.env)] := by rfl) : PI X tg (.Call (.Name "range" p) [a] [] pos) (tI G E (iR1 g)) :=
  pi_imp (pi_range1 hg hm ha hs) fun σ H Rr ⟨W, env, M, s, p⟩ => by
    refine tA.bind s p fun ds m W1 H1 us f1 s1 r1 p1 => ?_
    split at p1
    · rename_i j
      split at p1
      · rename_i hj
        obtain ⟨u, e1, r2⟩ := rp_one r1
        subst e1; cases r2
        exact ⟨j, rfl, (rngOk_ok hj).1, (rngOk_ok hj).2, p1.here s1.mem _ (src_rng 0 j.toNat) trivial⟩
      · exact p1.elim
    · exact p1.elim
theorem si_range2 {tg : Expr} {g : FA} {p : Pos} (hg : Gl X "range") (hm : X.mg "range" = none) (ha : PA X [a, b] (tA G E g)) (hs : starEach [a, b] X.env = [(false, eval a X.env), (false, eval b X.env)] := by rfl) (hs2 : starEach [b] X.env = [(false, eval b X.env)] := by rfl) : PI X tg (.Call (.Name "range" p) [a, b] [] pos) (tI G E (iR2 g)) :=
  pi_imp (pi_range2 hg hm ha hs hs2) fun σ H Rr ⟨W, env, M, s, p⟩ => by
    refine tA.bind s p fun ds m W1 H1 us f1 s1 r1 p1 => ?_
    split at p1
    · rename_i i j
      split at p1
      · rename_i hj
        obtain ⟨u, us', e1, r2, v, us2, e2, r3, r4⟩ := r1
        have : us2 = [] := r4
        subst this e2 e1
        cases r2; cases r3
        exact ⟨i, j, rfl, ⟨(rngOk_ok hj.1).1, (rngOk_ok hj.1).2, (rngOk_ok hj.2).1, (rngOk_ok hj.2).2⟩, p1.here s1.mem _ (src_rng i (j - i).toNat) trivial⟩
      · exact p1.elim
    · exact p1.elim
open Classical in
noncomputable def forL (P : Mem → Prop) (g : FG) (body : FS) : List D → Env → Mem → R Flow
  | [], env, M => if P M then .ok (.nx env) M else .no
  | d :: r, env, M => if P M then (g d env M).bind fun env1 m1 => (body env1 m1).bind fun fl m => match fl with
      | .nx env' => forL P g body r env' m
      | .ct env' => forL P g body r env' m
      | .bk env' => .ok (.nx env') m
      | .rt d => .ok (.rt d) m
    else .no
noncomputable def mFor (f : FI) (g : FG) (body : FS) : FS := fun env M => (f env M).bind fun src m => forL src.still g body src.items env m
theorem ss_for {tg it : Expr} {f : FI} {g : FG} {body : FS} {st : List Stmt} {sl : List Nat} (hp : PassesOwn (model X.prog X.w) X.A X.env X.xe) (hc : X.calm = true) (hi : PI X tg it (tI G E f)) (hg : PG X tg (tGt G E sl g)) (hb : PSs X st (tS G E body))
    (hs : ∀ x, foldedSetIterable it X.env x = pure x := by intro _; rfl) : PS X (.For tg it st [] pos) (tS G E (mFor f g body)) := ps_imp (ps_for hp hc hi hg hb hs) fun D σ H ⟨W, env, M, s, p⟩ => by
  refine ⟨W, env, M, s, PR.bind p fun src m W0 H0 f0 k0 p0 => fun J sj st0 => ?_⟩
  have s0 := s.fut f0 k0
  refine ⟨fun i n σ' H' => n + i = src.items.length ∧ ∃ W env M, Fut W0 H0 W H' ∧ Sta G W env M σ' H' ∧ PR G W H' (PFl G D) E (forL src.still g body (src.items.drop i) env M), ⟨src.items.length, rfl, W0, env, m, Fut.rfl', s0, p0⟩, ?_⟩
  rintro i n σ' H' ⟨hn, W1, env1, M1, f1, s1, p1⟩
  cases hd : src.items.drop i with
  | nil =>
    rw [hd] at p1
    unfold forL at p1
    split at p1
    · rename_i hP
      have hl : src.items.length ≤ i := List.drop_eq_nil_iff.mp hd
      have : i = src.items.length := by omega
      subst this
      exact .inl ⟨sj.stop W1 H' M1 (f1.kp k0) f1.lk s1.mem hP, p1.here s1.mem _ s1.env⟩
    · exact p1.elim
  | cons d r =>
    rw [hd] at p1
    unfold forL at p1
    split at p1
    · rename_i hP
      have hi' : src.items[i]? = some d := by
        have h0 : (src.items.drop i)[0]? = some d := by rw [hd]; rfl
        rw [List.getElem?_drop] at h0
        simpa using h0
      have hr : src.items.drop (i + 1) = r := by
        rw [← List.tail_drop, hd]; rfl
      have hlt : i < src.items.length := (List.getElem?_eq_some_iff.mp hi').1
      obtain ⟨go, yl⟩ := sj.item W1 H' M1 (f1.kp k0) f1.lk s1.mem hP i d hi'
      refine .inr ⟨go, fun σ2 H2 => ∃ W env M, Fut W0 H0 W H2 ∧ Sta G W env M σ2 H2 ∧ PR G W H2 (PFl G D) E (forL src.still g body r env M), fun σ2 H2 ⟨W, env, M, q1, q2, q3⟩ => ⟨n - 1, by omega, by omega, W, env, M, q1, q2, by rw [hr]; exact q3⟩, fun x H2 y => ?_⟩
      obtain ⟨f2, k2, rx⟩ := yl x H2 y
      have s2 := s1.fut f2 k2
      refine ⟨W1, env1, M1, d, s2, rx, PR.bind (PR.fut f2 p1) fun env3 m3 W3 H3 f3 k3 p3 => fun σ3 en3 _ => ?_⟩
      refine ⟨W3, env3, m3, ⟨k3, en3⟩, PR.bind p3 fun fl m4 W4 H4 f4 k4 p4 => ?_⟩
      have ff := f1.trans (f2.trans (f3.trans f4))
      cases fl with
      | nx env' => exact fun σ4 en => ⟨W4, env', m4, ff, ⟨k4, en⟩, p4⟩
      | ct env' => exact fun σ4 en => ⟨W4, env', m4, ff, ⟨k4, en⟩, p4⟩
      | bk env' => exact PR.here (E := E) k4 p4
      | rt d => exact PR.here (E := E) k4 p4
    · exact p1.elim
end
end Fn
set_option Elab.async false
set_option linter.all false
set_option maxRecDepth 100000
set_option maxHeartbeats 1000000
namespace Fn
open PySem PySem.Spec PyProof.Rows L2
section
variable {X : Cx} {G : Gx} {cl : Nat → Addr} {E : XK} {W : Wd} {H : Hp} {M : Mem} {a b c : Expr} {fa fb fc : FE} {pos : Pos}
def wipeE (env : Env) : List Nat → Env
  | [] => env
  | v :: vs => (wipeE env vs).set v none
theorem wipeE_ok {env : Env} {σ : L2.St} (h : EnvOk G W H env σ) : ∀ vs, EnvOk G W H (wipeE env vs) (wipe σ vs)
  | [] => h
  | v :: vs => by
    have ih := wipeE_ok h vs
    unfold wipeE wipe
    refine ⟨by simp [ih.1], fun j d e => ?_⟩
    by_cases hj : v = j
    · subst hj
      by_cases hl : v < (wipeE env vs).length
      · rw [List.getElem?_set_self hl] at e; cases e
      · rw [List.getElem?_eq_none (by simp; omega)] at e; cases e
    · rw [List.getElem?_set_ne hj] at e ⊢
      exact ih.2 j d e
/-- the block's tests -/
theorem wipe_wipe (σ : L2.St) (vs : List Nat) : wipe (wipe σ vs) vs = wipe σ vs := wipe_ext (wipe_length σ vs) fun j hj => wipe_get σ j vs hj
def tsYes : FT := fun _ M => .ok true M
open Classical in
noncomputable def compL (P : Mem → Prop) (g : FG) (t : FT) (f : FE) (env : Env) : List D → Mem → R (List D)
  | [], M => if P M then .ok [] M else .no
  | d :: r, M => if P M then (g d env M).bind fun env1 m1 => (t env1 m1).bind fun b m2 => if b = true then (f env1 m2).bind fun y m3 => (compL P g t f env r m3).bind fun ys m4 => .ok (y :: ys) m4 else compL P g t f env r m2
    else .no
/-- a hidden object is written -/
theorem Kp.hidden {D0 : Addr} {xs : List V} {o : HO} (hD : D0 ∈ W.hd) (hx : H D0 = some (.lst xs)) : Kp W H W (upd H D0 o) :=
  ⟨fun _ _ h => h, fun a o' e _ h2 => by rw [upd_ne (fun z => h2 (by rw [z]; exact hD))]; exact e,
   fun a o' e st => by rw [upd_ne fun z => by subst z; rw [hx] at e; cases e; exact st]; exact e, fun _ _ _ h1 h2 => ⟨h1, h2⟩⟩
theorem CellOk.kp {W' : Wd} {H' : Hp} (k : Kp W H W' H') {a : Addr} {c : Cell} (e : H' a = H a) (h : CellOk G W H a c) : CellOk G W' H' a c := by
  have pk : ∀ {κ κ' : Type} {f : κ → κ'} {l : List (κ × D)} {vs : List (κ' × V)}, RpK G W H f l vs → RpK G W' H' f l vs := fun h => Paired.imp (fun _ _ z => ⟨z.1, Rp.kp k _ _ z.2⟩) h
  cases c with
  | lst l => obtain ⟨vs, q, r⟩ := h; exact ⟨vs, by rw [e]; exact q, RpL.kp k _ _ r⟩
  | dk lk kvs => obtain ⟨vs, q, r⟩ := h; exact ⟨vs, by rw [e]; exact q, pk r⟩
  | dt lk kvs => obtain ⟨vs, q, r⟩ := h; exact ⟨vs, by rw [e]; exact q, pk r⟩
  | ins c0 fs => obtain ⟨dx, vs, q, r⟩ := h; exact ⟨dx, vs, by rw [e]; exact q, pk r⟩
theorem MemOk.hidden (m : MemOk G W H M) {D0 : Addr} {xs : List V} {o : HO} (hD : D0 ∈ W.hd) (hx : H D0 = some (.lst xs)) : MemOk G W (upd H D0 o) M where
  len := m.len
  nd := m.nd
  cell := fun i c a e1 e2 => (m.cell i c a e1 e2).kp (Kp.hidden hD hx) (upd_ne fun z => by subst z; exact m.apart _ (List.mem_of_getElem? e2) hD)
  apart := m.apart
  hid := fun b hb => by
    by_cases z : b = D0
    · subst z; exact ⟨_, upd_same⟩
    · obtain ⟨u, hu⟩ := m.hid b hb
      exact ⟨u, by rw [upd_ne z]; exact hu⟩
/-- D0 hidden, and no more -/
theorem Kp.hide {D0 : Addr} {o : HO} (hD : H D0 = none) : Kp W H ⟨W.as, D0 :: W.hd⟩ (upd H D0 o) :=
  ⟨fun _ _ h => h, fun a o' e _ _ => by rw [upd_ne (ne_of_none e hD)]; exact e, fun a o' e _ => by rw [upd_ne (ne_of_none e hD)]; exact e,
   fun a o' e h1 h2 => ⟨h1, fun z => by rcases List.mem_cons.mp z with z | z; · exact ne_of_none e hD z
                                        · exact h2 z⟩⟩
theorem MemOk.hide (m : MemOk G W H M) {D0 : Addr} {o : HO} (hD : H D0 = none) : MemOk G ⟨W.as, D0 :: W.hd⟩ (upd H D0 o) M where
  len := m.len
  nd := m.nd
  cell := fun i c a e1 e2 => by
    have k := m.cell i c a e1 e2
    obtain ⟨u, hu, _⟩ := k.there
    exact k.kp (Kp.hide hD) (upd_ne (ne_of_none hu hD))
  apart := fun a ha z => by
    rcases List.mem_cons.mp z with z | z
    · subst z; exact (m.fresh hD).1 ha
    · exact m.apart a ha z
  hid := fun b hb => by
    rcases List.mem_cons.mp hb with z | z
    · subst z; exact ⟨_, upd_same⟩
    · obtain ⟨u, hu⟩ := m.hid b z
      exact ⟨u, by rw [upd_ne (ne_of_none hu hD)]; exact hu⟩
theorem Kp.show {as hd : List Addr} {D0 : Addr} : Kp ⟨as, D0 :: hd⟩ H ⟨as, hd⟩ H :=
  ⟨fun _ _ h => h, fun _ _ e _ _ => e, fun _ _ e _ => e, fun _ _ _ h1 h2 => ⟨h1, fun z => h2 (List.mem_cons_of_mem _ z)⟩⟩
theorem MemOk.show {as hd : List Addr} {D0 : Addr} (m : MemOk G ⟨as, D0 :: hd⟩ H M) : MemOk G ⟨as, hd⟩ H M where
  len := m.len
  nd := m.nd
  cell := fun i c a e1 e2 => (m.cell i c a e1 e2).kp Kp.show rfl
  apart := fun a ha z => m.apart a ha (List.mem_cons_of_mem _ z)
  hid := fun b hb => m.hid b (List.mem_cons_of_mem _ hb)
theorem Kp.track {as hd : List Addr} {D0 : Addr} : Kp ⟨as, D0 :: hd⟩ H ⟨as ++ [D0], hd⟩ H :=
  ⟨fun i a h => by
    show (as ++ [D0])[i]? = some a
    rw [List.getElem?_append_left (List.getElem?_eq_some_iff.mp h).1]; exact h, fun _ _ e _ _ => e, fun _ _ e _ => e,
   fun a _ _ h1 h2 => ⟨fun z => by
    rcases List.mem_append.mp z with z | z
    · exact h1 z
    · exact h2 (by rw [List.mem_singleton] at z; rw [z]; exact List.mem_cons_self ..), fun z => h2 (List.mem_cons_of_mem _ z)⟩⟩
theorem MemOk.track {as hd : List Addr} {D0 : Addr} {us : List V} {ys : List D} (m : MemOk G ⟨as, D0 :: hd⟩ H M) (hx : H D0 = some (.lst us)) (hn : D0 ∉ hd) (r : RpL G ⟨as, D0 :: hd⟩ H ys us) : MemOk G ⟨as ++ [D0], hd⟩ H (M ++ [.lst ys]) where
  len := by
    have := m.len
    simp at this ⊢
    omega
  nd := by
    show (as ++ [D0]).Nodup
    rw [List.nodup_append]
    refine ⟨m.nd, by simp, fun a ha b hb => ?_⟩
    rw [List.mem_singleton] at hb; subst hb
    intro z; subst z
    exact m.apart a ha (List.mem_cons_self ..)
  cell := fun i c' a e1 e2 => by
    have ml : as.length = M.length := m.len
    have e2' : (as ++ [D0])[i]? = some a := e2
    by_cases hi : i < M.length
    · rw [List.getElem?_append_left hi] at e1
      rw [List.getElem?_append_left (by omega)] at e2'
      exact (m.cell i c' a e1 e2').kp Kp.track rfl
    · rw [List.getElem?_append_right (by omega)] at e1 e2'
      have e3 : i - M.length = 0 := by
        have := (List.getElem?_eq_some_iff.mp e1).1
        simp at this; omega
      rw [e3] at e1
      rw [show i - as.length = 0 by omega] at e2'
      simp at e1 e2'
      subst e1 e2'
      exact ⟨us, hx, RpL.kp Kp.track _ _ r⟩
  apart := fun a ha z => by
    rcases List.mem_append.mp ha with q | q
    · exact m.apart a q (List.mem_cons_of_mem _ z)
    · rw [List.mem_singleton] at q; subst q
      exact hn z
  hid := fun b hb => m.hid b (List.mem_cons_of_mem _ hb)
def R.nox {α : Type} : R α → R α
  | .ok a m => .ok a m
  | _ => .no
@[simp] theorem R.nox_ok {α : Type} (a : α) (m : Mem) : (R.ok a m).nox = .ok a m := rfl
theorem R.bind_eq {α β : Type} {r : R α} {k : α → Mem → R β} {b : β} {m : Mem} (h : r.bind k = .ok b m) : ∃ a m1, r = .ok a m1 ∧ k a m1 = .ok b m := by
  cases r with
  | ok a m1 => exact ⟨a, m1, rfl, h⟩
  | ex c fs m1 => cases h
  | no => cases h
/-- the hidden list becomes the made one -/
theorem mkL_shown {W0 : Wd} {H0 : Hp} {as : List Addr} {D0 : Addr} {us : List V} {c : Bool} {ys : List D} {Q : VK} (f : Fut W0 H0 ⟨as, W0.hd⟩ H) (h0 : H0 D0 = none) (n0 : D0 ∉ W0.as ∧ D0 ∉ W0.hd) (m : MemOk G ⟨as, D0 :: W0.hd⟩ H M) (hx : H D0 = some (.lst us)) (r : RpL G ⟨as, D0 :: W0.hd⟩ H ys us) (p : PR G W0 H0 (PV G Q) E (mkL c ys M)) : Q (.ref D0) H := by
  have nas : D0 ∉ as := fun z => m.apart D0 z (List.mem_cons_self ..)
  unfold mkL at p
  cases c with
  | false =>
    rw [if_neg Bool.false_ne_true] at p
    exact p ⟨as, W0.hd⟩ H f m.show _ ⟨D0, us, rfl, ⟨hx, nas, n0.2⟩, RpL.kp Kp.show _ _ r⟩
  | true =>
    rw [if_pos rfl] at p
    refine p ⟨as ++ [D0], W0.hd⟩ H ⟨?_, rfl, f.keep, f.lk⟩ (m.track hx n0.2 r) _ ⟨D0, ?_, rfl⟩
    · obtain ⟨nw, e, q⟩ := f.ext
      have e' : as = W0.as ++ nw := e
      refine ⟨nw ++ [D0], by show as ++ [D0] = _; rw [e', List.append_assoc], fun a ha => ?_⟩
      rcases List.mem_append.mp ha with z | z
      · exact q a z
      · rw [List.mem_singleton] at z; subst z
        exact ⟨h0, n0.1⟩
    · have ml : as.length = M.length := m.len
      show (as ++ [D0])[M.length]? = some D0
      rw [← ml]; simp
noncomputable def mLc (c : Bool) (vs : List Nat) (fi : FI) (g : FG) (t : FT) (f : FE) : FE := fun env M => (fi env M).bind fun src m => if src.items.length < 16777216 then (compL src.still g t f (wipeE env vs) src.items m).nox.bind fun ys m' => mkL c ys m' else .no
theorem PR.of_ok {α : Type} {K : α → Mem → Wd → Hp → Prop} {r : R α} {x : α} {m : Mem} (e : r = .ok x m) (h : ∀ W' H', Fut W H W' H' → MemOk G W' H' m → K x m W' H') : PR G W H K E r := by
  subst e; exact h
theorem tLc_of {E' : XK} {c : Bool} {vs : List Nat} {fi : FI} {g : FG} {t : FT} {f : FE} (σ : L2.St) (H : Hp) (Q : VK) (h : tE G E (mLc c vs fi g t f) σ H Q) : tLc (tI G E fi) (tGt G E' vs g) (tT G E' t) (tE G E' f) vs σ H Q := by
  obtain ⟨W, env, M, s, p⟩ := h
  refine ⟨W, env, M, s, PR.bind p fun src m W0 H0 f0 k0 p0 => fun J sj st0 => fun D0 hD0 => ?_⟩
  have s0 := s.fut f0 k0
  split at p0
  · rename_i hz
    obtain ⟨ys, m', hrun⟩ : ∃ ys m', compL src.still g t f (wipeE env vs) src.items m = .ok ys m' := by
      cases hc : compL src.still g t f (wipeE env vs) src.items m with
      | ok ys m' => exact ⟨ys, m', rfl⟩
      | ex c fs m' => rw [hc] at p0; exact p0.elim
      | no => rw [hc] at p0; exact p0.elim
    rw [hrun] at p0
    have q0 : PR G W0 H0 (PV G Q) E (mkL c ys m') := p0
    have n0 := k0.fresh hD0
    refine ⟨fun i n H' => n + i = src.items.length ∧ ∃ as M done rest acc, compL src.still g t f (wipeE env vs) (src.items.drop i) M = .ok rest m' ∧ done ++ rest = ys ∧ done.length ≤ i ∧ Fut W0 H0 ⟨as, W0.hd⟩ H' ∧ Kp W0 H0 ⟨as, D0 :: W0.hd⟩ H' ∧ MemOk G ⟨as, D0 :: W0.hd⟩ H' M ∧ H' D0 = some (.lst acc) ∧ RpL G ⟨as, D0 :: W0.hd⟩ H' done acc, ⟨src.items.length, rfl, W0.as, m, [], ys, [], hrun, rfl, Nat.le_refl _, ⟨⟨[], by simp, by simp⟩, rfl, fun a o e _ => by rw [upd_ne (ne_of_none e hD0)]; exact e, fun a od u e => by rw [upd_ne (ne_of_none e hD0)]; exact e⟩, Kp.hide hD0, k0.hide hD0, upd_same, rfl⟩, ?_⟩
    rintro i n H1 ⟨hn, as, M1, done, rest, acc, h1, h2, h3, h4, h4k, h5, h6, h7⟩
    cases hd : src.items.drop i with
    | nil =>
      rw [hd] at h1
      unfold compL at h1
      split at h1
      · rename_i hP
        cases h1
        rw [List.append_nil] at h2
        subst h2
        have hl : src.items.length ≤ i := List.drop_eq_nil_iff.mp hd
        have : i = src.items.length := by omega
        subst this
        exact .inl ⟨sj.stop _ H1 _ h4k h4.lk h5 hP, mkL_shown h4 hD0 n0 h5 h6 h7 q0⟩
      · cases h1
    | cons d r =>
      rw [hd] at h1
      unfold compL at h1
      split at h1
      · rename_i hP
        have hi' : src.items[i]? = some d := by
          have h0 : (src.items.drop i)[0]? = some d := by rw [hd]; rfl
          rw [List.getElem?_drop] at h0
          simpa using h0
        have hr : src.items.drop (i + 1) = r := by
          rw [← List.tail_drop, hd]; rfl
        have hlt : i < src.items.length := (List.getElem?_eq_some_iff.mp hi').1
        obtain ⟨go, yl⟩ := sj.item _ H1 _ h4k h4.lk h5 hP i d hi'
        obtain ⟨env1, m1, g1, h1⟩ := R.bind_eq h1
        obtain ⟨b, m2, g2, h1⟩ := R.bind_eq h1
        refine .inr ⟨go, fun H' => ∃ as M done rest acc, compL src.still g t f (wipeE env vs) r M = .ok rest m' ∧ done ++ rest = ys ∧ done.length ≤ i + 1 ∧ Fut W0 H0 ⟨as, W0.hd⟩ H' ∧ Kp W0 H0 ⟨as, D0 :: W0.hd⟩ H' ∧ MemOk G ⟨as, D0 :: W0.hd⟩ H' M ∧ H' D0 = some (.lst acc) ∧ RpL G ⟨as, D0 :: W0.hd⟩ H' done acc, fun H' ⟨as, M, done, rest, acc, k⟩ => ⟨n - 1, by omega, by omega, as, M, done, rest, acc, by rw [hr]; exact k⟩, fun x H2 y => ?_⟩
        obtain ⟨f2, k2, rx⟩ := yl x H2 y
        have en2 : EnvOk G ⟨as, D0 :: W0.hd⟩ H2 env σ := s0.env.kp (h4k.trans (f2.kp h5))
        refine ⟨_, wipeE env vs, M1, d, ⟨k2, wipeE_ok en2 vs⟩, rx, PR.of_ok g1 fun W3 H3 f3 k3 => fun σ3 en3 ew3 => ⟨by rw [ew3]; exact wipe_wipe σ vs, W3, env1, m1, ⟨k3, en3⟩, PR.of_ok g2 fun W4 H4 f4 k4 => ?_⟩⟩
        have f24 := f2.trans (f3.trans f4)
        have a4 := h5.rpL f24 h7
        have hD4 : H4 D0 = some (.lst acc) := f24.keep _ _ h6 fun z => h5.apart D0 z (List.mem_cons_self ..)
        have ft : ∀ {as5 : List Addr} {H5 : Hp}, Fut ⟨as, D0 :: W0.hd⟩ H1 ⟨as5, D0 :: W0.hd⟩ H5 → Fut W0 H0 ⟨as5, W0.hd⟩ H5 := fun f5 => h4.trans ⟨f5.ext, rfl, f5.keep, f5.lk⟩
        cases b with
        | false =>
          rw [if_neg Bool.false_ne_true] at h1
          simp only [PB, Bool.false_eq_true, if_false]
          obtain ⟨as4, hd4⟩ := W4
          obtain rfl : hd4 = D0 :: W0.hd := f24.hd
          exact ⟨as4, m2, done, rest, acc, h1, h2, by omega, ft f24, h4k.trans (f24.kp h5), k4, hD4, a4⟩
        | true =>
          rw [if_pos rfl] at h1
          obtain ⟨y, m3, g3, h1⟩ := R.bind_eq h1
          obtain ⟨ys', m4, g4, h1⟩ := R.bind_eq h1
          cases h1
          simp only [PB, if_true]
          refine ⟨W4, env1, m2, ⟨k4, en3.fut k3 f4⟩, PR.of_ok g3 fun W5 H5 f5 k5 => fun u ru => ?_⟩
          have f25 := f24.trans f5
          obtain ⟨as5, hd5⟩ := W5
          obtain rfl : hd5 = D0 :: W0.hd := f25.hd
          have hD5 : H5 D0 = some (.lst acc) := f25.keep _ _ h6 fun z => h5.apart D0 z (List.mem_cons_self ..)
          have a5 := h5.rpL f25 h7
          have hid : D0 ∈ (⟨as5, D0 :: W0.hd⟩ : Wd).hd := List.mem_cons_self ..
          have kh : Kp ⟨as5, D0 :: W0.hd⟩ H5 ⟨as5, D0 :: W0.hd⟩ (upd H5 D0 (.lst (acc ++ [u]))) := Kp.hidden hid hD5
          refine ⟨acc, hD5, by rw [h7.len, line_eq]; omega, as5, m3, done ++ [y], ys', acc ++ [u], g4, by rw [List.append_assoc]; exact h2, by simp; omega, ?_, h4k.trans ((f25.kp h5).trans kh), k5.hidden hid hD5, upd_same, RpL.kp kh _ _ (a5.append ⟨u, [], rfl, ru, rfl⟩)⟩
          have f5' := ft f25
          exact ⟨f5'.ext, rfl, fun a o e ha => by rw [upd_ne (ne_of_none e hD0)]; exact f5'.keep a o e ha, fun a od u e => by rw [upd_ne (ne_of_none e hD0)]; exact f5'.lk a od u e⟩
      · cases h1
  · exact p0.elim
theorem sn_lc (c : Bool) {elt tg iter : Expr} {ifs : List Expr} {scope : Scope} {own : List (Str × Nat)} {fi : FI} {g : FG} {t : FT} {f : FE} (hc : X.calm = true) (hN : X.N.Nodup) (hi : PI X tg iter (tI G E fi)) (ok : BlkOk X.N X.env.scope scope own)
    (hg : ∀ (s : Shared) (H : Hp) (C : Addr) (cl : List (Str × Addr)) (fp : List Addr), PG (X.blk s H scope (compEnvC scope cl C X.env) fp) tg (tGt G (fun _ _ _ => False) (own.map (·.2)) g)) (ht : ∀ (s : Shared) (H : Hp) (C : Addr) (cl : List (Str × Addr)) (fp : List Addr), PTs (X.blk s H scope (compEnvC scope cl C X.env) fp) ifs (tT G (fun _ _ _ => False) t))
    (he : ∀ (s : Shared) (H : Hp) (C : Addr) (cl : List (Str × Addr)) (fp : List Addr), PE (X.blk s H scope (compEnvC scope cl C X.env) fp) elt (tE G (fun _ _ _ => False) f)) (hs : ∀ x, foldedSetIterable iter X.env x = pure x := by intro _; rfl) :
    PE X (.ListComp elt [⟨tg, iter, ifs, 0⟩] scope pos) (tE G E (mLc c (own.map (·.2)) fi g t f)) := pe_imp (pe_lc hc hN hi ok hg ht he hs) tLc_of
theorem ss_setLc (c : Bool) {i : Nat} {y : Str} {py : Pos} {elt tg iter : Expr} {ifs : List Expr} {scope : Scope} {own : List (Str × Nat)} {spos : Pos} {fi : FI} {g : FG} {t : FT} {f : FE} (hc : X.calm = true) (hN : X.N.Nodup) (hy : X.N[i]? = some y) (hyl : X.env.scope.names.lookup y = some .local)
    (hsw : swapsWith (.ListComp elt [⟨tg, iter, ifs, 0⟩] scope pos) (some (.Name y py)) spos.line X.env = pure true) (hi : PI X tg iter (tI G E fi)) (ok : BlkOk X.N X.env.scope scope own)
    (hg : ∀ (s : Shared) (H : Hp) (C : Addr) (cl : List (Str × Addr)) (fp : List Addr), PG (X.blk s H scope (compEnvC scope cl C X.env) fp) tg (tGt G (fun _ _ _ => False) (own.map (·.2)) g)) (ht : ∀ (s : Shared) (H : Hp) (C : Addr) (cl : List (Str × Addr)) (fp : List Addr), PTs (X.blk s H scope (compEnvC scope cl C X.env) fp) ifs (tT G (fun _ _ _ => False) t))
    (he : ∀ (s : Shared) (H : Hp) (C : Addr) (cl : List (Str × Addr)) (fp : List Addr), PE (X.blk s H scope (compEnvC scope cl C X.env) fp) elt (tE G (fun _ _ _ => False) f)) (hs : ∀ x, foldedSetIterable iter X.env x = pure x := by intro _; rfl) :
    PS X (.Assign [.Name y py] (.ListComp elt [⟨tg, iter, ifs, 0⟩] scope pos) spos) (tS G E (mSet i (mLc c (own.map (·.2)) fi g t f))) := ps_imp (ps_setLc hc hN hy hyl hsw hi ok hg ht he hs) fun D σ H ⟨W, env, M, s, p⟩ => by
  refine tLc_of (c := c) σ H _ ?_
  refine tE.bind s p fun d m W1 H1 u f1 s1 r1 p1 => ?_
  exact p1.here s1.mem _ (s1.env.set i r1)
theorem sts_nil : PTs X [] (tT G E tsYes) := ⟨fun pins s σ H Q I h => pts_nil.run pins s σ H Q I (by obtain ⟨W, env, M, st, p⟩ := h; exact p.here st.mem)⟩
theorem sts_one {t : FT} (h : PT X c (tT G E t)) : PTs X [c] (tT G E t) := pts_one h
end
end Fn
set_option Elab.async false
set_option linter.all false
set_option maxRecDepth 100000
set_option maxHeartbeats 1000000
namespace Fn
open PySem PySem.Spec PyProof.Rows L2
abbrev FD := List D → Mem → R D
section
variable {X : Cx} {G : Gx} {cl : Nat → Addr} {E : XK} {W : Wd} {H : Hp} {M : Mem} {a b c : Expr} {fa fb fc : FE} {pos : Pos}
def spOf (G : Gx) (n : Nat) (g : FD) : Sp := fun vs H Q E => ∃ W M ds, MemOk G W H M ∧ RpL G W H ds vs ∧ ds.length = n ∧ PR G W H (PV G Q) E (g ds M)
theorem passA {X : Cx} {E : XK} : Passes CX0 X E := fun _ _ _ _ _ _ _ h => h.elim
/-- f(..) with the written arguments and the defaults dd -/
def mFun (n : Nat) (g : FD) (dd : List D) (fa : FA) : FE := fun env M => (fa env M).bind fun ds m => if (ds ++ dd).length = n then g (ds ++ dd) m else .no
def Closed (dd : List D) (dvs : List V) : Prop := ∀ (G : Gx) (W : Wd) (H : Hp), RpL G W H dd dvs
theorem closed_nil : Closed [] [] := fun _ _ _ => rfl
section
variable {CX : CXT} {k n : Nat} {f C : Addr} {fd : FuncData} {ps : List Str} {g : FD} {dvs : List V} {dd : List D} {ds : List Value} {x m : Str} {p apos : Pos} {e o : Expr} {es : List Expr} {ga : FA}
theorem fun_reads {E' : XK} (hc : Closed dd dvs) (σ : L2.St) (H : Hp) (Q : VK) (h : tE G E (mFun n g dd ga) σ H Q) : tCall (spOf G n g) dvs E (tA G E ga) σ H Q := by
  obtain ⟨W, env, M, s, p⟩ := h
  refine tA.bind s p fun ds m2 W2 H2 us f2 s2 r2 p2 => ?_
  split at p2
  · rename_i hl
    exact ⟨W2, m2, ds ++ dd, s2.mem, r2.append (hc G W2 H2), hl, p2⟩
  · exact p2.elim
theorem sn_call (F : FnOk X.prog X.w X.K X.mg X.base CX k f fd ps (spOf ⟨X.K, cl⟩ n g)) (hr : Room k X.A) (hg : Gl X x) (hm : X.mg x = some (.ref f)) (hk : PySem.W.keepIn X.K (.ref f) = true) (hb : Binds X.K fd ps ds) (hd : Vals dvs ds) (hc : Closed dd dvs) (hx : Passes CX X E)
    (ha : PA X (e :: es) (tA ⟨X.K, cl⟩ E ga)) (hdb : (x == ("__debug__" : Str)) = false := by decide) (he : starEach (e :: es) X.env = (false, eval e X.env) :: starEach es X.env := by rfl) (hpl : (backTo pos (starEach es X.env)).any (·.1) = false := by rfl) :
    PE X (.Call (.Name x p) (e :: es) [] pos) (tE ⟨X.K, cl⟩ E (mFun n g dd ga)) := pe_imp (pe_call F hr hg hm hk hb hd hx ha hdb he hpl) (fun_reads (E' := E) hc)
end
def envStart (N : Nat) (ds : List D) : Env := ds.map some ++ List.replicate (N - ds.length) none
/-- rb, a body's run, does what rg tells -/
def Ref (M : Mem) (rg : R D) (rb : R Flow) : Prop := ∀ (G : Gx) (W : Wd) (H : Hp) (Q : VK) (E : XK), MemOk G W H M → PR G W H (PV G Q) E rg → PR G W H (PFl G { nx := fun _ H' => Q .non H', rt := Q }) E rb
theorem Ref.no {M : Mem} {rb : R Flow} : Ref M .no rb := fun _ _ _ _ _ _ h => h.elim
theorem Ref.ret {M m : Mem} {d : D} : Ref M (.ok d m) (.ok (.rt d) m) := fun _ _ _ _ _ _ h => h
theorem Ref.nx {M m : Mem} {env : Env} : Ref M (.ok .non m) (.ok (.nx env) m) := fun _ _ _ _ _ _ h => fun W' H' f m' σ' _ => h W' H' f m' .non rfl
theorem Ref.ex {M m : Mem} {c : Nat} {fs : List (Str × D)} : Ref M (.ex c fs m) (.ex c fs m) := fun _ _ _ _ _ _ h => h
theorem Ref.of {M : Mem} {rg : R D} {rb rb' : R Flow} (e : rb = rb') (h : Ref M rg rb') : Ref M rg rb := by rw [e]; exact h
theorem envStart_ok {N : List Str} {ds : List D} {vs : List V} (r : RpL G W H ds vs) : EnvOk G W H (envStart N.length ds) (L2.start N vs) := by
  unfold envStart L2.start
  rw [r.len]
  refine ⟨by simp [r.len], fun i d e => ?_⟩
  by_cases hi : i < ds.length
  · rw [List.getElem?_append_left (by simpa using hi), List.getElem?_map] at e
    cases q : ds[i]? with
    | none => rw [q] at e; cases e
    | some d' =>
      rw [q] at e; cases e
      obtain ⟨u, h1, h2⟩ := r.get q
      refine ⟨u, ?_, h2⟩
      rw [List.getElem?_append_left (by simp [r.len]; exact hi), List.getElem?_map, h1]
      rfl
  · rw [List.getElem?_append_right (by simp; omega), List.getElem?_replicate] at e
    split at e <;> cases e
/-- a def's model: its body's run -/
def runB (B : FS) (N : Nat) : FD := fun ds M => match B (envStart N ds) M with
  | .ok (.rt d) m => .ok d m
  | .ok (.nx _) m => .ok .non m
  | .ok _ _ => .no
  | .ex c fs m => .ex c fs m
  | .no => .no
theorem ref_run (B : FS) (N : Nat) (ds : List D) (M : Mem) : Ref M (runB B N ds M) (B (envStart N ds) M) := by
  unfold runB
  split
  · rename_i e; exact Ref.of e Ref.ret
  · rename_i e; exact Ref.of e Ref.nx
  · exact Ref.no
  · rename_i e; exact Ref.of e Ref.ex
  · exact Ref.no
mutual
def bdD (n : Nat) : D → Bool
  | .ref i => decide (i < n)
  | .tup l => bdL n l
  | .ct l => bdL n l
  | .lst l => bdL n l
  | .fz l => bdL n l
  | _ => true
def bdL (n : Nat) : List D → Bool
  | [] => true
  | d :: r => bdD n d && bdL n r
end
def bdC (n : Nat) : Cell → Bool
  | .lst l => bdL n l
  | .dk _ kvs => bdL n (kvs.map (·.2))
  | .dt _ kvs => bdL n (kvs.map (·.2))
  | .ins _ fs => bdL n (fs.map (·.2))
mutual
def frzD (m : Mem) (n : Nat) : D → D
  | .ref i => if i < n then .ref i else match m[i]? with
    | some (.lst l) => .lst l
    | _ => .ref i
  | .tup l => .tup (frzL m n l)
  | .ct l => .ct (frzL m n l)
  | .lst l => .lst (frzL m n l)
  | .fz l => .fz (frzL m n l)
  | d => d
def frzL (m : Mem) (n : Nat) : List D → List D
  | [] => []
  | d :: r => frzD m n d :: frzL m n r
end
/-- may the memory be cut to its first cells -/
def cutOk (M m : Mem) (d : D) : Prop := M.length ≤ m.length ∧ bdD M.length d = true ∧ ∀ (j : Nat) (c : Cell), j < M.length → m[j]? = some c → M[j]? = some c ∨ bdC M.length c = true
open Classical in
noncomputable def gcR (M : Mem) (r : R D) : R D := match r with
  | .ok d m => if cutOk M m (frzD m M.length d) then .ok (frzD m M.length d) (m.take M.length) else .ok d m
  | r => r
noncomputable def gcB (B : FS) (N : Nat) : FD := fun ds M => gcR M (runB B N ds M)
mutual
theorem Rp.bd {n : Nat} (hn : n = W.as.length) : ∀ (d : D) (u : V), Rp G W H d u → bdD n d = true
  | .non, u, h => rfl
  | .bl b, u, h => rfl
  | .int i, u, h => rfl
  | .str x, u, h => rfl
  | .tup l, u, h => by obtain ⟨a, us, e, s, r⟩ := h; exact RpL.bd hn l us r
  | .ct l, u, h => by obtain ⟨a, us, e, s, r⟩ := h; exact RpL.bd hn l us r
  | .lst l, u, h => by obtain ⟨a, us, e, s, r⟩ := h; exact RpL.bd hn l us r
  | .fz l, u, h => by obtain ⟨a, us, e, s, r⟩ := h; exact RpL.bd hn l us r
  | .ref i, u, h => by
    obtain ⟨a, e, r⟩ := h
    simp only [bdD, decide_eq_true_eq, hn]
    exact (List.getElem?_eq_some_iff.mp e).1
theorem RpL.bd {n : Nat} (hn : n = W.as.length) : ∀ (l : List D) (us : List V), RpL G W H l us → bdL n l = true
  | [], us, h => rfl
  | d :: r, us, h => by
    obtain ⟨u, us', e, h1, h2⟩ := h
    simp only [bdL, Rp.bd hn d u h1, RpL.bd hn r us' h2, Bool.and_self]
end
/-- the world cut to its first cells -/
def cutW (W : Wd) (n : Nat) : Wd := ⟨W.as.take n, W.hd⟩
theorem mem_take {α : Type} {l : List α} {n : Nat} {a : α} (h : a ∈ l.take n) : a ∈ l := List.mem_of_mem_take h
mutual
theorem Rp.trim {n : Nat} (hn : n ≤ W.as.length) : ∀ (d : D) (u : V), bdD n d = true → Rp G W H d u → Rp G (cutW W n) H d u
  | .non, u, b, h => h
  | .bl _, u, b, h => h
  | .int i, u, b, h => h
  | .str x, u, b, h => h
  | .tup l, u, b, h => by obtain ⟨a, us, e, s, r⟩ := h; exact ⟨a, us, e, s, RpL.trim hn l us b r⟩
  | .ct l, u, b, h => by obtain ⟨a, us, e, s, r⟩ := h; exact ⟨a, us, e, s, RpL.trim hn l us b r⟩
  | .lst l, u, b, h => by obtain ⟨a, us, e, s, r⟩ := h; exact ⟨a, us, e, ⟨s.1, fun z => s.2.1 (mem_take z), s.2.2⟩, RpL.trim hn l us b r⟩
  | .fz l, u, b, h => by obtain ⟨a, us, e, s, r⟩ := h; exact ⟨a, us, e, s, RpL.trim hn l us b r⟩
  | .ref i, u, b, h => by
    obtain ⟨a, e, r⟩ := h
    refine ⟨a, ?_, r⟩
    simp only [bdD, decide_eq_true_eq] at b
    show (W.as.take n)[i]? = some a
    rw [List.getElem?_take, if_pos b]
    exact e
theorem RpL.trim {n : Nat} (hn : n ≤ W.as.length) : ∀ (l : List D) (us : List V), bdL n l = true → RpL G W H l us → RpL G (cutW W n) H l us
  | [], us, b, h => h
  | d :: r, us, b, h => by
    obtain ⟨u, us', e, h1, h2⟩ := h
    simp only [bdL, Bool.and_eq_true] at b
    exact ⟨u, us', e, Rp.trim hn d u b.1 h1, RpL.trim hn r us' b.2 h2⟩
end
mutual
theorem Rp.frz {m : Mem} {n : Nat} (k : MemOk G W H m) (hn : n ≤ W.as.length) : ∀ (d : D) (u : V), bdD n (frzD m n d) = true → Rp G W H d u → Rp G (cutW W n) H (frzD m n d) u
  | .non, u, b, h => h
  | .bl _, u, b, h => h
  | .int i, u, b, h => h
  | .str x, u, b, h => h
  | .tup l, u, b, h => by obtain ⟨a, us, e, s, r⟩ := h; exact ⟨a, us, e, s.imp id fun z => ⟨by rw [z.1]; rfl, z.2⟩, RpL.frz k hn l us b r⟩
  | .ct l, u, b, h => by obtain ⟨a, us, e, s, r⟩ := h; exact ⟨a, us, e, s, RpL.frz k hn l us b r⟩
  | .lst l, u, b, h => by obtain ⟨a, us, e, s, r⟩ := h; exact ⟨a, us, e, ⟨s.1, fun z => s.2.1 (mem_take z), s.2.2⟩, RpL.frz k hn l us b r⟩
  | .fz l, u, b, h => by obtain ⟨a, us, e, s, r⟩ := h; exact ⟨a, us, e, s, RpL.frz k hn l us b r⟩
  | .ref i, u, b, h => by
    simp only [frzD] at b ⊢
    split at b
    · rename_i hi
      rw [if_pos hi]
      exact Rp.trim hn (.ref i) u (by simp only [bdD, decide_eq_true_eq]; exact hi) h
    · rename_i hi
      rw [if_neg hi]
      split at b
      · rename_i l hc
        obtain ⟨a, e, rfl⟩ := h
        obtain ⟨us, h1, h2⟩ := k.cell i _ a hc e
        refine ⟨a, us, rfl, ⟨h1, fun z => ?_, k.apart a (List.mem_of_getElem? e)⟩, RpL.trim hn l us b h2⟩
        obtain ⟨j, hj⟩ := List.getElem?_of_mem z
        have hj' : (W.as.take n)[j]? = some a := hj
        rw [List.getElem?_take] at hj'
        split at hj'
        · rename_i hjn
          have := (List.getElem?_inj (List.getElem?_eq_some_iff.mp hj').1 k.nd).mp (hj'.trans e.symm)
          omega
        · cases hj'
      · simp only [bdD, decide_eq_true_eq] at b
        exact absurd b hi
theorem RpL.frz {m : Mem} {n : Nat} (k : MemOk G W H m) (hn : n ≤ W.as.length) : ∀ (l : List D) (us : List V), bdL n (frzL m n l) = true → RpL G W H l us → RpL G (cutW W n) H (frzL m n l) us
  | [], us, b, h => h
  | d :: r, us, b, h => by
    obtain ⟨u, us', e, h1, h2⟩ := h
    simp only [frzL, bdL, Bool.and_eq_true] at b
    exact ⟨u, us', e, Rp.frz k hn d u b.1 h1, RpL.frz k hn r us' b.2 h2⟩
end
theorem rpk_vals {κ κ' : Type} {f : κ → κ'} : ∀ {l : List (κ × D)} {vs : List (κ' × V)}, RpK G W H f l vs → RpL G W H (l.map (·.2)) (vs.map (·.2))
  | _, _, .nil => (rfl : ([] : List V) = [])
  | _, _, .cons h t => ⟨_, _, rfl, h.2, rpk_vals t⟩
theorem CellOk.bd {n : Nat} (hn : n = W.as.length) {a : Addr} {c : Cell} (h : CellOk G W H a c) : bdC n c = true := by
  cases c with
  | lst l => obtain ⟨us, _, r⟩ := h; exact RpL.bd hn l us r
  | dk lk kvs => obtain ⟨us, _, r⟩ := h; exact RpL.bd hn _ _ (rpk_vals r)
  | dt lk kvs => obtain ⟨us, _, r⟩ := h; exact RpL.bd hn _ _ (rpk_vals r)
  | ins c0 fs => obtain ⟨dx, us, _, r⟩ := h; exact RpL.bd hn _ _ (rpk_vals r)
theorem rpk_cut {n : Nat} (hn : n ≤ W.as.length) {κ κ' : Type} {f : κ → κ'} : ∀ {l : List (κ × D)} {vs : List (κ' × V)}, bdL n (l.map (·.2)) = true → RpK G W H f l vs → RpK G (cutW W n) H f l vs
  | _, _, _, .nil => .nil
  | _, _, b, .cons h t => by
    simp only [List.map_cons, bdL, Bool.and_eq_true] at b
    exact .cons ⟨h.1, Rp.trim hn _ _ b.1 h.2⟩ (rpk_cut hn b.2 t)
theorem CellOk.trim {n : Nat} (hn : n ≤ W.as.length) {a : Addr} {c : Cell} (b : bdC n c = true) (h : CellOk G W H a c) : CellOk G (cutW W n) H a c := by
  cases c with
  | lst l => obtain ⟨us, q, r⟩ := h; exact ⟨us, q, RpL.trim hn l us b r⟩
  | dk lk kvs => obtain ⟨us, q, r⟩ := h; exact ⟨us, q, rpk_cut hn b r⟩
  | dt lk kvs => obtain ⟨us, q, r⟩ := h; exact ⟨us, q, rpk_cut hn b r⟩
  | ins c0 fs => obtain ⟨dx, us, q, r⟩ := h; exact ⟨dx, us, q, rpk_cut hn b r⟩
theorem MemOk.bd (k : MemOk G W H M) {j : Nat} {c : Cell} (h : M[j]? = some c) : bdC M.length c = true := by
  have hl : j < W.as.length := by rw [k.len]; exact (List.getElem?_eq_some_iff.mp h).1
  exact (k.cell j c _ h (List.getElem?_eq_getElem hl)).bd k.len.symm
theorem MemOk.trim {m : Mem} (k0 : MemOk G W H M) {W' : Wd} {H' : Hp} (k : MemOk G W' H' m) (hl : M.length ≤ m.length) (hb : ∀ (j : Nat) (c : Cell), j < M.length → m[j]? = some c → M[j]? = some c ∨ bdC M.length c = true) : MemOk G (cutW W' M.length) H' (m.take M.length) where
  len := by
    show (W'.as.take M.length).length = _
    rw [List.length_take, List.length_take, k.len]
  nd := k.nd.sublist (List.take_sublist ..)
  cell := fun i c a e1 e2 => by
    have e2' : (W'.as.take M.length)[i]? = some a := e2
    rw [List.getElem?_take] at e1 e2'
    split at e1
    · rename_i hi
      rw [if_pos hi] at e2'
      have hn : M.length ≤ W'.as.length := by rw [k.len]; exact hl
      refine (k.cell i c a e1 e2').trim hn ?_
      rcases hb i c hi e1 with z | z
      · exact k0.bd z
      · exact z
    · cases e1
  apart := fun a ha => k.apart a (mem_take ha)
  hid := k.hid
theorem Fut.trim {W' : Wd} {H' : Hp} (k0 : MemOk G W H M) (f : Fut W H W' H') : Fut W H (cutW W' M.length) H' := by
  refine ⟨⟨[], ?_, by simp⟩, f.hd, f.keep, f.lk⟩
  obtain ⟨nw, e, _⟩ := f.ext
  show W'.as.take M.length = _
  rw [e, ← k0.len, List.append_nil, List.take_left']
  rfl
theorem ref_gc (B : FS) (N : Nat) (ds : List D) (M : Mem) : Ref M (gcB B N ds M) (B (envStart N ds) M) := by
  intro G W H Q E m p
  refine ref_run B N ds M G W H Q E m ?_
  unfold gcB at p
  cases hr : runB B N ds M with
  | ex c fs m' => rw [hr] at p; exact p
  | no => rw [hr] at p; exact p
  | ok d m' =>
    rw [hr] at p
    simp only [gcR] at p
    split at p
    · rename_i hc
      refine fun W' H' f k u ru => p (cutW W' M.length) H' (Fut.trim m f) (MemOk.trim m k hc.1 hc.2.2) u ?_
      exact Rp.frz k (by rw [k.len]; exact hc.1) d u hc.2.1 ru
    · exact p
/-- the usual ends: cells ahead as they were, or one written -/
theorem cut_id {M junk : Mem} {d : D} (hd : bdD M.length d = true) : cutOk M (M ++ junk) d := ⟨by simp, hd, fun j c hj e => .inl (by rw [List.getElem?_append_left hj] at e; exact e)⟩
theorem cut_set {M junk : Mem} {d : D} {i : Nat} {c : Cell} (hd : bdD M.length d = true) (hc : bdC M.length c = true) : cutOk M (M.set i c ++ junk) d := ⟨by simp, hd, fun j c' hj e => by
  rw [List.getElem?_append_left (by simpa using hj)] at e
  by_cases hij : i = j
  · subst hij
    rw [List.getElem?_set_self hj] at e
    cases e
    exact .inr hc
  · rw [List.getElem?_set_ne hij] at e
    exact .inl e⟩
section
variable {P : Program} {w : World} {K : PySem.W.Frag} {mg : Str → Option Value} {base : Heap}
/-- THE RULE: a def's body by its model, the model by what is said of it -/
theorem fn_def {x qual : Str} {st : Stmt} {f : Addr} {fd : FuncData} {N ps : List Str} {k : Nat} {g : FD} {B : FS} {cl : Nat → Addr} (F : Fun K x qual st f fd) (S : FnScope N ps (defScope st))
    (hbody : ∀ (cdv : Value) (A : Around) (outer : List PySem.Env) (s : Shared) (H : Hp) (E : XK), Room k (A.deeper (envOfC qual (defScope st) s.heap.objs.size f cdv)) →
      PSs (cxOf CX0 P w K mg base N qual (defScope st) f cdv A outer s H E).nox (defBody st) (tS ⟨K, cl⟩ E B))
    (href : ∀ ds M, ds.length = ps.length → Ref M (g ds M) (B (envStart N.length ds) M)) : FnOk P w K mg base CX0 (k + 1) f fd ps (spOf ⟨K, cl⟩ ps.length g) := by
  refine F.ok S (fun vs H Q E ⟨W, M, ds, m, r, hl, _⟩ => by rw [r.len, hl]) fun cdv A outer s H vs Q E hr ⟨W, M, ds, m, r, hl, p⟩ => ?_
  exact ⟨_, hbody cdv A outer s H E hr, W, envStart N.length ds, M, ⟨m, envStart_ok r⟩, href ds M hl _ W H Q E m p⟩
end
end
end Fn
set_option Elab.async false
set_option linter.all false
set_option maxRecDepth 100000
set_option maxHeartbeats 1000000
namespace Fn
open PySem PySem.Spec PyProof.Rows L2
section
variable {X : Cx} {G : Gx} {cl : Nat → Addr} {E : XK} {W : Wd} {H : Hp} {M : Mem} {a b c : Expr} {fa fb fc : FE} {pos : Pos}
theorem huE {k : Nat} {A : Around} (hr : Room k A) : A.units + 64 < cLine := hr.units
theorem hu1E {k : Nat} {A : Around} (hr : Room k A) : A.units + 65 < cLine := by have := hr.un; omega
theorem sn_strL {x : Str} {l : List Nat} {j : Nat} (h : s2l x = l) : PE X (.Constant (.str x) j pos) (tE G E (mC (.str l))) := by subst h; exact sn_str
section
variable {id T : String} {r : List V → Hp → VK → Prop} {o : List D → Mem → R D} {x : Str} {p : Pos} {e : Expr} {es : List Expr} {g : FA}
theorem sn_callB (hc : CallR X (.builtin id) r) (hs : Fn1 ⟨X.K, cl⟩ E r o) (hg : Gl X x) (hm : X.mg x = none) (hv : bootBuiltins x = some (.builtin id)) (ha : PA X (e :: es) (tA ⟨X.K, cl⟩ E g)) (hn : x ≠ "__name__" := by decide) (hdb : (x == ("__debug__" : Str)) = false := by decide)
    (he : starEach (e :: es) X.env = (false, eval e X.env) :: starEach es X.env := by rfl) (hpl : (backTo pos (starEach es X.env)).any (·.1) = false := by rfl) : PE X (.Call (.Name x p) (e :: es) [] pos) (tE ⟨X.K, cl⟩ E (mCall o g)) :=
  pe_imp (pe_callB hc hg hm hv ha hn hdb he hpl) (tE_call hs)
theorem sn_callTy (hc : CallR X (.type T) r) (hs : Fn1 ⟨X.K, cl⟩ E r o) (hg : Gl X x) (hm : X.mg x = none) (hv : bootBuiltins x = some (.type T)) (ha : PA X (e :: es) (tA ⟨X.K, cl⟩ E g)) (hn : x ≠ "__name__" := by decide) (hdb : (x == ("__debug__" : Str)) = false := by decide)
    (he : starEach (e :: es) X.env = (false, eval e X.env) :: starEach es X.env := by rfl) (hpl : (backTo pos (starEach es X.env)).any (·.1) = false := by rfl) : PE X (.Call (.Name x p) (e :: es) [] pos) (tE ⟨X.K, cl⟩ E (mCall o g)) :=
  pe_imp (pe_callTy hc hg hm hv ha hn hdb he hpl) (tE_call hs)
end
section
variable {id T : String} {r : V → List V → Hp → VK → Prop} {o : D → List D → Mem → R D} {name : Str} {apos cpos : Pos} {rc e : Expr} {es : List Expr} {f : FE} {g : FA}
theorem sn_meth (pa : PlainAttrs T) (slot : Slot T name id) (hty : typeOf (.builtin id) = pure (.type "method_descriptor")) (hm : MtR X id r) (hs : Mt1 ⟨X.K, cl⟩ E r o) (ho : PE X rc (tE ⟨X.K, cl⟩ E f)) (ha : PA X (e :: es) (tA ⟨X.K, cl⟩ E g))
    (hbase : attributeBase rc name X.env (eval rc X.env) = eval rc X.env := by rfl)
    (hfew : ((backTo cpos (starEach (e :: es) X.env)).all (fun x => !x.1) && (backToKw cpos (keywordEach [] X.env)).all (fun x => x.1.isSome)
      && decide ((e :: es).length + ([] : List Keyword).length + (if ([] : List Keyword).isEmpty then 0 else 1) < 30)) = true := by rfl)
    (hline : (apos.endLine == cpos.line) = true := by rfl) (hs1 : starEach (e :: es) X.env = (false, eval e X.env) :: starEach es X.env := by rfl) (hplain : (backTo cpos (starEach es X.env)).any (·.1) = false := by rfl) :
    PE X (.Call (.Attribute rc name apos) (e :: es) [] cpos) (tE ⟨X.K, cl⟩ E (mMeth T o f g)) := pe_imp (pe_bm pa slot hty hm ho ha hbase hfew hline hs1 hplain) (tE_meth hs)
end
theorem test_of {f : FE} {t : TE} (h : ∀ σ H Q, tE G E f σ H Q → t σ H Q) (σ : L2.St) (H : Hp) (Q : Bool → Hp → Prop) (q : tT G E (bOf f) σ H Q) : tTest t σ H Q := by
  obtain ⟨W, env, M, s, p⟩ := q
  refine h σ H _ (tE.bind s p fun d m W1 H1 u f1 s1 r1 p1 => ?_)
  cases d with
  | bl k => exact ⟨k, r1, p1.here s1.mem⟩
  | _ => exact p1.elim
theorem st_cmp {op : CmpOp} {r : R2} {o : D → D → Mem → R D} (ho : OpR X (compareOp op) r) (hs : Op2 G E r o) (hm : behindInMarks op b = false) (ha : PE X a (tE G E fa)) (hb : PE X b (tE G E fb)) : PT X (.Compare a [op] [b] pos) (tT G E (bOf (mOp o fa fb))) :=
  pt_imp (pt_cmpR ho ha hb hm) (test_of (tE_op hs))
theorem isN_reads {neg : Bool} (σ : L2.St) (H : Hp) (Q : VK) (h : tE G E (mUn (oIsN neg) fa) σ H Q) : tOp (fun x y H Q => y = .non ∧ Q (.bl (if neg = true then !decide (x = .non) else decide (x = .non))) H) (tE G E fa) (tC .non) σ H Q := by
  obtain ⟨W, env, M, s, p⟩ := h
  refine tE.bind s p fun d m W1 H1 u f1 s1 r1 p1 => ?_
  refine ⟨rfl, ?_⟩
  cases d with
  | non => cases r1; cases neg <;> exact p1.here s1.mem _ rfl
  | bl b => cases r1; cases neg <;> exact p1.here s1.mem _ rfl
  | int b => cases r1; cases neg <;> exact p1.here s1.mem _ rfl
  | str b => cases r1; cases neg <;> exact p1.here s1.mem _ rfl
  | tup l => obtain ⟨a, us, e1, _⟩ := r1; subst e1; cases neg <;> exact p1.here s1.mem _ rfl
  | ct l => obtain ⟨a, us, e1, _⟩ := r1; subst e1; cases neg <;> exact p1.here s1.mem _ rfl
  | lst l => obtain ⟨a, us, e1, _⟩ := r1; subst e1; cases neg <;> exact p1.here s1.mem _ rfl
  | fz l => obtain ⟨a, us, e1, _⟩ := r1; subst e1; cases neg <;> exact p1.here s1.mem _ rfl
  | ref l => obtain ⟨a, us, e1⟩ := r1; subst e1; cases neg <;> exact p1.here s1.mem _ rfl
theorem st_isN {i pos2} (ha : PE X a (tE G E fa)) : PT X (.Compare a [.Is] [.Constant .none i pos2] pos) (tT G E (bOf (mUn (oIsN false) fa))) := pt_imp (pt_cmpR op_isN ha pe_non (nomark _)) (test_of fun σ H Q h => isN_reads (neg := false) σ H Q h)
theorem st_notN {i pos2} (ha : PE X a (tE G E fa)) : PT X (.Compare a [.IsNot] [.Constant .none i pos2] pos) (tT G E (bOf (mUn (oIsN true) fa))) := pt_imp (pt_cmpR op_notN ha pe_non (nomark _)) (test_of fun σ H Q h => isN_reads (neg := true) σ H Q h)
/-- the parameters from the positional ones and the keywords' values: pi over any values -/
structure Perm2 where
  on : {α : Type} → List α → List α → List α
def piApp : Perm2 := ⟨fun ds zs => ds ++ zs⟩
def mFunKw (n m np : Nat) (π : Perm2) (dd : List D) (g : FD) (fa fk : FA) : FE := fun env M => (fa env M).bind fun ds m1 => (fk env m1).bind fun zs m2 => if ds.length = n ∧ zs.length = m ∧ (π.on ds (zs ++ dd)).length = np then g (π.on ds (zs ++ dd)) m2 else .no
theorem law_end {K : PySem.W.Frag} {cl : Nat → Addr} {g : FD} (h : ∀ ns : List Int, ns.length ≤ 63 → ∃ m, g [.fz (ns.map .int)] [] = .ok (.bl true) m) {H : Hp} {a : Addr} {ns : List Int} (hl : ns.length ≤ 63) (ho : Only H) (hS : SqL K H a (ns.map V.int)) :
    spOf ⟨K, cl⟩ 1 g [.ref a] H (fun v _ => v = .bl true) fun _ _ _ => False := by
  obtain ⟨m, e⟩ := h ns hl
  have hints : ∀ ns : List Int, RpL ⟨K, cl⟩ ⟨[], []⟩ H (ns.map .int) (ns.map V.int) := fun ns => by
    induction ns with
    | nil => exact (rfl : ([] : List V) = [])
    | cons n r ih => exact ⟨_, _, rfl, rfl, ih⟩
  refine ⟨⟨[], []⟩, [], [.fz (ns.map .int)], ⟨rfl, List.nodup_nil, fun i c a e => by simp at e, by simp, by simp⟩, ⟨_, [], rfl, ⟨a, _, rfl, ?_, hints ns⟩, rfl⟩, rfl, ?_⟩
  · rcases hS with (h1 | ⟨o, h1⟩) | h1
    · rcases ho a with z | ⟨o, xs, z⟩
      · rw [h1] at z; cases z
      · rw [h1] at z; cases z
    · exact .inl ⟨o, h1⟩
    · exact .inr h1
  · rw [e]
    exact fun W' H' f m' u hu => hu
end
end Fn
set_option Elab.async false
set_option linter.all false
set_option maxRecDepth 100000
set_option maxHeartbeats 1000000
namespace Fn
open PySem PySem.Spec PyProof.Rows L2
section
variable {X : Cx} {G : Gx} {cl : Nat → Addr} {E : XK} {W : Wd} {H : Hp} {M : Mem} {a b c : Expr} {fa fb fc : FE} {pos : Pos}
def encD (d : D) : PyData := (pyD d).getD .none
def leD (a b : D) : Bool := PySem.W.dataLe false encD a b
def sortD (l : List D) : List D := l.mergeSort leD
def isTupD : D → Bool
  | .tup (_ :: _) => true
  | _ => false
def isOneD : D → Bool
  | .non => false
  | .tup _ => false
  | .ct _ => false
  | .ref _ => false
  | _ => true
/-- may these be sorted: all alike data, tuples with an item or no tuples -/
def sortOk (l : List D) : Prop := (∀ d ∈ l, (pyD d).isSome = true ∧ (encD d).depth ≤ 60) ∧ (∀ d ∈ l, ∀ d' ∈ l, PySem.W.alike (encD d) (encD d') = true) ∧ ((∀ d ∈ l, isTupD d = true) ∨ ∀ d ∈ l, isOneD d = true)
open Classical in
noncomputable def oSorted (c : Bool) : List D → Mem → R D
  | [d], M => match lstOf M d with
    | some l => if sortOk l then mkL c (sortD l) M else .no
    | none => .no
  | _, _ => .no
theorem eachIs_rp {h : Heap} : ∀ {ds : List D} {us : List V} {vs : List Value}, RpL G W H ds us → Vals us vs → PySem.W.EachIs (fun v d => ∃ u, Rp G W H d u ∧ RelV u v) vs ds
  | [], us, vs, r, k => by
    have : us = [] := r
    subst this
    cases k
    exact .nil
  | d :: r, us, vs, h1, k => by
    obtain ⟨u, us', e, h2, h3⟩ := h1
    subst e
    cases k with
    | cons k1 k2 => exact .cons ⟨u, h2, k1⟩ (eachIs_rp (h := h) h3 k2)
theorem eachIs_back : ∀ {ds : List D} {vs : List Value}, PySem.W.EachIs (fun v d => ∃ u, Rp G W H d u ∧ RelV u v) vs ds → ∃ us, RpL G W H ds us ∧ Vals us vs
  | _, _, .nil => ⟨[], (rfl : ([] : List V) = []), .nil⟩
  | _, _, .cons h t => by
    obtain ⟨u, h1, h2⟩ := h
    obtain ⟨us, h3, h4⟩ := eachIs_back t
    exact ⟨u :: us, ⟨u, us, rfl, h1, h3⟩, .cons h2 h4⟩
theorem eachIs_mono {α β : Type} {R R' : α → β → Prop} : ∀ {as : List α} {bs : List β}, PySem.W.EachIs R as bs → (∀ a b, b ∈ bs → R a b → R' a b) → PySem.W.EachIs R' as bs
  | _, _, .nil, _ => .nil
  | _, _, .cons h t, k => .cons (k _ _ (List.mem_cons_self ..) h) (eachIs_mono t fun a b hb => k a b (List.mem_cons_of_mem _ hb))
/-- sorted(xs) -/
def rSortD (G : Gx) : List V → Hp → VK → Prop := fun vs H Q => ∃ (W : Wd) (a : Addr) (us : List V) (ds : List D), vs = [V.ref a] ∧ SqL G.K H a us ∧ RpL G W H ds us ∧ sortOk ds ∧ ∀ us' p, RpL G W H (sortD ds) us' → H p = none → Q (.ref p) (upd H p (.lst us'))
theorem cr_sortedD (hu : X.A.units + 64 < cLine) : CallR X (.builtin "sorted") (rSortD ⟨X.K, cl⟩) := by
  intro pins s σ H vs us Q I r h
  obtain ⟨W, a, vs', ds, rfl, hs, hr, hk, q⟩ := h
  obtain ⟨its, rv, hl, hz⟩ := I.list hs
  rw [Vals.ref1 r]
  have e := eachIs_rp (h := s.heap) hr rv
  have er : PySem.W.EachIs (fun v d => ∃ as, Reads s.heap v (encD d) as) its ds := eachIs_mono e fun v d hd ⟨u, h1, h2⟩ => by
    obtain ⟨hp, _⟩ := hk.1 d hd
    cases hpd : pyD d with
    | none => rw [hpd] at hp; cases hp
    | some p =>
      have : encD d = p := by unfold encD; rw [hpd]; rfl
      rw [this]
      exact Dp.reads I p u v (pyD_ok h1 hpd) h2
  have hlen : its.length = ds.length := by rw [← rv.length, hr.len]
  have hL : ds.length ≤ sizeLine := by rw [← hr.len]; exact hz
  refine PySem.W.sorted_data hl.isList e er (fun p hp p' hp' => ?_) ?_ hL (fun d hd => ?_) fun out ho eo => ?_
  · obtain ⟨d, hd, rfl⟩ := List.mem_map.mp hp
    obtain ⟨d', hd', rfl⟩ := List.mem_map.mp hp'
    exact hk.2.1 d hd d' hd'
  · rcases hk.2.2 with z | z
    · refine .inl fun p hp => ?_
      obtain ⟨d, hd, rfl⟩ := List.mem_map.mp hp
      have h1 := z d hd
      have h2 := (hk.1 d hd).1
      cases d with
      | tup l =>
        cases l with
        | nil => cases h1
        | cons x r =>
          unfold encD
          cases hq : pyD (.tup (x :: r)) with
          | none => rw [hq] at h2; cases h2
          | some p =>
            simp only [pyD] at hq
            cases hq2 : pyL (x :: r) with
            | none => rw [hq2] at hq; cases hq
            | some ps =>
              rw [hq2] at hq; cases hq
              simp only [pyL] at hq2
              split at hq2
              · cases hq2; exact ⟨_, _, rfl⟩
              · cases hq2
      | _ => cases h1
    · refine .inr fun p hp => ?_
      obtain ⟨d, hd, rfl⟩ := List.mem_map.mp hp
      have h1 := z d hd
      have h2 := (hk.1 d hd).1
      cases d with
      | non => cases h1
      | tup l => cases h1
      | ref l => cases h1
      | ct l => cases h1
      | bl b => exact ⟨(by intro z; cases z), (by intro xs z; cases z)⟩
      | int b => exact ⟨(by intro z; cases z), (by intro xs z; cases z)⟩
      | str b => exact ⟨(by intro z; cases z), (by intro xs z; cases z)⟩
      | lst l =>
        unfold encD
        simp only [pyD] at h2 ⊢
        cases hq2 : pyL l with
        | none => rw [hq2] at h2; cases h2
        | some ps => exact ⟨(by intro z; cases z), (by intro xs z; cases z)⟩
      | fz l =>
        unfold encD
        simp only [pyD] at h2 ⊢
        cases hq2 : pyL l with
        | none => rw [hq2] at h2; cases h2
        | some ps => exact ⟨(by intro z; cases z), (by intro xs z; cases z)⟩
  · have := (hk.1 d hd).2
    omega
  · obtain ⟨us', h1, h2⟩ := eachIs_back eo
    obtain ⟨ep, he'⟩ := PyProof.Rows.sortedAll_at s.heap its out.toArray
    have hlen' : us'.length ≤ sizeLine := by rw [h2.length, ho]; exact hL
    exact ⟨.ref _, upd H (s.heap.objs.size + 1) (.lst us'), I.laid (t' := s.toks) (fun _ _ => PyProof.Rows.sortedAll_old) (Nat.le_succ _) ⟨hlen', out, ep, h2, he'⟩, rfl, q us' _ h1 (I.hok.fresh (Nat.le_succ _))⟩
theorem fn_sorted {c : Bool} : Fn1 G E (rSortD G) (oSorted c) := fun W H M ds us Q m r p => by
  unfold oSorted at p
  split at p
  · obtain ⟨u, e1, r1⟩ := rp_one r
    subst e1
    split at p
    · rename_i l e1
      split at p
      · rename_i hk
        obtain ⟨a1, us, h1, h2, h3⟩ := lstOf_ok m r1 e1
        subst h1
        exact ⟨W, a1, us, l, rfl, h2, h3, hk, fun us' p' hr hp => mkL_new m p hr p' hp⟩
      · exact p.elim
    · exact p.elim
  · exact p.elim
def mPar3 (i j l : Nat) (g : FA) : FS := fun env M => (g env M).bind fun ds m => match ds with
  | [d, d', d''] => .ok (.nx (((env.set i (some d)).set j (some d')).set l (some d''))) m
  | _ => .no
theorem ss_par3 {i j l : Nat} {x y z : Str} {g : FA} {px py pz pt : Pos} {kt k2 pt2} (hc : X.calm = true) (hN : X.N.Nodup) (hi : X.N[i]? = some x) (hj : X.N[j]? = some y) (hl : X.N[l]? = some z) (hij : i ≠ j) (hil : i ≠ l) (hjl : j ≠ l)
    (hx : X.env.scope.names.lookup x = some .local) (hy : X.env.scope.names.lookup y = some .local) (hz : X.env.scope.names.lookup z = some .local) (ha : PA X [a, b, c] (tA G E g))
    (hw : swappedStores [.Tuple [.Name x px, .Name y py, .Name z pz] kt pt] (.Tuple [a, b, c] k2 pt2) X.env = pure (some [x, y, z]))
    (hs : swapsWithSole [.Tuple [.Name x px, .Name y py, .Name z pz] kt pt] (.Tuple [a, b, c] k2 pt2) pos.line X.env = pure false := by rfl) :
    PS X (.Assign [.Tuple [.Name x px, .Name y py, .Name z pz] kt pt] (.Tuple [a, b, c] k2 pt2) pos) (tS G E (mPar3 i j l g)) := ps_imp (ps_par3 hc hN hi hj hl hij hil hjl hx hy hz ha hw hs) fun D σ H ⟨W, env, M, s, p⟩ => by
  refine tA.bind s p fun ds m W1 H1 us f1 s1 r1 p1 => ?_
  split at p1
  · obtain ⟨u, us', e1, r2, u', us2, e2, r3, u'', us3, e3, r4, r5⟩ := r1
    have : us3 = [] := r5
    subst this e3 e2 e1
    exact ⟨u, u', u'', rfl, p1.here s1.mem _ (((s1.env.set i r2).set j r3).set l r4)⟩
  · exact p1.elim
end
end Fn
set_option Elab.async false
set_option linter.all false
set_option maxRecDepth 100000
set_option maxHeartbeats 4000000
namespace Fn
open PySem PySem.Spec PyProof.Rows L2
section
variable {env : Env} {M : Mem}
theorem mVar_eq (i : Nat) : mVar i env M = match env[i]? with | some (some d) => .ok d M | _ => .no := rfl
theorem mC_eq (d : D) : mC d env M = .ok d M := rfl
theorem mOp_eq (o : D → D → Mem → R D) (fa fb : FE) : mOp o fa fb env M = (fa env M).bind fun a m => (fb env m).bind fun b m' => o a b m' := rfl
theorem mUn_eq (o : D → Mem → R D) (fa : FE) : mUn o fa env M = (fa env M).bind fun a m => o a m := rfl
theorem mSeq_eq (f g : FS) : mSeq f g env M = (f env M).bind fun fl m => match fl with | .nx env' => g env' m | fl => .ok fl m := rfl
theorem mSet_eq (i : Nat) (f : FE) : mSet i f env M = (f env M).bind fun d m => .ok (.nx (env.set i (some d))) m := rfl
theorem mRet_eq (f : FE) : mRet f env M = (f env M).bind fun d m => .ok (.rt d) m := rfl
theorem mExpr_eq (f : FE) : mExpr f env M = (f env M).bind fun _ m => .ok (.nx env) m := rfl
theorem mIfS_eq (c : FT) (f g : FS) : mIfS c f g env M = (c env M).bind fun b m => if b = true then f env m else g env m := rfl
theorem mPass_eq : mPass env M = .ok (.nx env) M := rfl
theorem mAsg_eq (f : FE) (g : FG) : mAsg f g env M = (f env M).bind fun d m => (g d env m).bind fun env' m' => .ok (.nx env') m' := rfl
theorem mCall_eq (o : List D → Mem → R D) (g : FA) : mCall o g env M = (g env M).bind o := rfl
theorem mFun_eq (n : Nat) (g : FD) (dd : List D) (fa : FA) : mFun n g dd fa env M = (fa env M).bind fun ds m => if (ds ++ dd).length = n then g (ds ++ dd) m else .no := rfl
theorem aNil_eq : aNil env M = .ok [] M := rfl
theorem aCons_eq (f : FE) (g : FA) : aCons f g env M = (f env M).bind fun d m => (g env m).bind fun ds m' => .ok (d :: ds) m' := rfl
theorem mTup_eq (g : FA) : mTup g env M = (g env M).bind fun ds m => if ds.length ≤ 16777216 then .ok (.tup ds) m else .no := rfl
theorem mLst_eq (c : Bool) (g : FA) : mLst c g env M = (g env M).bind fun ds m => if ds.length ≤ 16777216 then mkL c ds m else .no := rfl
theorem bOf_eq (f : FE) : bOf f env M = (f env M).bind fun d m => match d with | .bl b => .ok b m | _ => .no := rfl
theorem mkL_t (ds : List D) : mkL true ds M = .ok (.ref M.length) (M ++ [.lst ds]) := rfl
theorem mkL_f (ds : List D) : mkL false ds M = .ok (.lst ds) M := rfl
theorem mMeth_eq (T : String) (o : D → List D → Mem → R D) (f : FE) (g : FA) : mMeth T o f g env M = (f env M).bind fun a m => if tyOk T m a = true then (g env m).bind fun ds m' => o a ds m' else .no := rfl
theorem oIx_fz (l : List D) (i : Int) : oIx (.fz l) (.int i) M = match atI l i with | some d => .ok d M | none => .no := rfl
theorem oIx_lst (l : List D) (i : Int) : oIx (.lst l) (.int i) M = match atI l i with | some d => .ok d M | none => .no := rfl
theorem oIx_tup (l : List D) (i : Int) : oIx (.tup l) (.int i) M = match atI l i with | some d => .ok d M | none => .no := rfl
theorem oAdd_int (c : Bool) (i j : Int) : oAdd c (.int i) (.int j) M = .ok (.int (i + j)) M := rfl
theorem oSub_int (i j : Int) : oSub (.int i) (.int j) M = .ok (.int (i - j)) M := rfl
theorem oMul_int (c : Bool) (i j : Int) (h : mulOk i j = true) : oMul c (.int i) (.int j) M = .ok (.int (i * j)) M := by
  show (if mulOk i j = true then _ else _) = _
  rw [if_pos h]
theorem oMod_int (i j : Int) (h : 0 < j) : oMod (.int i) (.int j) M = .ok (.int (i % j)) M := by
  show (if decide (0 < j) = true then _ else _) = _
  rw [if_pos (decide_eq_true h)]
theorem oDiv_int (i j : Int) (h : divOk i j = true) : oDiv (.int i) (.int j) M = .ok (.int (i / j)) M := by
  show (if divOk i j = true then _ else _) = _
  rw [if_pos h]
theorem oLt_int (i j : Int) : oLt (.int i) (.int j) M = .ok (.bl (decide (i < j))) M := rfl
theorem oLe_int (i j : Int) : oLe (.int i) (.int j) M = .ok (.bl (decide (i ≤ j))) M := rfl
theorem oGt_int (i j : Int) : oGt (.int i) (.int j) M = .ok (.bl (decide (j < i))) M := rfl
theorem oGe_int (i j : Int) : oGe (.int i) (.int j) M = .ok (.bl (decide (j ≤ i))) M := rfl
theorem oLen_fz (l : List D) : oLen [.fz l] M = .ok (.int l.length) M := rfl
theorem oLen_lst (l : List D) : oLen [.lst l] M = .ok (.int l.length) M := rfl
theorem oLen_tup (l : List D) : oLen [.tup l] M = .ok (.int l.length) M := rfl
theorem oLen_str (l : List Nat) (h : l.length ≤ 16777216) : oLen [.str l] M = .ok (.int l.length) M := by
  show (if l.length ≤ 16777216 then _ else _) = _
  rw [if_pos h]
theorem mRetN_eq : mRetN env M = .ok (.rt .non) M := rfl
theorem mPar_eq (i j : Nat) (g : FA) : mPar i j g env M = (g env M).bind fun ds m => match ds with | [d, d'] => .ok (.nx ((env.set i (some d)).set j (some d'))) m | _ => .no := rfl
theorem mAug_eq (i : Nat) (o : D → D → Mem → R D) (f : FE) : mAug i o f env M = match env[i]? with | some (some x) => (f env M).bind fun d m => (o x d m).bind fun z m' => .ok (.nx (env.set i (some z))) m' | _ => .no := rfl
theorem tOf_eq (f : FE) : tOf f env M = (f env M).bind fun d m => match truD m d with | some b => .ok b m | none => .no := rfl
theorem tAndM_eq (f g : FT) : tAndM f g env M = (f env M).bind fun b m => if b = true then g env m else .ok false m := rfl
theorem tOrM_eq (f g : FT) : tOrM f g env M = (f env M).bind fun b m => if b = true then .ok true m else g env m := rfl
theorem tNotM_eq (f : FT) : tNotM f env M = (f env M).bind fun b m => .ok (!b) m := rfl
theorem tsYes_eq : tsYes env M = .ok true M := rfl
theorem mFunKw_eq (n m np : Nat) (π : Perm2) (dd : List D) (g : FD) (fa fk : FA) : mFunKw n m np π dd g fa fk env M = (fa env M).bind fun ds m1 => (fk env m1).bind fun zs m2 => if ds.length = n ∧ zs.length = m ∧ (π.on ds (zs ++ dd)).length = np then g (π.on ds (zs ++ dd)) m2 else .no := rfl
theorem piApp_on {α : Type} (a b : List α) : piApp.on a b = a ++ b := rfl
theorem mAnd_eq (f g : FE) : mAnd f g env M = (f env M).bind fun d m => match d with | .bl true => g env m | .bl false => .ok (.bl false) m | _ => .no := rfl
theorem mOr_eq (f g : FE) : mOr f g env M = (f env M).bind fun d m => match d with | .bl true => .ok (.bl true) m | .bl false => g env m | _ => .no := rfl
theorem mNot_eq (f : FE) : mNot f env M = (f env M).bind fun d m => match d with | .bl b => .ok (.bl (!b)) m | _ => .no := rfl
theorem mIf_eq (t : FT) (f g : FE) : mIf t f g env M = (t env M).bind fun b m => if b = true then f env m else g env m := rfl
theorem mChain_eq (o o' : D → D → Mem → R D) (fa fb fc : FE) : mChain o o' fa fb fc env M = (fa env M).bind fun x m => (fb env m).bind fun y m => (o x y m).bind fun z m => match z with | .bl true => (fc env m).bind fun w m => o' y w m | .bl false => .ok (.bl false) m | _ => .no := rfl
theorem mSl_eq (c : Bool) (f : FE) (lo hi : FO) : mSl c f lo hi env M = (f env M).bind fun d m => (lo env m).bind fun l m1 => (hi env m1).bind fun h m2 => oSl c d l h m2 := rfl
theorem pNone_eq : pNone env M = .ok none M := rfl
theorem pSome_eq (f : FE) : pSome f env M = (f env M).bind fun d m => match d with | .int i => .ok (some i) m | _ => .no := rfl
theorem gN_eq (i : Nat) (d : D) : gN i d env M = .ok (env.set i (some d)) M := rfl
theorem gT_eq (n : Nat) (g : FGs) (d : D) : gT n g d env M = match d with | .tup l => if l.length = n then g l env M else .no | .ct l => if l.length = n then g l env M else .no | _ => .no := rfl
theorem gsNil_eq (ds : List D) : gsNil ds env M = match ds with | [] => .ok env M | _ => .no := rfl
theorem gsCons_eq (f : FG) (g : FGs) (ds : List D) : gsCons f g ds env M = match ds with | d :: r => (f d env M).bind fun env' m => g r env' m | [] => .no := rfl
theorem oMax_int (i j : Int) : oMax [.int i, .int j] M = .ok (.int (if j > i then j else i)) M := rfl
theorem oMin_int (i j : Int) : oMin [.int i, .int j] M = .ok (.int (if j < i then j else i)) M := rfl
theorem oInt_bl (b : Bool) : oInt [.bl b] M = .ok (.int (if b = true then 1 else 0)) M := rfl
theorem oInt_int (b : Int) : oInt [.int b] M = .ok (.int b) M := rfl
theorem oIsi_bl (b : Bool) (T : String) : oIsi T (.bl b) M = .ok (.bl (isTy "bool" T)) M := rfl
theorem oNeg_int (i : Int) : oNeg (.int i) M = .ok (.int (-i)) M := rfl
theorem oTuple_lst (l : List D) : oTuple [.lst l] M = .ok (.tup l) M := rfl
theorem oTuple_tup (l : List D) : oTuple [.tup l] M = .ok (.tup l) M := rfl
theorem iR1_eq (g : FA) : iR1 g env M = (g env M).bind fun ds m => match ds with | [.int j] => if rngOk j = true then .ok ⟨rngItems 0 j.toNat, fun _ => True⟩ m else .no | _ => .no := rfl
theorem iR2_eq (g : FA) : iR2 g env M = (g env M).bind fun ds m => match ds with | [.int i, .int j] => if rngOk i = true ∧ rngOk j = true then .ok ⟨rngItems i (j - i).toNat, fun _ => True⟩ m else .no | _ => .no := rfl
theorem iSq_eq (f : FE) : iSq f env M = (f env M).bind fun d m => match srcOf m d with | some s => .ok s m | none => .no := rfl
theorem iStrM_eq (f : FE) : iStrM f env M = (f env M).bind fun d m => match d with | .str x => .ok ⟨x.map fun c => .str [c], fun _ => True⟩ m | _ => .no := rfl
theorem srcOf_tup (l : List D) : srcOf M (.tup l) = some ⟨l, fun _ => True⟩ := rfl
theorem srcOf_lst (l : List D) : srcOf M (.lst l) = some ⟨l, fun _ => True⟩ := rfl
theorem srcOf_fz (l : List D) : srcOf M (.fz l) = some ⟨l, fun _ => True⟩ := rfl
end
theorem p64 : (2 : Int) ^ 64 = 18446744073709551616 := by decide +kernel
theorem mul_small {i j : Int} (h1 : -18446744073709551616 < j) (h2 : j < 18446744073709551616) : mulOk i j = true := by
  unfold mulOk
  rw [p64]
  simp only [Bool.or_eq_true, decide_eq_true_eq]
  exact Or.inl (Or.inr ⟨h1, h2⟩)
theorem mul_smallL {i j : Int} (h1 : -18446744073709551616 < i) (h2 : i < 18446744073709551616) : mulOk i j = true := by
  unfold mulOk
  rw [p64]
  simp only [Bool.or_eq_true, decide_eq_true_eq]
  exact Or.inl (Or.inl ⟨h1, h2⟩)
theorem oMul_r (c : Bool) (i j : Int) {M : Mem} (h1 : -18446744073709551616 < j) (h2 : j < 18446744073709551616) : oMul c (.int i) (.int j) M = .ok (.int (i * j)) M := oMul_int c i j (mul_small h1 h2)
theorem oMul_l (c : Bool) (i j : Int) {M : Mem} (h1 : -18446744073709551616 < i) (h2 : i < 18446744073709551616) : oMul c (.int i) (.int j) M = .ok (.int (i * j)) M := oMul_int c i j (mul_smallL h1 h2)
theorem i1 : -18446744073709551616 < (7919 : Int) := by omega
theorem i2 : (7919 : Int) < 18446744073709551616 := by omega
theorem i3 : -18446744073709551616 < (7 : Int) := by omega
theorem i4 : (7 : Int) < 18446744073709551616 := by omega
theorem i5 : (0 : Int) < 2147483629 := by omega
theorem i6 : -18446744073709551616 < (48271 : Int) := by omega
theorem i7 : (48271 : Int) < 18446744073709551616 := by omega
theorem i8 : (0 : Int) < 2147483647 := by omega
theorem i9 : -18446744073709551616 < (31 : Int) := by omega
theorem i10 : (31 : Int) < 18446744073709551616 := by omega
theorem i11 : -18446744073709551616 < (40692 : Int) := by omega
theorem i12 : (40692 : Int) < 18446744073709551616 := by omega
theorem i16 : (0 : Int) < 2147483579 := by omega
theorem i17 : (0 : Int) < 31 := by omega
theorem i18 : (31 : Int) < 1000000000000000000000000 := by omega
def intsD (ns : List Int) : List D := ns.map .int
def cellV (ns : List Int) (k : Nat) : Int :=
  if h : k < ns.length then ns[k] else
  if 0 < ns.length then (ns.getD (k * 7 % ns.length) 0 % 2147483629 * 48271 + k * 7919) % 2147483647 * 31 else ((k : Int) * 7919 + 5) % 2147483647 * 31
/-- the body of _law_cell -/
def cellB : FS := (mSeq (mIfS (bOf (mOp oLt (mVar 1) (mCall oLen (aCons (mVar 0) aNil)))) (mRet (mOp oIx (mVar 0) (mVar 1))) mPass) (mSeq (mSet 2 (mOp (oAdd false) (mOp (oMul false) (mVar 1) (mC (.int 7919))) (mC (.int 5)))) (mSeq (mIfS (bOf (mOp oGt (mCall oLen (aCons (mVar 0) aNil)) (mC (.int 0)))) (mSet 2 (mOp (oAdd false) (mOp (oMul false) (mOp oMod (mOp oIx (mVar 0) (mOp oMod (mOp (oMul false) (mVar 1) (mC (.int 7))) (mCall oLen (aCons (mVar 0) aNil)))) (mC (.int 2147483629))) (mC (.int 48271))) (mOp (oMul false) (mVar 1) (mC (.int 7919))))) mPass) (mRet (mOp (oMul false) (mOp oMod (mVar 2) (mC (.int 2147483647))) (mC (.int 31)))))))
theorem cell_run (ns : List Int) (k : Nat) (M : Mem) : cellB [some (.fz (intsD ns)), some (.int k), none] M = .ok (.rt (.int (cellV ns k))) M := by
  by_cases h : k < ns.length
  · have h' : decide ((k : Int) < (ns.length : Int)) = true := decide_eq_true (by omega)
    have hat : atI (ns.map D.int) (k : Int) = some (.int ns[k]) := atI_nat (by simp [h])
    simp -implicitDefEqProofs only [mSeq_eq, mIfS_eq, mSet_eq, mRet_eq, mRetN_eq, mExpr_eq, mPass_eq, mAsg_eq, mPar_eq, mAug_eq, bOf_eq, tOf_eq, tAndM_eq, tOrM_eq, tNotM_eq, tsYes_eq, mOp_eq, mUn_eq, mVar_eq, mC_eq, mCall_eq, mFun_eq, mFunKw_eq, mMeth_eq, mAnd_eq, mOr_eq, mNot_eq, mIf_eq, mChain_eq, mSl_eq, pNone_eq, pSome_eq, aCons_eq, aNil_eq, mTup_eq, mLst_eq, gN_eq, gT_eq, gsNil_eq, gsCons_eq, mkL_t, mkL_f, R.bind_ok, R.bind_no, R.nox_ok, List.getElem?_cons_zero, List.getElem?_cons_succ, List.set_cons_zero, List.set_cons_succ, List.length_cons, List.length_nil, List.append_nil, List.nil_append, List.cons_append, piApp_on, oLen_fz, oLen_lst, oLen_tup, oLt_int, oLe_int, oGt_int, oGe_int, oAdd_int, oSub_int, oIx_fz, oIx_lst, oIx_tup, oMax_int, oMin_int, oInt_bl, oInt_int, oIsi_bl, oNeg_int, oTuple_lst, oTuple_tup, iR1_eq, iR2_eq, iSq_eq, iStrM_eq, srcOf_tup, srcOf_lst, srcOf_fz, if_true, if_false, Bool.false_eq_true, Bool.true_eq_false, reduceIte, Nat.reduceAdd, Nat.reduceLeDiff, Nat.reduceEqDiff, decide_true, decide_false, and_self, and_true, true_and, cellB, intsD, List.length_map, h', hat]
    simp [cellV, h]
  · have h' : decide ((k : Int) < (ns.length : Int)) = false := decide_eq_false (by omega)
    by_cases h0 : 0 < ns.length
    · have h0' : decide ((0 : Int) < (ns.length : Int)) = true := decide_eq_true (by omega)
      have hk : ((k : Int) * 7) % (ns.length : Int) = ((k * 7 % ns.length : Nat) : Int) := by simp
      have hl : k * 7 % ns.length < ns.length := Nat.mod_lt _ h0
      have hat : atI (ns.map D.int) ((k * 7 % ns.length : Nat) : Int) = some (.int (ns.getD (k * 7 % ns.length) 0)) := atI_nat (by
        rw [List.getElem?_map, List.getElem?_eq_getElem hl]
        simp [List.getD, List.getElem?_eq_getElem hl])
      simp -implicitDefEqProofs only [mSeq_eq, mIfS_eq, mSet_eq, mRet_eq, mRetN_eq, mExpr_eq, mPass_eq, mAsg_eq, mPar_eq, mAug_eq, bOf_eq, tOf_eq, tAndM_eq, tOrM_eq, tNotM_eq, tsYes_eq, mOp_eq, mUn_eq, mVar_eq, mC_eq, mCall_eq, mFun_eq, mFunKw_eq, mMeth_eq, mAnd_eq, mOr_eq, mNot_eq, mIf_eq, mChain_eq, mSl_eq, pNone_eq, pSome_eq, aCons_eq, aNil_eq, mTup_eq, mLst_eq, gN_eq, gT_eq, gsNil_eq, gsCons_eq, mkL_t, mkL_f, R.bind_ok, R.bind_no, R.nox_ok, List.getElem?_cons_zero, List.getElem?_cons_succ, List.set_cons_zero, List.set_cons_succ, List.length_cons, List.length_nil, List.append_nil, List.nil_append, List.cons_append, piApp_on, oLen_fz, oLen_lst, oLen_tup, oLt_int, oLe_int, oGt_int, oGe_int, oAdd_int, oSub_int, oIx_fz, oIx_lst, oIx_tup, oMax_int, oMin_int, oInt_bl, oInt_int, oIsi_bl, oNeg_int, oTuple_lst, oTuple_tup, iR1_eq, iR2_eq, iSq_eq, iStrM_eq, srcOf_tup, srcOf_lst, srcOf_fz, if_true, if_false, Bool.false_eq_true, Bool.true_eq_false, reduceIte, Nat.reduceAdd, Nat.reduceLeDiff, Nat.reduceEqDiff, decide_true, decide_false, and_self, and_true, true_and, cellB, intsD, List.length_map, h', h0', oMul_r _ _ 7919 i1 i2, oMul_r _ _ 7 i3 i4, oMod_int _ (ns.length : Int) (by omega), hk, hat, oMod_int _ 2147483629 i5, oMul_r _ _ 48271 i6 i7, oMod_int _ 2147483647 i8, oMul_r _ _ 31 i9 i10]
      simp only [cellV, dif_neg h, if_pos h0]
    · have h0' : decide ((0 : Int) < (ns.length : Int)) = false := decide_eq_false (by omega)
      simp -implicitDefEqProofs only [mSeq_eq, mIfS_eq, mSet_eq, mRet_eq, mRetN_eq, mExpr_eq, mPass_eq, mAsg_eq, mPar_eq, mAug_eq, bOf_eq, tOf_eq, tAndM_eq, tOrM_eq, tNotM_eq, tsYes_eq, mOp_eq, mUn_eq, mVar_eq, mC_eq, mCall_eq, mFun_eq, mFunKw_eq, mMeth_eq, mAnd_eq, mOr_eq, mNot_eq, mIf_eq, mChain_eq, mSl_eq, pNone_eq, pSome_eq, aCons_eq, aNil_eq, mTup_eq, mLst_eq, gN_eq, gT_eq, gsNil_eq, gsCons_eq, mkL_t, mkL_f, R.bind_ok, R.bind_no, R.nox_ok, List.getElem?_cons_zero, List.getElem?_cons_succ, List.set_cons_zero, List.set_cons_succ, List.length_cons, List.length_nil, List.append_nil, List.nil_append, List.cons_append, piApp_on, oLen_fz, oLen_lst, oLen_tup, oLt_int, oLe_int, oGt_int, oGe_int, oAdd_int, oSub_int, oIx_fz, oIx_lst, oIx_tup, oMax_int, oMin_int, oInt_bl, oInt_int, oIsi_bl, oNeg_int, oTuple_lst, oTuple_tup, iR1_eq, iR2_eq, iSq_eq, iStrM_eq, srcOf_tup, srcOf_lst, srcOf_fz, if_true, if_false, Bool.false_eq_true, Bool.true_eq_false, reduceIte, Nat.reduceAdd, Nat.reduceLeDiff, Nat.reduceEqDiff, decide_true, decide_false, and_self, and_true, true_and, cellB, intsD, List.length_map, h', h0', oMul_r _ _ 7919 i1 i2, oMod_int _ 2147483647 i8, oMul_r _ _ 31 i9 i10]
      simp only [cellV, dif_neg h, if_neg h0]
structure Fl where
  own : Int
  cnt : Int
  seed : Int
def Fl.c (s : Fl) : Cell := .lst [.int s.own, .int s.cnt, .int s.seed]
/-- a flow that may be drawn of -/
def Fl.ok (s : Fl) : Prop := -9223372036854775808 < s.seed ∧ s.seed < 9223372036854775808
theorem pow_10_18 {M : Mem} : oPow (.int 10) (.int 18) M = .ok (.int 1000000000000000000) M := by
  have h : powOk 10 18 = true := by decide +kernel
  have e : (10 : Int) ^ (18 : Int).toNat = 1000000000000000000 := by decide +kernel
  simp only [oPow, oIC, h, if_true, e]
theorem oIx_ref {M : Mem} {i : Nat} {l : List D} (h : M[i]? = some (.lst l)) (k : Int) : oIx (.ref i) (.int k) M = match atI l k with | some d => .ok d M | none => .no := by
  simp only [oIx, seqOf, lstOf, h]
  all_goals rfl
theorem at0 {α : Type} (a b c : α) : atI [a, b, c] 0 = some a := rfl
theorem at1 {α : Type} (a b c : α) : atI [a, b, c] 1 = some b := rfl
theorem at2 {α : Type} (a b c : α) : atI [a, b, c] 2 = some c := rfl
theorem gIx_eq (fo fi : FE) (d : D) {env : Env} {M : Mem} : gIx fo fi d env M = (fo env M).bind fun o m => (fi env m).bind fun i m' => match o, i with
  | .ref j, .int k => match m'[j]? with
    | some (.lst l) => match ixN l.length k with
      | some n => .ok env (m'.set j (.lst (l.set n d)))
      | none => .no
    | _ => .no
  | _, _ => .no := rfl
theorem ix30 : ixN 3 0 = some 0 := rfl
theorem ix31 : ixN 3 1 = some 1 := rfl
theorem div_ok {many : Int} (h : 0 < many) (h2 : many < 1000000000000000000000000) (i : Int) : divOk i many = true := by
  unfold divOk
  simp only [Bool.and_eq_true, decide_eq_true_eq]
  refine ⟨h, ?_⟩
  have : many.natAbs < 2 ^ 80 := by
    have : (2 : Nat) ^ 80 = 1208925819614629174706176 := by decide +kernel
    omega
  exact Nat.lt_of_lt_of_le (PySem.Flt.log2_lt_of (by decide) this) (by decide)
theorem forL_nil {g : FG} {body : FS} {env : Env} {M : Mem} : forL (fun _ => True) g body [] env M = .ok (.nx env) M := by
  unfold forL; rw [if_pos trivial]
theorem forL_cons {g : FG} {body : FS} {d : D} {r : List D} {env : Env} {M : Mem} : forL (fun _ => True) g body (d :: r) env M = (g d env M).bind fun env1 m1 => (body env1 m1).bind fun fl m => match fl with
      | .nx env' => forL (fun _ => True) g body r env' m
      | .ct env' => forL (fun _ => True) g body r env' m
      | .bk env' => .ok (.nx env') m
      | .rt d => .ok (.rt d) m := by
  conv => lhs; unfold forL
  rw [if_pos trivial]
  all_goals rfl
theorem forL_inv {g : FG} {body : FS} (P : Nat → Env → Mem → Prop) : ∀ (items : List D) (k0 : Nat) (env : Env) (M : Mem), P k0 env M →
    (∀ (k : Nat) d env M, items[k]? = some d → P (k0 + k) env M → ∃ env' m', ((g d env M).bind fun e1 m1 => body e1 m1) = .ok (.nx env') m' ∧ P (k0 + k + 1) env' m') →
    ∃ env' m', forL (fun _ => True) g body items env M = .ok (.nx env') m' ∧ P (k0 + items.length) env' m'
  | [], k0, env, M, h0, _ => ⟨env, M, forL_nil, h0⟩
  | d :: r, k0, env, M, h0, hs => by
    obtain ⟨env1, m1, e1, h1⟩ := hs 0 d env M rfl h0
    obtain ⟨env2, m2, e2, h2⟩ := forL_inv P r (k0 + 1) env1 m1 h1 fun k d' env' M' hk hp => by
      have := hs (k + 1) d' env' M' (by simpa using hk) (by rw [show k0 + (k + 1) = k0 + 1 + k by omega]; exact hp)
      rw [show k0 + (k + 1) + 1 = k0 + 1 + k + 1 by omega] at this
      exact this
    refine ⟨env2, m2, ?_, by rw [show k0 + (d :: r).length = k0 + 1 + r.length by simp; omega]; exact h2⟩
    rw [forL_cons]
    obtain ⟨ea, ma, ea1, ea2⟩ := R.bind_eq e1
    rw [ea1, R.bind_ok, ea2, R.bind_ok]
    exact e2
theorem compL_nil {g : FG} {t : FT} {f : FE} {env : Env} {M : Mem} : compL (fun _ => True) g t f env [] M = .ok [] M := by
  unfold compL; rw [if_pos trivial]
theorem compL_cons {g : FG} {t : FT} {f : FE} {env : Env} {d : D} {r : List D} {M : Mem} : compL (fun _ => True) g t f env (d :: r) M = (g d env M).bind fun env1 m1 => (t env1 m1).bind fun b m2 => if b = true then (f env1 m2).bind fun y m3 => (compL (fun _ => True) g t f env r m3).bind fun ys m4 => .ok (y :: ys) m4 else compL (fun _ => True) g t f env r m2 := by
  conv => lhs; unfold compL
  rw [if_pos trivial]
/-- a comprehension without tests, its elements each by the memory as it is -/
theorem compL_inv {g : FG} {f : FE} {env : Env} (P : Nat → Mem → Prop) (Y : Nat → D → D → Prop) : ∀ (items : List D) (k0 : Nat) (M : Mem), P k0 M →
    (∀ (k : Nat) d M, items[k]? = some d → P (k0 + k) M → ∃ y m', ((g d env M).bind fun e1 m1 => f e1 m1) = .ok y m' ∧ Y (k0 + k) d y ∧ P (k0 + k + 1) m') →
    ∃ ys m', compL (fun _ => True) g tsYes f env items M = .ok ys m' ∧ ys.length = items.length ∧ (∀ (k : Nat) d y, items[k]? = some d → ys[k]? = some y → Y (k0 + k) d y) ∧ P (k0 + items.length) m'
  | [], k0, M, h0, _ => ⟨[], M, compL_nil, rfl, fun k d y e => by simp at e, h0⟩
  | d :: r, k0, M, h0, hs => by
    obtain ⟨y, m1, e1, y1, h1⟩ := hs 0 d M rfl h0
    obtain ⟨ys, m2, e2, l2, y2, h2⟩ := compL_inv P Y r (k0 + 1) m1 h1 fun k d' M' hk hp => by
      have := hs (k + 1) d' M' (by simpa using hk) (by rw [show k0 + (k + 1) = k0 + 1 + k by omega]; exact hp)
      rw [show k0 + (k + 1) + 1 = k0 + 1 + k + 1 by omega, show k0 + (k + 1) = k0 + 1 + k by omega] at this
      exact this
    refine ⟨y :: ys, m2, ?_, by simp [l2], fun k d' y' hk hy => ?_, by rw [show k0 + (d :: r).length = k0 + 1 + r.length by simp; omega]; exact h2⟩
    · rw [compL_cons]
      obtain ⟨ea, ma, ea1, ea2⟩ := R.bind_eq e1
      rw [ea1, R.bind_ok, tsYes_eq, R.bind_ok, if_pos rfl, ea2, R.bind_ok, e2, R.bind_ok]
    · cases k with
      | zero => simp at hk hy; subst hk hy; exact y1
      | succ k => rw [show k0 + (k + 1) = k0 + 1 + k by omega]; exact y2 k d' y' (by simpa using hk) (by simpa using hy)
theorem mLc_eq (c : Bool) (vs : List Nat) (fi : FI) (g : FG) (t : FT) (f : FE) {env : Env} {M : Mem} : mLc c vs fi g t f env M = (fi env M).bind fun src m => if src.items.length < 16777216 then (compL src.still g t f (wipeE env vs) src.items m).nox.bind fun ys m' => mkL c ys m' else .no := rfl
theorem mFor_eq (f : FI) (g : FG) (body : FS) {env : Env} {M : Mem} : mFor f g body env M = (f env M).bind fun src m => forL src.still g body src.items env m := rfl
theorem runB_rt {B : FS} {N : Nat} {ds : List D} {M m : Mem} {d : D} (h : B (envStart N ds) M = .ok (.rt d) m) : runB B N ds M = .ok d m := by
  unfold runB; rw [h]
theorem runB_nx {B : FS} {N : Nat} {ds : List D} {M m : Mem} {env : Env} (h : B (envStart N ds) M = .ok (.nx env) m) : runB B N ds M = .ok .non m := by
  unfold runB; rw [h]
theorem set_twice {M : Mem} {i : Nat} {a b : Cell} : (M.set i a).set i b = M.set i b := List.set_set ..
/-- the memory bears a flow at i, else as M0 -/
structure FlAt (M0 : Mem) (i : Nat) (M : Mem) : Prop where
  at_ : ∃ s : Fl, s.ok ∧ M = M0.set i s.c
  lt : i < M0.length
theorem FlAt.get {M0 M : Mem} {i : Nat} (h : FlAt M0 i M) : ∃ s : Fl, s.ok ∧ M[i]? = some s.c ∧ ∀ s' : Fl, s'.ok → FlAt M0 i (M.set i s'.c) := by
  obtain ⟨s, h1, h2⟩ := h.at_
  refine ⟨s, h1, by rw [h2]; exact List.getElem?_set_self h.lt, fun s' hs => ⟨⟨s', hs, by rw [h2, set_twice]⟩, h.lt⟩⟩
theorem FlAt.start {M : Mem} {i : Nat} {s : Fl} (hs : s.ok) (h : M[i]? = some s.c) : FlAt M i M := by
  obtain ⟨h1, h2⟩ := List.getElem?_eq_some_iff.mp h
  exact ⟨⟨s, hs, by rw [← h2, List.set_getElem_self]⟩, h1⟩
theorem FlAt.len {M0 M : Mem} {i : Nat} (h : FlAt M0 i M) : M.length = M0.length := by
  obtain ⟨s, _, h2⟩ := h.at_
  rw [h2, List.length_set]
theorem FlAt.other {M0 M : Mem} {i j : Nat} (h : FlAt M0 i M) (hj : i ≠ j) : M[j]? = M0[j]? := by
  obtain ⟨s, _, e⟩ := h.at_
  rw [e, List.getElem?_set_ne hj]
theorem rngItems_get {lo : Int} {n k : Nat} {d : D} (h : (rngItems lo n)[k]? = some d) : d = .int (lo + (k : Int)) ∧ k < n := by
  unfold rngItems at h
  rw [List.getElem?_map] at h
  cases q : (List.range n)[k]? with
  | none => rw [q] at h; cases h
  | some j =>
    rw [q] at h; cases h
    obtain ⟨h1, h2⟩ := List.getElem?_eq_some_iff.mp q
    simp at h1 h2
    subst h2
    exact ⟨rfl, h1⟩
theorem rngItems_len {lo : Int} {n : Nat} : (rngItems lo n).length = n := by simp [rngItems]
theorem rngOk_of {i : Int} (h1 : 0 ≤ i) (h2 : i < 4611686018427387904) : rngOk i = true := by
  unfold rngOk
  have e : (2 : Int) ^ 62 = 4611686018427387904 := by decide +kernel
  rw [e]
  simp only [Bool.and_eq_true, decide_eq_true_eq]
  omega
theorem oSl_str {c : Bool} {x : List Nat} {lo hi : Option Int} {M : Mem} (h : x.length ≤ 16777216) : oSl c (.str x) lo hi M = .ok (.str (cutD x lo hi)) M := by
  simp only [oSl, h, if_true]
theorem oSl_tup {c : Bool} {x : List D} {lo hi : Option Int} {M : Mem} : oSl c (.tup x) lo hi M = .ok (.tup (cutD x lo hi)) M := rfl
theorem oSl_lst {x : List D} {lo hi : Option Int} {M : Mem} : oSl false (.lst x) lo hi M = .ok (.lst (cutD x lo hi)) M := rfl
theorem oSl_fz {x : List D} {lo hi : Option Int} {M : Mem} : oSl false (.fz x) lo hi M = .ok (.lst (cutD x lo hi)) M := rfl
theorem cutD_take {α : Type} (xs : List α) (k : Nat) : cutD xs none (some (k : Int)) = xs.take k := by
  unfold cutD
  rw [HT.sIx_none, HT.sIx_nat, List.drop_zero, Nat.sub_zero]
  by_cases h : k ≤ xs.length
  · rw [Nat.min_eq_left h]
  · rw [Nat.min_eq_right (by omega), List.take_of_length_le (Nat.le_refl _), List.take_of_length_le (by omega)]
theorem cutD_drop {α : Type} (xs : List α) (k : Nat) : cutD xs (some (k : Int)) none = xs.drop k := by
  unfold cutD
  rw [HT.sIx_none, HT.sIx_nat]
  by_cases h : k ≤ xs.length
  · rw [Nat.min_eq_left h, List.take_of_length_le]
    rw [List.length_drop]
    omega
  · rw [Nat.min_eq_right (by omega), List.drop_eq_nil_of_le (Nat.le_refl _), List.drop_eq_nil_of_le (by omega)]
    simp
theorem oIx_str {x : List Nat} {i : Int} {c : Nat} {M : Mem} (h : x.length ≤ 16777216) (e : atI x i = some c) : oIx (.str x) (.int i) M = .ok (.str [c]) M := by
  simp only [oIx, h, if_true, e]
theorem atI_some {α : Type} {xs : List α} {i : Int} (h0 : 0 ≤ i) (h1 : i < xs.length) : ∃ v, atI xs i = some v ∧ v ∈ xs := by
  obtain ⟨j, rfl⟩ : ∃ j : Nat, i = (j : Int) := ⟨i.toNat, by omega⟩
  have hj : j < xs.length := by omega
  exact ⟨xs[j], atI_nat (List.getElem?_eq_getElem hj), List.getElem_mem hj⟩
theorem oAdd_str {c : Bool} {a b : List Nat} {M : Mem} (h : a.length + b.length ≤ 16777216) : oAdd c (.str a) (.str b) M = .ok (.str (a ++ b)) M := by
  show oAddS (.str a) (.str b) M = _
  simp only [oAddS, h, if_true]
theorem oEq_bl (ne a b : Bool) {M : Mem} : oEq ne (.bl a) (.bl b) M = .ok (.bl (if ne = true then !(a == b) else (a == b))) M := by
  cases ne <;> rfl
theorem oEq_int (ne : Bool) (a b : Int) {M : Mem} : oEq ne (.int a) (.int b) M = .ok (.bl (if ne = true then !(a == b) else (a == b))) M := by
  cases ne <;> rfl
end Fn
set_option Elab.async false
set_option linter.all false
set_option maxRecDepth 100000
set_option maxHeartbeats 1000000
namespace Fn
open PySem PySem.Spec PyProof.Rows L2
section
variable {X : Cx} {G : Gx} {cl : Nat → Addr} {E : XK} {W : Wd} {H : Hp} {M : Mem} {a b c : Expr} {fa fb fc : FE} {pos : Pos}
def putD (f : Str) (v : D) : List (Str × D) → List (Str × D)
  | [] => [(f, v)]
  | (g, x) :: r => if g = f then (g, v) :: r else (g, x) :: putD f v r
theorem rpk_put {f : Str} {d : D} {u : V} (r : Rp G W H d u) : ∀ {fs : List (Str × D)} {vs : List (Str × V)}, RpK G W H id fs vs → RpK G W H id (putD f d fs) (putF f u vs)
  | _, _, .nil => .cons ⟨rfl, r⟩ .nil
  | (g, x) :: fs, (g', x') :: vs, .cons h t => by
    have e : g = g' := h.1
    subst e
    show RpK G W H id (if g = f then _ else _) (if g = f then _ else _)
    by_cases q : g = f
    · rw [if_pos q, if_pos q]
      exact .cons ⟨rfl, r⟩ t
    · rw [if_neg q, if_neg q]
      exact .cons h (rpk_put r t)
theorem rpk_get {f : Str} {d : D} : ∀ {fs : List (Str × D)} {vs : List (Str × V)}, RpK G W H id fs vs → fs.lookup f = some d → ∃ u, vs.lookup f = some u ∧ Rp G W H d u
  | _, _, .nil, e => by cases e
  | (g, x) :: fs, (g', x') :: vs, .cons h t, e => by
    have q : g = g' := h.1
    subst q
    simp only [List.lookup] at e ⊢
    cases k : f == g with
    | true => rw [k] at e; cases e; exact ⟨x', rfl, h.2⟩
    | false => rw [k] at e; exact rpk_get t e
theorem rpk_none {f : Str} : ∀ {fs : List (Str × D)} {vs : List (Str × V)}, RpK G W H id fs vs → fs.lookup f = none → vs.lookup f = none
  | _, _, .nil, e => rfl
  | (g, x) :: fs, (g', x') :: vs, .cons h t, e => by
    have q : g = g' := h.1
    subst q
    simp only [List.lookup] at e ⊢
    cases k : f == g with
    | true => rw [k] at e; cases e
    | false => rw [k] at e; exact rpk_none t e
theorem rpk_len {fs : List (Str × D)} {vs : List (Str × V)} (h : RpK G W H id fs vs) : vs.length = fs.length := by
  induction h with
  | nil => rfl
  | cons _ _ ih => simp [ih]
/-- the attributes of an instance of the class c0 -/
def insOf (c0 : Nat) (M : Mem) : D → Option (Nat × List (Str × D))
  | .ref i => match M[i]? with
    | some (.ins c fs) => if c = c0 then some (i, fs) else none
    | _ => none
  | _ => none
theorem insOf_ok {c0 : Nat} (m : MemOk G W H M) {d : D} {u : V} {i : Nat} {fs : List (Str × D)} (r : Rp G W H d u) (e : insOf c0 M d = some (i, fs)) : d = .ref i ∧ ∃ a dx vs, u = .ref a ∧ W.as[i]? = some a ∧ H a = some (.ins (G.cl c0) dx vs) ∧ RpK G W H id fs vs := by
  unfold insOf at e
  split at e
  · rename_i j
    split at e
    · rename_i c fs' hc
      split at e
      · rename_i hcc
        subst hcc
        cases e
        obtain ⟨a, e1, e2⟩ := r
        obtain ⟨dx, vs, h1, h2⟩ := m.cell _ _ a hc e1
        exact ⟨rfl, a, dx, vs, e2, e1, h1, h2⟩
      · cases e
    · cases e
  · cases e
/-- e.f -/
def mFld (c0 : Nat) (f : Str) (fa : FE) : FE := fun env M => (fa env M).bind fun d m => match insOf c0 m d with
  | some (_, fs) => match fs.lookup f with
    | some v => .ok v m
    | none => .no
  | none => .no
theorem sn_fld {f : Str} {c0 : Nat} (hc : Cls X.K (cl c0)) (hn : NoAttr X.K (cl c0) f) (ha : PE X a (tE ⟨X.K, cl⟩ E fa)) (hb : attributeBase a f X.env (eval a X.env) = eval a X.env := by rfl) : PE X (.Attribute a f pos) (tE ⟨X.K, cl⟩ E (mFld c0 f fa)) := pe_imp (pe_fld ha hb) fun σ H Q ⟨W, env, M, s, p⟩ => by
  refine tE.bind s p fun d m W1 H1 u f1 s1 r1 p1 => ?_
  split at p1
  · rename_i i fs e
    split at p1
    · rename_i v hv
      obtain ⟨_, a1, dx, vs, e2, e3, h1, h2⟩ := insOf_ok s1.mem r1 e
      obtain ⟨w, h3, h4⟩ := rpk_get h2 hv
      exact ⟨a1, _, dx, vs, w, e2, h1, hc, hn, h3, p1.here s1.mem _ h4⟩
    · exact p1.elim
  · exact p1.elim
/-- e.f = v -/
def mFldSet (c0 : Nat) (f : Str) (fa fv : FE) : FS := fun env M => (fv env M).bind fun v m => (fa env m).bind fun d m2 => match insOf c0 m2 d with
  | some (i, fs) => if fs.length < 1000 then .ok (.nx env) (m2.set i (.ins c0 (putD f v fs))) else .no
  | none => .no
theorem ss_fld {f : Str} {c0 : Nat} {pos' : Pos} (hc : Cls X.K (cl c0)) (hn : NoAttr X.K (cl c0) f) (ha : PE X a (tE ⟨X.K, cl⟩ E fa)) (hb : PE X b (tE ⟨X.K, cl⟩ E fb)) (hs : swapsWith b (some (.Attribute a f pos')) pos.line X.env = pure false := by rfl) : PS X (.Assign [.Attribute a f pos'] b pos) (tS ⟨X.K, cl⟩ E (mFldSet c0 f fa fb)) := ps_imp (ps_fld ha hb hs) fun D σ H ⟨W, env, M, s, p⟩ => by
  refine tE.bind s p fun v m W1 H1 u f1 s1 r1 p1 => ?_
  refine tE.bind s1 p1 fun d m2 W2 H2 u2 f2 s2 r2 p2 => ?_
  split at p2
  · rename_i i fs e
    split at p2
    · rename_i hl
      obtain ⟨_, a1, dx, vs, e2, e3, h1, h2⟩ := insOf_ok s2.mem r2 e
      refine ⟨a1, _, dx, vs, e2, h1, hc, hn, by rw [rpk_len h2]; exact hl, ?_⟩
      have f3 := Fut.wrote (W := W2) (H := H2) (o := .ins (cl c0) dx (putF f u vs)) e3 h1 trivial
      exact p2 W2 _ f3 (s2.mem.wrote e3 ⟨dx, _, upd_same, rpk_put (s2.mem.rp f3 (s1.mem.rp f2 r1)) (h2.fut s2.mem f3)⟩) _ (s2.env.fut s2.mem f3)
    · exact p2.elim
  · exact p2.elim
def ClosedK (K : PySem.W.Frag) (cl : Nat → Addr) (dd : List D) (dvs : List V) : Prop := ∀ (W : Wd) (H : Hp), RpL ⟨K, cl⟩ W H dd dvs
theorem closedK_nil {K : PySem.W.Frag} : ClosedK K cl [] [] := fun _ _ => rfl
/-- o.x(..) -/
def mMth (c0 : Nat) (x : Str) (n : Nat) (g : FD) (dd : List D) (fo : FE) (ga : FA) : FE := fun env M => (fo env M).bind fun d m => match insOf c0 m d with
  | some (_, fs) => match fs.lookup x with
    | none => (ga env m).bind fun ds m2 => if (d :: (ds ++ dd)).length = n then g (d :: (ds ++ dd)) m2 else .no
    | some _ => .no
  | none => .no
/-- C(..) -/
def mMake (c0 : Nat) (n : Nat) (g : FD) (dd : List D) (ga : FA) : FE := fun env M => (ga env M).bind fun ds m => if (D.ref m.length :: (ds ++ dd)).length = n then (g (D.ref m.length :: (ds ++ dd)) (m ++ [.ins c0 []])).bind fun r m2 => match r with
    | .non => .ok (.ref m.length) m2
    | _ => .no
  else .no
section
variable {CX : CXT} {k n c0 : Nat} {f C : Addr} {fd : FuncData} {ps ks : List Str} {g : FD} {dvs : List V} {dd : List D} {ds : List Value} {x m : Str} {p apos : Pos} {e o : Expr} {es : List Expr} {ga : FA} {kws : List Keyword} {π : Perm2} {nk : Nat} {gk : FA}
theorem mth_reads {K : PySem.W.Frag} (hc : ClosedK K cl dd dvs) (σ : L2.St) (H : Hp) (Q : VK) (h : tE ⟨K, cl⟩ E (mMth c0 x n g dd fa ga) σ H Q) : tMeth (cl c0) x (spOf ⟨K, cl⟩ n g) dvs E (tE ⟨K, cl⟩ E fa) (tA ⟨K, cl⟩ E ga) σ H Q := by
  obtain ⟨W, env, M, s, p⟩ := h
  refine tE.bind s p fun d m W1 H1 u f1 s1 r1 p1 => ?_
  split at p1
  · rename_i i fs e
    split at p1
    · rename_i hv
      obtain ⟨hd, a1, dx, vs, e2, e3, h1, h2⟩ := insOf_ok s1.mem r1 e
      refine ⟨a1, dx, vs, e2, h1, rpk_none h2 hv, ?_⟩
      refine tA.bind s1 p1 fun ds m2 W2 H2 us f2 s2 r2 p2 => ?_
      split at p2
      · rename_i hl
        exact ⟨W2, m2, d :: (ds ++ dd), s2.mem, ⟨u, _, rfl, s1.mem.rp f2 r1, r2.append (hc W2 H2)⟩, hl, p2⟩
      · exact p2.elim
    · exact p1.elim
  · exact p1.elim
theorem sn_mth {pl : Sem Bool} (ho : PE X o (tE ⟨X.K, cl⟩ E fa)) (c : Cls X.K (cl c0)) (hm : Meth X.K (cl c0) m f) (F : FnOk X.prog X.w X.K X.mg X.base CX k f fd ps (spOf ⟨X.K, cl⟩ n g)) (hr : Room k X.A) (hb : Binds X.K fd ps ds) (hd : Vals dvs ds) (hcl : ClosedK X.K cl dd dvs) (hx : Passes CX X E) (ha : PA X (e :: es) (tA ⟨X.K, cl⟩ E ga))
    (hst : starEach (e :: es) X.env = (false, eval e X.env) :: starEach es X.env := by rfl) (hpl : (backTo pos (starEach es X.env)).any (·.1) = false := by rfl)
    (ht : eval (.Call (.Attribute o m apos) (e :: es) [] pos) X.env = (do
      let ov ← eval o X.env
      standAt apos.atName
      let (f, first) ← holding [ov] (getMethod ov m pl)
      callWith pos f first (backTo pos (starEach (e :: es) X.env)) (backToKw pos (keywordEach [] X.env))) := by rfl) :
    PE X (.Call (.Attribute o m apos) (e :: es) [] pos) (tE ⟨X.K, cl⟩ E (mMth c0 m n g dd fa ga)) := pe_imp (pe_meth ho c hm F hr hb hd hx ha hst hpl ht) (mth_reads hcl)
theorem sn_mth0 {pl : Sem Bool} (ho : PE X o (tE ⟨X.K, cl⟩ E fa)) (c : Cls X.K (cl c0)) (hm : Meth X.K (cl c0) m f) (F : FnOk X.prog X.w X.K X.mg X.base CX k f fd ps (spOf ⟨X.K, cl⟩ n g)) (hr : Room k X.A) (hb : Binds X.K fd ps ds) (hd : Vals dvs ds) (hcl : ClosedK X.K cl dd dvs) (hx : Passes CX X E)
    (ht : eval (.Call (.Attribute o m apos) [] [] pos) X.env = (do
      let ov ← eval o X.env
      standAt apos.atName
      let (f, first) ← holding [ov] (getMethod ov m pl)
      callWith pos f first (backTo pos (starEach [] X.env)) (backToKw pos (keywordEach [] X.env))) := by rfl) :
    PE X (.Call (.Attribute o m apos) [] [] pos) (tE ⟨X.K, cl⟩ E (mMth c0 m n g dd fa aNil)) := pe_imp (pe_meth0 ho c hm F hr hb hd hx ht) fun σ H Q h => by
  obtain ⟨W, env, M, s, p⟩ := h
  refine tE.bind s p fun d m W1 H1 u f1 s1 r1 p1 => ?_
  split at p1
  · rename_i i fs e
    split at p1
    · rename_i hv
      obtain ⟨hd, a1, dx, vs, e2, e3, h1, h2⟩ := insOf_ok s1.mem r1 e
      refine ⟨a1, dx, vs, e2, h1, rpk_none h2 hv, ?_⟩
      have p2 : PR ⟨X.K, cl⟩ W1 H1 (PV ⟨X.K, cl⟩ Q) E (if (d :: ([] ++ dd)).length = n then g (d :: ([] ++ dd)) m else .no) := p1
      split at p2
      · rename_i hl
        exact ⟨W1, m, d :: ([] ++ dd), s1.mem, ⟨u, _, rfl, r1, hcl W1 H1⟩, hl, p2⟩
      · exact p2.elim
    · exact p1.elim
  · exact p1.elim
/-- a new instance stands -/
theorem made_ok (m : MemOk G W H M) {x dx : Addr} (hx : H x = none) (hdx : H dx = none) (hne : dx ≠ x) : Fut W H ⟨W.as ++ [x], W.hd⟩ (upd (upd H dx (.own x)) x (.ins (G.cl c0) dx [])) ∧ MemOk G ⟨W.as ++ [x], W.hd⟩ (upd (upd H dx (.own x)) x (.ins (G.cl c0) dx [])) (M ++ [.ins c0 []]) ∧ Rp G ⟨W.as ++ [x], W.hd⟩ (upd (upd H dx (.own x)) x (.ins (G.cl c0) dx [])) (.ref M.length) (.ref x) := by
  have m1 : MemOk G W (upd H dx (.own x)) M := m.laid hdx
  have hx1 : upd H dx (.own x) x = none := by rw [upd_ne (Ne.symm hne)]; exact hx
  refine ⟨(Fut.laid hdx).trans (Fut.added m1 hx1), m1.added hx1 ⟨dx, [], upd_same, .nil⟩, x, ?_, rfl⟩
  rw [← m.len]
  simp
theorem make_post {K : PySem.W.Frag} {W1 : Wd} {H1 : Hp} {m1 : Mem} {Q : VK} {x dx : Addr} {as : List D} (mo : MemOk ⟨K, cl⟩ W1 H1 m1) (hx : H1 x = none) (hdx : H1 dx = none) (hne : dx ≠ x)
    (p : PR ⟨K, cl⟩ W1 H1 (PV ⟨K, cl⟩ Q) E ((g as (m1 ++ [.ins c0 []])).bind fun r m2 => match r with | .non => .ok (.ref m1.length) m2 | _ => .no)) :
    PR ⟨K, cl⟩ ⟨W1.as ++ [x], W1.hd⟩ (upd (upd H1 dx (.own x)) x (.ins (cl c0) dx [])) (PV ⟨K, cl⟩ fun v H2 => v = .non ∧ Q (.ref x) H2) E (g as (m1 ++ [.ins c0 []])) := by
  obtain ⟨f, m', r⟩ := made_ok (c0 := c0) mo hx hdx hne
  obtain ⟨b, hb, hb2⟩ := r
  cases hb2
  refine PR.bind (PR.fut f p) fun z m2 W2 H2 f2 k2 p2 => fun u hu => ?_
  cases z with
  | non =>
    cases hu
    exact ⟨rfl, p2.here k2 _ ⟨x, f2.get hb, rfl⟩⟩
  | _ => exact p2.elim
theorem make_reads {K : PySem.W.Frag} (hc : ClosedK K cl dd dvs) (σ : L2.St) (H : Hp) (Q : VK) (h : tE ⟨K, cl⟩ E (mMake c0 n g dd ga) σ H Q) : tMake (cl c0) (spOf ⟨K, cl⟩ n g) dvs E (tA ⟨K, cl⟩ E ga) σ H Q := by
  obtain ⟨W, env, M, s, p⟩ := h
  refine tA.bind s p fun ds m1 W1 H1 vs f1 s1 r1 p1 => ?_
  split at p1
  · rename_i hl
    intro x dx hx hdx hne
    obtain ⟨f, m', r⟩ := made_ok (c0 := c0) s1.mem hx hdx hne
    exact ⟨_, _, D.ref m1.length :: (ds ++ dd), m', ⟨_, _, rfl, r, (s1.mem.rpL f r1).append (hc _ _)⟩, hl, make_post s1.mem hx hdx hne p1⟩
  · exact p1.elim
theorem sn_make (Mk0 : Mk X.K (cl c0) f) (F : FnOk X.prog X.w X.K X.mg X.base CX k f fd ps (spOf ⟨X.K, cl⟩ n g)) (hr : Room (k + 1) X.A) (hg : Gl X x) (hm : X.mg x = some (.ref (cl c0))) (hb : Binds X.K fd ps ds) (hd : Vals dvs ds) (hc : ClosedK X.K cl dd dvs) (hx : Passes CX X E)
    (ha : PA X (e :: es) (tA ⟨X.K, cl⟩ E ga)) (hdb : (x == ("__debug__" : Str)) = false := by decide) (he : starEach (e :: es) X.env = (false, eval e X.env) :: starEach es X.env := by rfl) (hpl : (backTo pos (starEach es X.env)).any (·.1) = false := by rfl) :
    PE X (.Call (.Name x p) (e :: es) [] pos) (tE ⟨X.K, cl⟩ E (mMake c0 n g dd ga)) := pe_imp (pe_make Mk0 F hr hg hm hb hd hx ha hdb he hpl) (make_reads hc)
theorem sn_make0 (Mk0 : Mk X.K (cl c0) f) (F : FnOk X.prog X.w X.K X.mg X.base CX k f fd ps (spOf ⟨X.K, cl⟩ n g)) (hr : Room (k + 1) X.A) (hg : Gl X x) (hm : X.mg x = some (.ref (cl c0))) (hb : Binds X.K fd ps ds) (hd : Vals dvs ds) (hc : ClosedK X.K cl dd dvs) (hx : Passes CX X E)
    (hdb : (x == ("__debug__" : Str)) = false := by decide) : PE X (.Call (.Name x p) [] [] pos) (tE ⟨X.K, cl⟩ E (mMake c0 n g dd aNil)) := pe_imp (pe_make0 Mk0 F hr hg hm hb hd hx hdb) fun σ H Q ⟨W, env, M, s, p⟩ => by
  have p1 : PR ⟨X.K, cl⟩ W H (PV ⟨X.K, cl⟩ Q) E (if (D.ref M.length :: ([] ++ dd)).length = n then (g (D.ref M.length :: ([] ++ dd)) (M ++ [.ins c0 []])).bind fun r m2 => match r with | .non => .ok (.ref M.length) m2 | _ => .no else .no) := p
  split at p1
  · rename_i hl
    intro x dx hx hdx hne
    obtain ⟨f, m', r⟩ := made_ok (c0 := c0) s.mem hx hdx hne
    exact ⟨_, _, D.ref M.length :: ([] ++ dd), m', ⟨_, _, rfl, r, hc _ _⟩, hl, make_post s.mem hx hdx hne p1⟩
  · exact p1.elim
end
end
end Fn
set_option Elab.async false
set_option linter.all false
set_option maxRecDepth 100000
set_option maxHeartbeats 1000000
namespace Fn
open PySem PySem.Spec PyProof.Rows L2
section
variable {X : Cx} {G : Gx} {cl : Nat → Addr} {E : XK} {W : Wd} {H : Hp} {M : Mem} {a b c : Expr} {fa fb fc : FE} {pos : Pos}
def numb (l : List D) : List D := (List.range l.length).zipWith (fun i d => .tup [.int (i : Nat), d]) l
theorem numb_get {l : List D} {i : Nat} {d : D} (h : (numb l)[i]? = some d) : ∃ x, l[i]? = some x ∧ d = .tup [.int (i : Nat), x] := by
  unfold numb at h
  rw [List.getElem?_zipWith] at h
  cases q : l[i]? with
  | none => rw [q] at h; cases q2 : (List.range l.length)[i]? <;> rw [q2] at h <;> cases h
  | some x =>
    have hi : i < l.length := (List.getElem?_eq_some_iff.mp q).1
    rw [q, List.getElem?_range hi] at h
    cases h
    exact ⟨x, rfl, rfl⟩
theorem numb_len (l : List D) : (numb l).length = l.length := by simp [numb]
theorem src_enum {W0 : Wd} {H0 : Hp} {l : List D} {P : Mem → Prop} {a : Addr} (h : ∀ W H M, Kp W0 H0 W H → MemOk G W H M → P M → ∃ us, SqL G.K H a us ∧ RpL G W H l us) : SrcOk G W0 H0 ⟨numb l, P⟩ (Ite G.K a) where
  item := fun W H M f _ m st i d e => by
    obtain ⟨us, h1, h2⟩ := h W H M f m st
    obtain ⟨y, e1, rfl⟩ := numb_get e
    obtain ⟨u, e2, r2⟩ := h2.get e1
    refine ⟨⟨us, u, h1, e2⟩, fun x H' z => ?_⟩
    obtain ⟨T, x', rfl, hT, rfl, hx⟩ := z
    have := hx us h1
    rw [e2] at this; cases this
    exact ⟨Fut.laid hT, m.laid hT, T, _, rfl, .inl upd_same, _, _, rfl, rfl, _, _, rfl, m.rp (Fut.laid hT) r2, rfl⟩
  stop := fun W H M f _ m st => by
    obtain ⟨us, h1, h2⟩ := h W H M f m st
    exact ⟨us, h1, by rw [numb_len, h2.len]; exact Nat.le_refl _⟩
theorem aCons_bind {α : Type} {f : FE} {env : Fn.Env} {M : Mem} {k : List D → Mem → R α} : ((aCons f aNil) env M).bind k = (f env M).bind fun d m => k [d] m := by
  show ((f env M).bind fun d m => R.ok [d] m).bind k = _
  cases f env M <;> rfl
end
end Fn
set_option Elab.async false
set_option linter.all false
set_option maxRecDepth 100000
set_option maxHeartbeats 4000000
namespace Fn
open PySem PySem.Spec PyProof.Rows L2
section
variable {env : Env} {M : Mem}
theorem mFld_eq (c0 : Nat) (f : Str) (fa : FE) : mFld c0 f fa env M = (fa env M).bind fun d m => match insOf c0 m d with | some (_, fs) => (match fs.lookup f with | some v => .ok v m | none => .no) | none => .no := rfl
theorem mFldSet_eq (c0 : Nat) (f : Str) (fa fv : FE) : mFldSet c0 f fa fv env M = (fv env M).bind fun v m => (fa env m).bind fun d m2 => match insOf c0 m2 d with | some (i, fs) => if fs.length < 1000 then .ok (.nx env) (m2.set i (.ins c0 (putD f v fs))) else .no | none => .no := rfl
theorem mMth_eq (c0 : Nat) (x : Str) (n : Nat) (g : FD) (dd : List D) (fo : FE) (ga : FA) : mMth c0 x n g dd fo ga env M = (fo env M).bind fun d m => match insOf c0 m d with | some (_, fs) => (match fs.lookup x with | none => (ga env m).bind fun ds m2 => if (d :: (ds ++ dd)).length = n then g (d :: (ds ++ dd)) m2 else .no | some _ => .no) | none => .no := rfl
theorem mMake_eq (c0 n : Nat) (g : FD) (dd : List D) (ga : FA) : mMake c0 n g dd ga env M = (ga env M).bind fun ds m => if (D.ref m.length :: (ds ++ dd)).length = n then (g (D.ref m.length :: (ds ++ dd)) (m ++ [.ins c0 []])).bind fun r m2 => (match r with | .non => .ok (.ref m.length) m2 | _ => .no) else .no := rfl
theorem insOf_at {c0 i : Nat} {fs : List (Str × D)} (h : M[i]? = some (.ins c0 fs)) : insOf c0 M (.ref i) = some (i, fs) := by
  simp only [insOf, h, if_true]
theorem oLen_ref {i : Nat} {l : List D} (h : M[i]? = some (.lst l)) : oLen [.ref i] M = .ok (.int l.length) M := by
  simp only [oLen, seqOf, lstOf, h]
  all_goals rfl
theorem oAppend_at {i : Nat} {l : List D} {d : D} (h : M[i]? = some (.lst l)) (hl : l.length < 16777216) : oAppend (.ref i) [d] M = .ok .non (M.set i (.lst (l ++ [d]))) := by
  simp only [oAppend, h, if_pos hl]
theorem tyOk_at {i : Nat} {l : List D} (h : M[i]? = some (.lst l)) : tyOk "list" M (.ref i) = true := by
  simp only [tyOk, h]
  all_goals rfl
theorem compL_nilP {P : Mem → Prop} {g : FG} {t : FT} {f : FE} (hP : P M) : compL P g t f env [] M = .ok [] M := by
  unfold compL; rw [if_pos hP]
theorem compL_consP {P : Mem → Prop} {g : FG} {t : FT} {f : FE} {d : D} {r : List D} (hP : P M) : compL P g t f env (d :: r) M = (g d env M).bind fun env1 m1 => (t env1 m1).bind fun b m2 => if b = true then (f env1 m2).bind fun y m3 => (compL P g t f env r m3).bind fun ys m4 => .ok (y :: ys) m4 else compL P g t f env r m2 := by
  conv => lhs; unfold compL
  rw [if_pos hP]
end
def Pl (n : Nat) (d : D) : Prop := ∃ p, pyD d = some p ∧ p.depth ≤ n
def PlL (n : Nat) (l : List D) : Prop := ∀ d ∈ l, Pl n d
theorem PlL.py {n : Nat} : ∀ {l : List D}, PlL n l → ∃ ps, pyL l = some ps ∧ PyData.depthAll ps ≤ n
  | [], _ => ⟨[], rfl, Nat.zero_le _⟩
  | d :: r, h => by
    obtain ⟨p, h1, h2⟩ := h d (List.mem_cons_self ..)
    obtain ⟨ps, h3, h4⟩ := PlL.py (l := r) fun x hx => h x (List.mem_cons_of_mem _ hx)
    refine ⟨p :: ps, by simp only [pyL, h1, h3], ?_⟩
    simp only [PyData.depthAll]
    omega
theorem Pl.str {n : Nat} (x : List Nat) : Pl n (.str x) := ⟨_, rfl, by simp only [PyData.depth]; omega⟩
theorem Pl.int {n : Nat} (x : Int) : Pl n (.int x) := ⟨_, rfl, by simp only [PyData.depth]; omega⟩
theorem Pl.non {n : Nat} : Pl n .non := ⟨_, rfl, by simp only [PyData.depth]; omega⟩
theorem Pl.bl {n : Nat} (x : Bool) : Pl n (.bl x) := ⟨_, rfl, by simp only [PyData.depth]; omega⟩
theorem Pl.tup {n : Nat} {l : List D} (h : PlL n l) : Pl (n + 1) (.tup l) := by
  obtain ⟨ps, h1, h2⟩ := h.py
  exact ⟨.tuple ps, by simp only [pyD, h1, Option.map_some], by simp only [PyData.depth]; omega⟩
theorem Pl.lst {n : Nat} {l : List D} (h : PlL n l) : Pl (n + 1) (.lst l) := by
  obtain ⟨ps, h1, h2⟩ := h.py
  exact ⟨.list ps, by simp only [pyD, h1, Option.map_some], by simp only [PyData.depth]; omega⟩
theorem Pl.mono {n m : Nat} {d : D} (h : Pl n d) (hm : n ≤ m) : Pl m d := by
  obtain ⟨p, h1, h2⟩ := h
  exact ⟨p, h1, by omega⟩
theorem PlL.nil {n : Nat} : PlL n [] := fun d h => by cases h
theorem PlL.cons {n : Nat} {d : D} {l : List D} (h : Pl n d) (t : PlL n l) : PlL n (d :: l) := fun x hx => by
  rcases List.mem_cons.mp hx with rfl | hx
  · exact h
  · exact t x hx
mutual
theorem pyD_bd {n : Nat} : ∀ {d : D} {p : PyData}, pyD d = some p → bdD n d = true
  | .non, _, _ => rfl
  | .bl _, _, _ => rfl
  | .int _, _, _ => rfl
  | .str _, _, _ => rfl
  | .tup l, p, e => by
    simp only [pyD] at e
    cases q : pyL l with
    | none => rw [q] at e; cases e
    | some ps => exact pyL_bd q
  | .ct l, p, e => by
    simp only [pyD] at e
    cases q : pyL l with
    | none => rw [q] at e; cases e
    | some ps => exact pyL_bd q
  | .lst l, p, e => by
    simp only [pyD] at e
    cases q : pyL l with
    | none => rw [q] at e; cases e
    | some ps => exact pyL_bd q
  | .fz l, p, e => by
    simp only [pyD] at e
    cases q : pyL l with
    | none => rw [q] at e; cases e
    | some ps => exact pyL_bd q
  | .ref i, p, e => by cases e
theorem pyL_bd {n : Nat} : ∀ {l : List D} {ps : List PyData}, pyL l = some ps → bdL n l = true
  | [], _, _ => rfl
  | d :: l, ps, e => by
    simp only [pyL] at e
    split at e
    · rename_i a b h1 h2
      simp only [bdL, pyD_bd h1, pyL_bd h2, Bool.and_self]
    · cases e
end
theorem PlL.bd {k n : Nat} {l : List D} (h : PlL k l) : bdL n l = true := by
  obtain ⟨ps, h1, _⟩ := h.py
  exact pyL_bd h1
mutual
theorem frzD_py (m : Mem) (n : Nat) : ∀ (d : D) (p : PyData), pyD d = some p → frzD m n d = d
  | .non, _, _ => rfl
  | .bl _, _, _ => rfl
  | .int _, _, _ => rfl
  | .str _, _, _ => rfl
  | .tup l, p, e => by
    simp only [pyD] at e
    cases q : pyL l with
    | none => rw [q] at e; cases e
    | some ps => simp only [frzD, frzL_py m n l ps q]
  | .ct l, p, e => by
    simp only [pyD] at e
    cases q : pyL l with
    | none => rw [q] at e; cases e
    | some ps => simp only [frzD, frzL_py m n l ps q]
  | .lst l, p, e => by
    simp only [pyD] at e
    cases q : pyL l with
    | none => rw [q] at e; cases e
    | some ps => simp only [frzD, frzL_py m n l ps q]
  | .fz l, p, e => by
    simp only [pyD] at e
    cases q : pyL l with
    | none => rw [q] at e; cases e
    | some ps => simp only [frzD, frzL_py m n l ps q]
  | .ref i, p, e => by cases e
theorem frzL_py (m : Mem) (n : Nat) : ∀ (l : List D) (ps : List PyData), pyL l = some ps → frzL m n l = l
  | [], _, _ => rfl
  | d :: l, ps, e => by
    simp only [pyL] at e
    split at e
    · rename_i a b h1 h2
      simp only [frzL, frzD_py m n d a h1, frzL_py m n l b h2]
    · cases e
end
structure Fd where
  own : Int
  seed : Int
  cnt : Int
def Fd.c (s : Fd) : Cell := .lst [.int s.own, .int s.seed, .int s.cnt]
structure FdAt (M0 : Mem) (i : Nat) (M : Mem) : Prop where
  at_ : ∃ s : Fd, M = M0.set i s.c
  lt : i < M0.length
theorem FdAt.get {M0 M : Mem} {i : Nat} (h : FdAt M0 i M) : ∃ s : Fd, M[i]? = some s.c ∧ ∀ s' : Fd, FdAt M0 i (M.set i s'.c) := by
  obtain ⟨s, h2⟩ := h.at_
  exact ⟨s, by rw [h2]; exact List.getElem?_set_self h.lt, fun s' => ⟨⟨s', by rw [h2, set_twice]⟩, h.lt⟩⟩
theorem FdAt.start {M : Mem} {i : Nat} {s : Fd} (h : M[i]? = some s.c) : FdAt M i M := by
  obtain ⟨h1, h2⟩ := List.getElem?_eq_some_iff.mp h
  exact ⟨⟨s, by rw [← h2, List.set_getElem_self]⟩, h1⟩
theorem FdAt.len {M0 M : Mem} {i : Nat} (h : FdAt M0 i M) : M.length = M0.length := by
  obtain ⟨s, h2⟩ := h.at_
  rw [h2, List.length_set]
theorem FdAt.other {M0 M : Mem} {i j : Nat} (h : FdAt M0 i M) (hj : i ≠ j) : M[j]? = M0[j]? := by
  obtain ⟨s, e⟩ := h.at_
  rw [e, List.getElem?_set_ne hj]
theorem FdAt.trans {M0 M1 M2 : Mem} {i : Nat} (h : FdAt M0 i M1) (h' : FdAt M1 i M2) : FdAt M0 i M2 := by
  obtain ⟨s, e⟩ := h.at_
  obtain ⟨s', e'⟩ := h'.at_
  exact ⟨⟨s', by rw [e', e, set_twice]⟩, h.lt⟩
theorem FdAt.self {M0 M1 : Mem} {i : Nat} (h : FdAt M0 i M1) : FdAt M1 i M1 := by
  obtain ⟨s, h1, _⟩ := h.get
  exact .start h1
theorem j1 : -18446744073709551616 < (7643 : Int) := by omega
theorem j2 : (7643 : Int) < 18446744073709551616 := by omega
theorem j3 : -18446744073709551616 < (69623 : Int) := by omega
theorem oAbs_int {M : Mem} (i : Int) : oAbs [.int i] M = .ok (.int (if i < 0 then -i else i)) M := rfl
theorem ix32 : ixN 3 2 = some 2 := rfl
theorem i20 : (0 : Int) < 8191 := by omega
theorem i21 : (8191 : Int) < 1000000000000000000000000 := by omega
def DrawOk (g : FD) : Prop := ∀ (M0 M : Mem) (i : Nat) (many : Int), FdAt M0 i M → 0 < many → many < 1000000000000000000000000 → ∃ (v : Int) (M' : Mem), 0 ≤ v ∧ v < many ∧ FdAt M0 i M' ∧ g [.ref i, .int many] M = .ok (.int v) M'
theorem FdAt.app {A B M : Mem} {i : Nat} (h : FdAt (A ++ B) i M) (hi : i < A.length) : ∃ A', FdAt A i A' ∧ M = A' ++ B := by
  obtain ⟨s, e⟩ := h.at_
  exact ⟨A.set i s.c, ⟨⟨s, rfl⟩, hi⟩, by rw [e, List.set_append_left _ _ hi]⟩
theorem FdAt.mkApp {M0 A B : Mem} {i : Nat} (h : FdAt M0 i A) : FdAt (A ++ B) i (A ++ B) := by
  obtain ⟨s, h1, _⟩ := h.get
  exact .start (s := s) (by rw [List.getElem?_append_left (List.getElem?_eq_some_iff.mp h1).1]; exact h1)
/-- draws with other cells behind -/
theorem DrawOk.app {g : FD} (hg : DrawOk g) {M0 A B : Mem} {i : Nat} (h : FdAt M0 i A) {many : Int} (h0 : 0 < many) (h1 : many < 1000000000000000000000000) : ∃ (v : Int) (A' : Mem), 0 ≤ v ∧ v < many ∧ FdAt M0 i A' ∧ g [.ref i, .int many] (A ++ B) = .ok (.int v) (A' ++ B) := by
  obtain ⟨v, M', k0, k1, k2, k3⟩ := hg _ _ i many (h.mkApp (B := B)) h0 h1
  obtain ⟨A', h2, rfl⟩ := k2.app (by rw [h.len]; exact h.lt)
  exact ⟨v, A', k0, k1, h.trans h2, k3⟩
theorem app_get0 {A B : Mem} {c : Cell} {N : Nat} (h : A.length = N) : (A ++ c :: B)[N]? = some c := by
  rw [List.getElem?_append_right (by omega), h, Nat.sub_self]; rfl
theorem app_get1 {A B : Mem} {c c' : Cell} {N : Nat} (h : A.length = N) : (A ++ c :: c' :: B)[N + 1]? = some c' := by
  rw [List.getElem?_append_right (by omega), h, Nat.add_sub_cancel_left]; rfl
theorem app_set0 {A B : Mem} {c d : Cell} {N : Nat} (h : A.length = N) : (A ++ c :: B).set N d = A ++ d :: B := by
  rw [List.set_append_right _ _ (by omega), h, Nat.sub_self]; rfl
theorem app_set1 {A B : Mem} {c c' d : Cell} {N : Nat} (h : A.length = N) : (A ++ c :: c' :: B).set (N + 1) d = A ++ c :: d :: B := by
  rw [List.set_append_right _ _ (by omega), h, Nat.add_sub_cancel_left]; rfl
theorem ixN_nat {n k : Nat} (h : k < n) : ixN n (k : Int) = some k := by
  unfold ixN; simp; omega
end Fn
set_option Elab.async false
set_option linter.all false
set_option maxRecDepth 100000
set_option maxHeartbeats 1000000
namespace Fn
open PySem PySem.Spec PyProof.Rows L2
section
variable {prog : Program} {w : World} {A : Around} {E : Value → Shared → Prop} {s : Shared}
/-- a tuple's values, those amid in a new list -/
theorem star_of {l : Addr} {vs : Array Value} {n i : Nat} {Q : List Value → Shared → Prop} (pl : IsTup s.heap l vs) (nh : A.handled = none) (lt : i < n) (le : n ≤ vs.size + 1) (sz : vs.size ≤ 16384)
    (q : ∀ (h' : Heap) (tk : Nat), (∀ b o, s.heap.get? b = some o → h'.get? b = some o) →
      Q (vs.toList.take i ++ [.ref h'.objs.size] ++ (vs.toList.drop i).drop (vs.size + 1 - n)) { s with heap := h'.push { cls := .type "list", data := .seq ((vs.toList.drop i).take (vs.size + 1 - n)).toArray }, toks := tk }) :
    wpAny (model prog w) A (unpackItems (.ref l) n (some i)) Q E s := by
  have here : l < s.heap.objs.size := let ⟨_, e, _⟩ := pl; Heap.lt_size e
  have apart : l ≠ s.heap.objs.size := Nat.ne_of_lt here
  unfold unpackItems notIterableAtAll
  refine wpAny_bind (wpAny_bind (wpAny_specialOf pl.typeIs slot_tuple_iter.lookup (wpAny_pure ?_)))
  simp only [Bool.false_eq_true, if_false]
  refine wpAny_bind (wpAny_holding (iter_tuple pl (wpAny_bind (wpAny_holding (draw_tuple apart i 0 _ _ ⟨_, Heap.get?_push_size _ rfl, rfl, rfl⟩ (pl.push _) (by omega) fun g it same => ?_)))))
  have pl1 : IsTup g l vs := (pl.push _).extBut same.extBut apart
  have old1 : ∀ b o, s.heap.get? b = some o → g.get? b = some o := fun b o e => same.extBut b o (Nat.ne_of_lt (Heap.lt_size e)) (Heap.get?_push_of_some _ e)
  rw [Nat.zero_add] at it
  have itl : s.heap.objs.size < g.objs.size := let ⟨_, e, _⟩ := it; Heap.lt_size e
  have lg : l < g.objs.size := let ⟨_, e, _⟩ := pl1; Heap.lt_size e
  have fl : (vs.toList.take i).length = i := by simp; omega
  have dl : (vs.toList.drop i).length = vs.size - i := by simp
  simp only [List.drop_zero, fl, Nat.lt_irrefl, if_false]
  refine wpAny_bind (wpAny_holding (PySem.W.kun_collect (s := { s with heap := g }) (T := "tuple_iterator") (.inr (.inr (.inr rfl))) (Walks.tuple (A := A.in1) nh s.heap.objs.size l apart vs) (fun _ _ st => st.1.typeIs) (k := i) (by omega) ⟨it, pl1⟩ itl lg (fun g2 tk kp => ?_) (by rw [sizeLine_eq]; omega)))
  have cnt : vs.size - i - (n - 1 - i) = vs.size + 1 - n := by omega
  simp only [dl, show ¬ (vs.size - i < n - 1 - i) by omega, if_false, cnt]
  refine wpAny_bind (wpAny_newList (wpAny_pure (q g2 tk (fun b o e => kp b o (Nat.ne_of_lt (Heap.lt_size e)) (old1 b o e)))) (by rw [List.length_take, dl, sizeLine_eq]; omega))
end
section
variable {X : Cx} {G : Gx} {cl : Nat → Addr} {E : XK} {W : Wd} {H : Hp} {M : Mem} {pos : Pos}
/-- a, *b, c = a tuple -/
def gStar (K : PySem.W.Frag) (n i : Nat) (t : TGs) : TG := fun v σ H Q => ∃ a xs, v = .ref a ∧ SqT K H a xs ∧ n ≤ xs.length + 1 ∧ xs.length ≤ 16384 ∧ ∀ p, H p = none → t (xs.take i ++ [.ref p] ++ (xs.drop i).drop (xs.length + 1 - n)) σ (upd H p (.lst ((xs.drop i).take (xs.length + 1 - n)))) Q
theorem pg_star {es : List Expr} {k : Nat} {t : TGs} {n i : Nat} (hc : X.calm = true) (h : PGs X es t) (lt : i < n)
    (hn : (assignEach es X.env).length = n := by rfl) (hst : (assignEach es X.env).findIdx? (·.1) = some i := by rfl) : PG X (.Tuple es k pos) (gStar X.K n i t) := by
  refine ⟨fun pins s σ H v u Q I r hw => ?_⟩
  obtain ⟨a, xs, rfl, hq, le, sz, hw⟩ := hw
  cases r
  obtain ⟨its, rv, ht, hz⟩ := I.tuple hq
  have el : its.length = xs.length := rv.length.symm
  have ez : its.toArray.size = xs.length := by rw [List.size_toArray, el]
  rw [PyProof.Rows.assign_Tuple]
  refine wpAny_bind (wpAny_standAt ?_)
  unfold unpack
  rw [hn, hst]
  refine wpAny_bind (wpAny_holding (star_of ht (I.ok.hd hc) lt (by omega) (by omega) fun g tk kp => ?_))
  have I1 : Inv X pins σ H { s with heap := g, toks := tk } := I.kept kp
  have fr : H g.objs.size = none := I1.hok.fresh (Nat.le_refl _)
  have rm : Vals ((xs.drop i).take (xs.length + 1 - n)) ((its.drop i).take (xs.length + 1 - n)) := (rv.drop i).take _
  have I2 : Inv X pins σ (upd H g.objs.size (.lst ((xs.drop i).take (xs.length + 1 - n)))) { s with heap := g.push { cls := .type "list", data := .seq ((its.drop i).take (xs.length + 1 - n)).toArray }, toks := tk } :=
    I1.laid (t' := tk) (fun b o e => Heap.get?_push_of_some _ e) (Nat.le_refl _) ⟨by rw [List.length_take, List.length_drop, sizeLine_eq]; omega, _, 0, rm, Heap.get?_push_size _ rfl⟩
  rw [ez]
  exact h.run pins _ σ _ _ _ Q I2 (((rv.take i).append (.cons (show RelV (.ref g.objs.size) (.ref g.objs.size) from rfl) .nil)).append ((rv.drop i).drop _)) (hw _ fr)
def gS (n i : Nat) (g : FGs) : FG := fun d env M => match d with
  | .tup l => if n ≤ l.length + 1 ∧ l.length ≤ 16384 then g (l.take i ++ [.lst ((l.drop i).take (l.length + 1 - n))] ++ (l.drop i).drop (l.length + 1 - n)) env M else .no
  | .ct l => if n ≤ l.length + 1 ∧ l.length ≤ 16384 then g (l.take i ++ [.lst ((l.drop i).take (l.length + 1 - n))] ++ (l.drop i).drop (l.length + 1 - n)) env M else .no
  | _ => .no
theorem pgs_star {e : Expr} {p : Pos} {es : List Expr} {t : TG} {u : TGs} (h1 : PG X e t) (h2 : PGs X es u)
    (hs : (assignEach (.Starred e p :: es) X.env).map (·.2) = assign e X.env :: (assignEach es X.env).map (·.2) := by rfl) : PGs X (.Starred e p :: es) (gCons t u) := by
  refine ⟨fun pins s σ H xs us Q I rx k => ?_⟩
  obtain ⟨x, xr, rfl, k⟩ := k
  rw [hs]
  cases rx with
  | cons ra rb => exact assignInOrder_cons (thn (h1.run pins s σ H _ _ _ I ra k) fun _ s2 ⟨σ2, H2, I2, k2⟩ => h2.run pins s2 σ2 H2 _ _ Q I2 rb k2)
theorem sgs_star {e : Expr} {p : Pos} {es : List Expr} {f : FG} {g : FGs} {sl : List Nat} (h1 : PG X e (tGt G E sl f)) (h2 : PGs X es (tGts G E sl g))
    (hs : (assignEach (.Starred e p :: es) X.env).map (·.2) = assign e X.env :: (assignEach es X.env).map (·.2) := by rfl) : PGs X (.Starred e p :: es) (tGts G E sl (gsCons f g)) := pgs_imp (pgs_star h1 h2 hs) fun v σ H Q ⟨W, env, M, ds, s, r, p⟩ => by
  cases ds with
  | nil => exact p.elim
  | cons d r' =>
    obtain ⟨u, us, e1, r1, r2⟩ := r
    exact ⟨u, us, e1, W, env, M, d, s, r1, PR.bind p fun env1 m W1 H1 f1 k1 p1 => fun σ1 en ew => ⟨W1, env1, m, r', ⟨k1, en⟩, s.mem.rpL f1 r2, PR.mono p1 fun env2 m2 W2 H2 f2 k2 q σ2 en2 ew2 => q σ2 en2 (ew2.trans ew)⟩⟩
theorem sg_star {es : List Expr} {k : Nat} {g : FGs} {n i : Nat} {sl : List Nat} (hc : X.calm = true) (h : PGs X es (tGts ⟨X.K, cl⟩ E sl g)) (lt : i < n)
    (hn : (assignEach es X.env).length = n := by rfl) (hst : (assignEach es X.env).findIdx? (·.1) = some i := by rfl) : PG X (.Tuple es k pos) (tGt ⟨X.K, cl⟩ E sl (gS n i g)) := pg_imp (pg_star hc h lt hn hst) fun v σ H Q ⟨W, env, M, d, s, r, p⟩ => by
  unfold gS at p
  split at p
  · rename_i l
    obtain ⟨a1, us, e1, s1, r1⟩ := r
    split at p
    · rename_i hl
      refine ⟨a1, us, e1, s1.sq, by rw [r1.len]; exact hl.1, by rw [r1.len]; exact hl.2, fun q hq => ?_⟩
      have f : Fut W H W (upd H q (.lst ((us.drop i).take (us.length + 1 - n)))) := Fut.laid hq
      have m1 := s.mem.laid (o := .lst ((us.drop i).take (us.length + 1 - n))) hq
      have nw : q ∉ W.as ∧ q ∉ W.hd := s.mem.fresh hq
      rw [← r1.len] at p
      have rr := s.mem.rpL f r1
      have rl : Rp ⟨X.K, cl⟩ W (upd H q (.lst ((us.drop i).take (us.length + 1 - n)))) (.lst ((l.drop i).take (us.length + 1 - n))) (.ref q) := ⟨q, _, rfl, ⟨upd_same, nw.1, nw.2⟩, RpL.take _ (RpL.drop i rr)⟩
      exact ⟨W, env, M, _, ⟨m1, s.env.fut s.mem f⟩, ((RpL.take i rr).append (show RpL ⟨X.K, cl⟩ W (upd H q (.lst ((us.drop i).take (us.length + 1 - n)))) [.lst ((l.drop i).take (us.length + 1 - n))] [.ref q] from ⟨_, _, rfl, rl, rfl⟩)).append (RpL.drop _ (RpL.drop i rr)), PR.fut f p⟩
    · exact p.elim
  · rename_i l
    obtain ⟨a1, us, e1, s1, r1⟩ := r
    split at p
    · rename_i hl
      refine ⟨a1, us, e1, s1.sq, by rw [r1.len]; exact hl.1, by rw [r1.len]; exact hl.2, fun q hq => ?_⟩
      have f : Fut W H W (upd H q (.lst ((us.drop i).take (us.length + 1 - n)))) := Fut.laid hq
      have m1 := s.mem.laid (o := .lst ((us.drop i).take (us.length + 1 - n))) hq
      have nw : q ∉ W.as ∧ q ∉ W.hd := s.mem.fresh hq
      rw [← r1.len] at p
      have rr := s.mem.rpL f r1
      have rl : Rp ⟨X.K, cl⟩ W (upd H q (.lst ((us.drop i).take (us.length + 1 - n)))) (.lst ((l.drop i).take (us.length + 1 - n))) (.ref q) := ⟨q, _, rfl, ⟨upd_same, nw.1, nw.2⟩, RpL.take _ (RpL.drop i rr)⟩
      exact ⟨W, env, M, _, ⟨m1, s.env.fut s.mem f⟩, ((RpL.take i rr).append (show RpL ⟨X.K, cl⟩ W (upd H q (.lst ((us.drop i).take (us.length + 1 - n)))) [.lst ((l.drop i).take (us.length + 1 - n))] [.ref q] from ⟨_, _, rfl, rl, rfl⟩)).append (RpL.drop _ (RpL.drop i rr)), PR.fut f p⟩
    · exact p.elim
  · exact p.elim
theorem gS_eq (n i : Nat) (g : FGs) (l : List D) {env : Fn.Env} : gS n i g (.tup l) env M = if n ≤ l.length + 1 ∧ l.length ≤ 16384 then g (l.take i ++ [.lst ((l.drop i).take (l.length + 1 - n))] ++ (l.drop i).drop (l.length + 1 - n)) env M else .no := rfl
end
end Fn
set_option Elab.async false
set_option linter.all false
set_option maxRecDepth 100000
set_option maxHeartbeats 4000000
namespace Fn
open PySem PySem.Spec PyProof.Rows L2
section
variable {M : Mem}
theorem oLen_refM (i : Nat) : oLen [.ref i] M = match M[i]? with | some (.lst l) => .ok (.int l.length) M | _ => .no := by
  simp only [oLen, seqOf, lstOf]
  cases M[i]? with
  | none => rfl
  | some c => cases c <;> rfl
theorem oIx_refM (i : Nat) (k : Int) : oIx (.ref i) (.int k) M = match M[i]? with | some (.lst l) => (match atI l k with | some d => .ok d M | none => .no) | _ => .no := by
  simp only [oIx, seqOf, lstOf]
  cases M[i]? with
  | none => rfl
  | some c => cases c <;> rfl
theorem oAppM (i : Nat) (d : D) : oAppend (.ref i) [d] M = match M[i]? with | some (.lst l) => (if l.length < 16777216 then .ok .non (M.set i (.lst (l ++ [d]))) else .no) | _ => .no := by
  simp only [oAppend]
  all_goals rfl
theorem oExtM (i : Nat) (d : D) : oExtend (.ref i) [d] M = match M[i]?, ownOf M d with | some (.lst l), some l' => (if l.length + l'.length ≤ 16777216 then .ok .non (M.set i (.lst (l ++ l'))) else .no) | _, _ => .no := by
  simp only [oExtend]
  all_goals rfl
theorem oTuple_ref (i : Nat) : oTuple [.ref i] M = match M[i]? with | some (.lst l) => .ok (.tup l) M | _ => .no := by
  simp only [oTuple, lstOf]
  cases M[i]? with
  | none => rfl
  | some c => cases c <;> rfl
theorem oList_ref {c : Bool} (i : Nat) : oList c [.ref i] M = match M[i]? with | some (.lst l) => mkL c l M | _ => .no := by
  simp only [oList, seqOf, lstOf]
  cases M[i]? with
  | none => rfl
  | some c => cases c <;> rfl
theorem srcOf_refM (i : Nat) : srcOf M (.ref i) = match M[i]? with | some (.lst l) => some ⟨l, fun M' => M'[i]? = some (.lst l)⟩ | _ => none := by
  simp only [srcOf]
  all_goals rfl
end
theorem ifLt24 {α : Sort _} {n : Nat} {a b : α} (h : n < 16777216) : (if n < 16777216 then a else b) = a := if_pos h
theorem ifLe24 {α : Sort _} {n : Nat} {a b : α} (h : n ≤ 16777216) : (if n ≤ 16777216 then a else b) = a := if_pos h
theorem lt_of_get {M : Mem} {k : Nat} {c : Cell} (h : M[k]? = some c) : k < M.length := (List.getElem?_eq_some_iff.mp h).1
theorem compL_fm {P : Mem → Prop} {M : Mem} (hP : P M) {g : FG} {t : FT} {f : FE} {env : Fn.Env} {α : Type} (mk : α → D) (T : α → Bool) (F : α → D) : ∀ (xs : List α), (∀ x ∈ xs, ∃ env1, g (mk x) env M = .ok env1 M ∧ t env1 M = .ok (T x) M ∧ (T x = true → f env1 M = .ok (F x) M)) →
    compL P g t f env (xs.map mk) M = .ok ((xs.filter T).map F) M
  | [], _ => compL_nilP hP
  | d :: r, h => by
    obtain ⟨env1, h1, h2, h3⟩ := h d (List.mem_cons_self ..)
    have ih := compL_fm hP mk T F r fun d' hd => h d' (List.mem_cons_of_mem _ hd)
    rw [List.map_cons, compL_consP hP, h1, R.bind_ok, h2, R.bind_ok]
    cases ht : T d with
    | true => rw [if_pos rfl, h3 ht, R.bind_ok, ih, R.bind_ok, List.filter_cons_of_pos ht, List.map_cons]
    | false => rw [if_neg Bool.false_ne_true, ih, List.filter_cons_of_neg (by simp [ht])]
theorem compL_m {P : Mem → Prop} {M : Mem} (hP : P M) {g : FG} {f : FE} {env : Fn.Env} {α : Type} (mk : α → D) (F : α → D) (xs : List α) (h : ∀ x ∈ xs, ∃ env1, g (mk x) env M = .ok env1 M ∧ f env1 M = .ok (F x) M) :
    compL P g tsYes f env (xs.map mk) M = .ok (xs.map F) M := by
  have := compL_fm hP (t := tsYes) mk (fun _ => true) F xs fun x hx => by
    obtain ⟨env1, h1, h2⟩ := h x hx
    exact ⟨env1, h1, rfl, fun _ => h2⟩
  rw [this, List.filter_eq_self.mpr (fun _ _ => rfl)]
theorem allY {items ys : List D} {Y : D → Prop} (hl : ys.length = items.length) (h : ∀ (k : Nat) (d y : D), items[k]? = some d → ys[k]? = some y → Y y) {y : D} (hy : y ∈ ys) : Y y := by
  obtain ⟨k, hk⟩ := List.getElem?_of_mem hy
  have hk' : k < items.length := by rw [← hl]; exact (List.getElem?_eq_some_iff.mp hk).1
  exact h k _ y (List.getElem?_eq_getElem hk') hk
theorem atLast {α : Type} (l : List α) (d : α) : L2.atI (l ++ [d]) (-1) = some d := by
  have e : L2.ixN (l ++ [d]).length (-1) = some l.length := by
    unfold L2.ixN
    rw [if_neg (by omega)]
    simp
    try omega
  unfold L2.atI
  rw [e]
  simp
theorem strsOf_of : ∀ {l : List D}, (∀ d ∈ l, ∃ c : Nat, d = .str [c]) → ∃ w : List Nat, strsOf l = some (w.map fun c => [c]) ∧ w.length = l.length ∧ l = w.map fun c => .str [c]
  | [], _ => ⟨[], rfl, rfl, rfl⟩
  | d :: r, h => by
    obtain ⟨c, rfl⟩ := h d (List.mem_cons_self ..)
    obtain ⟨w, h1, h2, h3⟩ := strsOf_of (l := r) fun d hd => h d (List.mem_cons_of_mem _ hd)
    exact ⟨c :: w, by simp [strsOf, h1], by simp [h2], by rw [h3]; rfl⟩
theorem join_signs : ∀ w : List Nat, joinL [] (w.map fun c => [c]) = w
  | [] => rfl
  | [c] => rfl
  | c :: d :: r => by
    show [c] ++ [] ++ joinL [] ((d :: r).map fun c => [c]) = _
    rw [join_signs (d :: r)]
    rfl
theorem sum_ones : ∀ w : List Nat, ((w.map fun c => [c]).map (·.length)).sum = w.length
  | [] => rfl
  | c :: r => by
    simp only [List.map_cons, List.sum_cons, sum_ones r, List.length_cons, List.length_nil]
    omega
theorem any_str (w : List Nat) : ∀ F : List (List Nat), ((F.map D.str).any fun y => eqF y (.str w)) = decide (w ∈ F)
  | [] => by simp
  | x :: r => by
    rw [List.map_cons, List.any_cons, any_str w r]
    show (x == w || _) = _
    by_cases h : x = w
    · subst h; simp
    · have : (x == w) = false := beq_eq_false_iff_ne.mpr h
      rw [this, Bool.false_or]
      congr 1
      rw [List.mem_cons, eq_iff_iff]
      exact ⟨.inr, fun z => z.resolve_left fun e => h e.symm⟩
theorem flat_strs (F : List (List Nat)) : (F.map D.str).all flatD = true := by simp [flatD]
theorem oInF_strs {neg : Bool} {w : List Nat} {d : D} {F : List (List Nat)} {M : Mem} (h : seqOf M d = some (F.map .str)) : oInF neg (.str w) d M = .ok (.bl (neg != decide (w ∈ F))) M := by
  simp only [oInF, h, flat_strs, flatD, and_self, if_true, any_str]
  cases neg <;> simp
theorem mPar3_eq (i j l : Nat) (g : FA) {env : Fn.Env} {M : Mem} : mPar3 i j l g env M = (g env M).bind fun ds m => match ds with
  | [d, d', d''] => .ok (.nx (((env.set i (some d)).set j (some d')).set l (some d''))) m
  | _ => .no := rfl
theorem gc_ref {B : FS} {N : Nat} {ds : List D} {M junk : Mem} {i : Nat} {c : Cell} {l : List D} {ps : List PyData} (hB : runB B N ds M = .ok (.ref M.length) (M.set i c ++ .lst l :: junk)) (hc : bdC M.length c = true) (hl : pyL l = some ps) : gcB B N ds M = .ok (.lst l) (M.set i c) := by
  have hf : frzD (M.set i c ++ .lst l :: junk) M.length (.ref M.length) = .lst l := by
    simp only [frzD, Nat.lt_irrefl, if_false, app_get0 (show (M.set i c).length = M.length from List.length_set ..)]
  unfold gcB gcR
  simp only [hB]
  rw [if_pos (by rw [hf]; exact cut_set (d := .lst l) (by simp only [bdD]; exact pyL_bd hl) hc), hf, List.take_append_of_le_length (by simp), List.take_of_length_le (by simp)]
/-- of a call that changes nothing -/
theorem gc_ref0 {B : FS} {N : Nat} {ds : List D} {M junk : Mem} {l : List D} {ps : List PyData} (hB : runB B N ds M = .ok (.ref M.length) (M ++ .lst l :: junk)) (hl : pyL l = some ps) : gcB B N ds M = .ok (.lst l) M := by
  have hf : frzD (M ++ .lst l :: junk) M.length (.ref M.length) = .lst l := by
    simp only [frzD, Nat.lt_irrefl, if_false, app_get0 (show M.length = M.length from rfl)]
  unfold gcB gcR
  simp only [hB]
  rw [if_pos (by rw [hf]; exact cut_id (d := .lst l) (by simp only [bdD]; exact pyL_bd hl)), hf, List.take_append_of_le_length (by simp), List.take_of_length_le (by simp)]
theorem gc_val0 {B : FS} {N : Nat} {ds : List D} {M junk : Mem} {d : D} {p : PyData} (hB : runB B N ds M = .ok d (M ++ junk)) (hl : pyD d = some p) : gcB B N ds M = .ok d M := by
  have hf : frzD (M ++ junk) M.length d = d := frzD_py _ _ _ _ hl
  unfold gcB gcR
  simp only [hB]
  rw [if_pos (by rw [hf]; exact cut_id (d := d) (pyD_bd hl)), hf, List.take_append_of_le_length (by simp), List.take_of_length_le (by simp)]
theorem gc_flow {B : FS} {N : Nat} {ds : List D} {M A junk : Mem} {i : Nat} {l : List D} {n : Nat} (hA : FlAt M i A) (hB : runB B N ds M = .ok (.ref M.length) (A ++ .lst l :: junk)) (hl : PlL n l) : gcB B N ds M = .ok (.lst l) A := by
  obtain ⟨s, _, rfl⟩ := hA.at_
  obtain ⟨ps, hps, _⟩ := hl.py
  exact gc_ref hB rfl hps
theorem FlAt.trans {M0 M1 M2 : Mem} {i : Nat} (h : FlAt M0 i M1) (h' : FlAt M1 i M2) : FlAt M0 i M2 := by
  obtain ⟨s, _, e⟩ := h.at_
  obtain ⟨s', k, e'⟩ := h'.at_
  exact ⟨⟨s', k, by rw [e', e, set_twice]⟩, h.lt⟩
theorem FlAt.self {M0 M1 : Mem} {i : Nat} (h : FlAt M0 i M1) : FlAt M1 i M1 := by
  obtain ⟨s, k, h1, _⟩ := h.get
  exact .start k h1
theorem plL_str {n : Nat} (F : List (List Nat)) : PlL n (F.map .str) := fun d hd => by obtain ⟨w, _, rfl⟩ := List.mem_map.mp hd; exact Pl.str _
end Fn
set_option Elab.async false
set_option linter.all false
set_option maxRecDepth 100000
namespace Fn
open PySem PySem.Spec PyProof.Rows L2
end Fn
set_option Elab.async false
set_option linter.all false
set_option maxRecDepth 100000
set_option maxHeartbeats 1000000
namespace Fn
open PySem PySem.Spec PyProof.Rows L2
end Fn
set_option Elab.async false
set_option linter.all false
set_option maxRecDepth 100000
set_option maxHeartbeats 1000000
namespace Fn
open PySem PySem.Spec PyProof.Rows L2
mutual
def exD : D → Bool
  | .non | .int _ | .str _ => true
  | .tup l => exL l
  | .ct _ => false
  | .lst l => exL l
  | _ => false
def exL : List D → Bool
  | [] => true
  | d :: r => exD d && exL r
end
theorem exL_iff : ∀ {l : List D}, exL l = true ↔ ∀ d ∈ l, exD d = true
  | [] => by simp [exL]
  | d :: r => by simp only [exL, Bool.and_eq_true, exL_iff, List.mem_cons, forall_eq_or_imp]
mutual
theorem eqv_ex : ∀ (a b : D) (p q : PyData), exD a = true → exD b = true → pyD a = some p → pyD b = some q → (PyData.eqv p q = true ↔ a = b)
  | .non, b, p, q, h1, h2, e1, e2 => by
    cases e1
    cases b <;> simp only [exD, Bool.false_eq_true] at h2 <;> simp only [pyD, Option.some.injEq, Option.map_eq_some_iff] at e2
    case non => subst e2; simp [PyData.eqv]
    case int => subst e2; simp [PyData.eqv]
    case str => subst e2; simp [PyData.eqv]
    case tup => obtain ⟨x, _, rfl⟩ := e2; simp [PyData.eqv]
    case lst => obtain ⟨x, _, rfl⟩ := e2; simp [PyData.eqv]
  | .int i, b, p, q, h1, h2, e1, e2 => by
    cases e1
    cases b <;> simp only [exD, Bool.false_eq_true] at h2 <;> simp only [pyD, Option.some.injEq, Option.map_eq_some_iff] at e2
    case non => subst e2; simp [PyData.eqv]
    case int => subst e2; simp [PyData.eqv]
    case str => subst e2; simp [PyData.eqv]
    case tup => obtain ⟨x, _, rfl⟩ := e2; simp [PyData.eqv]
    case lst => obtain ⟨x, _, rfl⟩ := e2; simp [PyData.eqv]
  | .str s, b, p, q, h1, h2, e1, e2 => by
    cases e1
    cases b <;> simp only [exD, Bool.false_eq_true] at h2 <;> simp only [pyD, Option.some.injEq, Option.map_eq_some_iff] at e2
    case non => subst e2; simp [PyData.eqv]
    case int => subst e2; simp [PyData.eqv]
    case str y =>
      subst e2
      simp only [PyData.eqv, beq_iff_eq, D.str.injEq]
      exact ⟨fun h => l2s_inj h, fun h => by rw [h]⟩
    case tup => obtain ⟨x, _, rfl⟩ := e2; simp [PyData.eqv]
    case lst => obtain ⟨x, _, rfl⟩ := e2; simp [PyData.eqv]
  | .tup l, b, p, q, h1, h2, e1, e2 => by
    simp only [pyD, Option.map_eq_some_iff] at e1
    obtain ⟨ps, k1, rfl⟩ := e1
    cases b <;> simp only [exD, Bool.false_eq_true] at h2 <;> simp only [pyD, Option.some.injEq, Option.map_eq_some_iff] at e2
    case non => subst e2; simp [PyData.eqv]
    case int => subst e2; simp [PyData.eqv]
    case str => subst e2; simp [PyData.eqv]
    case tup m =>
      obtain ⟨qs, k2, rfl⟩ := e2
      simp only [PyData.eqv, D.tup.injEq]
      exact eqv_exL l m ps qs (by simpa only [exD] using h1) h2 k1 k2
    case lst => obtain ⟨x, _, rfl⟩ := e2; simp [PyData.eqv]
  | .ct _, b, p, q, h1, h2, e1, e2 => by simp only [exD, Bool.false_eq_true] at h1
  | .lst l, b, p, q, h1, h2, e1, e2 => by
    simp only [pyD, Option.map_eq_some_iff] at e1
    obtain ⟨ps, k1, rfl⟩ := e1
    cases b <;> simp only [exD, Bool.false_eq_true] at h2 <;> simp only [pyD, Option.some.injEq, Option.map_eq_some_iff] at e2
    case non => subst e2; simp [PyData.eqv]
    case int => subst e2; simp [PyData.eqv]
    case str => subst e2; simp [PyData.eqv]
    case tup => obtain ⟨x, _, rfl⟩ := e2; simp [PyData.eqv]
    case lst m =>
      obtain ⟨qs, k2, rfl⟩ := e2
      simp only [PyData.eqv, D.lst.injEq]
      exact eqv_exL l m ps qs (by simpa only [exD] using h1) h2 k1 k2
  | .bl _, b, p, q, h1, h2, e1, e2 => by simp only [exD, Bool.false_eq_true] at h1
  | .fz _, b, p, q, h1, h2, e1, e2 => by simp only [exD, Bool.false_eq_true] at h1
  | .ref _, b, p, q, h1, h2, e1, e2 => by simp only [exD, Bool.false_eq_true] at h1
theorem eqv_exL : ∀ (l m : List D) (ps qs : List PyData), exL l = true → exL m = true → pyL l = some ps → pyL m = some qs → (PyData.eqvAll ps qs = true ↔ l = m)
  | [], m, ps, qs, h1, h2, e1, e2 => by
    cases e1
    cases m with
    | nil => cases e2; simp [PyData.eqvAll]
    | cons b m =>
      simp only [pyL] at e2
      split at e2
      · cases e2; simp [PyData.eqvAll]
      · cases e2
  | a :: l, m, ps, qs, h1, h2, e1, e2 => by
    simp only [pyL] at e1
    split at e1
    · rename_i p ps' k1 k2
      cases e1
      cases m with
      | nil => cases e2; simp [PyData.eqvAll]
      | cons b m =>
        simp only [pyL] at e2
        split at e2
        · rename_i q qs' k3 k4
          cases e2
          simp only [exL, Bool.and_eq_true] at h1 h2
          simp only [PyData.eqvAll, Bool.and_eq_true, eqv_ex a b p q h1.1 h2.1 k1 k3, eqv_exL l m ps' qs' h1.2 h2.2 k2 k4, List.cons.injEq]
        · cases e2
    · cases e1
end
mutual
def dpD : D → Nat
  | .tup l => dpL l + 1
  | .ct l => dpL l + 1
  | .lst l => dpL l + 1
  | _ => 0
def dpL : List D → Nat
  | [] => 0
  | d :: r => max (dpD d) (dpL r)
end
mutual
theorem ex_py : ∀ (a : D), exD a = true → ∃ p, pyD a = some p ∧ p.depth ≤ dpD a
  | .non, _ => ⟨_, rfl, by simp [PyData.depth]⟩
  | .int _, _ => ⟨_, rfl, by simp [PyData.depth]⟩
  | .str _, _ => ⟨_, rfl, by simp [PyData.depth]⟩
  | .tup l, h => by
    obtain ⟨ps, h1, h2⟩ := ex_pyL l (by simpa only [exD] using h)
    exact ⟨.tuple ps, by simp only [pyD, h1, Option.map_some], by simp only [PyData.depth, dpD]; omega⟩
  | .ct _, h => by simp only [exD, Bool.false_eq_true] at h
  | .lst l, h => by
    obtain ⟨ps, h1, h2⟩ := ex_pyL l (by simpa only [exD] using h)
    exact ⟨.list ps, by simp only [pyD, h1, Option.map_some], by simp only [PyData.depth, dpD]; omega⟩
  | .bl _, h => by simp only [exD, Bool.false_eq_true] at h
  | .fz _, h => by simp only [exD, Bool.false_eq_true] at h
  | .ref _, h => by simp only [exD, Bool.false_eq_true] at h
theorem ex_pyL : ∀ (l : List D), exL l = true → ∃ ps, pyL l = some ps ∧ PyData.depthAll ps ≤ dpL l
  | [], _ => ⟨[], rfl, by simp [PyData.depthAll]⟩
  | d :: r, h => by
    simp only [exL, Bool.and_eq_true] at h
    obtain ⟨p, h1, h2⟩ := ex_py d h.1
    obtain ⟨ps, h3, h4⟩ := ex_pyL r h.2
    exact ⟨p :: ps, by simp only [pyL, h1, h3], by simp only [PyData.depthAll, dpL]; omega⟩
end
theorem ex_pl {a : D} (h : exD a = true) : Pl (dpD a) a := ex_py a h
theorem oEq_ex {ne : Bool} {a b : D} {M : Mem} (ha : exD a = true) (hb : exD b = true) (hd : dpD a ≤ 60) : oEq ne a b M = .ok (.bl (ne != (@decide (a = b) (Classical.propDecidable _)))) M := by
  obtain ⟨p, p1, p2⟩ := ex_py a ha
  obtain ⟨q, q1, q2⟩ := ex_py b hb
  have k1 : pyM M a = some p := pyGo_of p1
  have k2 : pyM M b = some q := pyGo_of q1
  have hm : min p.depth q.depth ≤ 60 := by omega
  have he : PyData.eqv p q = @decide (a = b) (Classical.propDecidable _) := by
    rw [Bool.eq_iff_iff, @decide_eq_true_iff _ (Classical.propDecidable _)]
    exact eqv_ex a b p q ha hb p1 q1
  simp only [oEq, k1, k2, if_pos hm, he]
  cases ne <;> simp
theorem oEq_exT {ne : Bool} {a : D} {M : Mem} (ha : exD a = true) (hd : dpD a ≤ 60) : oEq ne a a M = .ok (.bl (!ne)) M := by
  rw [oEq_ex ha ha hd]
  simp
theorem oEq_exF {ne : Bool} {a b : D} {M : Mem} (ha : exD a = true) (hb : exD b = true) (hd : dpD a ≤ 60) (h : a ≠ b) : oEq ne a b M = .ok (.bl ne) M := by
  rw [oEq_ex ha hb hd]
  simp [h]
theorem exL_strs (l : List (List Nat)) : exL (l.map .str) = true := by
  rw [exL_iff]; intro d hd; obtain ⟨w, _, rfl⟩ := List.mem_map.mp hd; rfl
theorem exL_ints (l : List Int) : exL (l.map .int) = true := by
  rw [exL_iff]; intro d hd; obtain ⟨w, _, rfl⟩ := List.mem_map.mp hd; rfl
theorem dpL_le {n : Nat} : ∀ {l : List D}, (∀ d ∈ l, dpD d ≤ n) → dpL l ≤ n
  | [], _ => Nat.zero_le _
  | d :: r, h => by
    have h1 := h d (List.mem_cons_self ..)
    have h2 := dpL_le (l := r) fun x hx => h x (List.mem_cons_of_mem _ hx)
    simp only [dpL]; omega
theorem dpL_strs (l : List (List Nat)) : dpL (l.map .str) = 0 := by
  have := dpL_le (n := 0) (l := l.map D.str) fun d hd => by obtain ⟨w, _, rfl⟩ := List.mem_map.mp hd; exact Nat.le_refl _
  omega
end Fn
set_option Elab.async false
set_option linter.all false
set_option maxRecDepth 100000
set_option maxHeartbeats 1000000
namespace Fn
open PySem PySem.Spec PyProof.Rows L2
end Fn
set_option Elab.async false
set_option linter.all false
set_option maxRecDepth 100000
set_option maxHeartbeats 1000000
namespace Fn
open PySem PySem.Spec PyProof.Rows L2
section
variable {κ : Type} [DecidableEq κ]
def gA (kvs : List (κ × D)) (k : κ) : Option D := (kvs.find? fun kv => decide (kv.1 = k)).map (·.2)
def pA (kvs : List (κ × D)) (k : κ) (v : D) : List (κ × D) := if (kvs.any fun kv => decide (kv.1 = k)) = true then kvs.map (fun kv => if kv.1 = k then (kv.1, v) else kv) else kvs ++ [(k, v)]
def dA (kvs : List (κ × D)) (k : κ) : List (κ × D) := kvs.filter fun kv => decide (kv.1 ≠ k)
end
section
variable {κ κ' : Type} [DecidableEq κ] [DecidableEq κ'] {f : κ → κ'} {G : Gx} {W W' : Wd} {H H' : Hp}
theorem rpA_len : ∀ {kvs : List (κ × D)} {vs : List (κ' × V)}, RpK G W H f kvs vs → vs.length = kvs.length
  | _, _, .nil => rfl
  | _, _, .cons _ t => by simp only [List.length_cons, rpA_len t]
theorem rpA_get (hf : ∀ a b, f a = f b → a = b) (k : κ) : ∀ {kvs : List (κ × D)} {vs : List (κ' × V)}, RpK G W H f kvs vs → (∀ d, gA kvs k = some d → ∃ v, valV vs (f k) = some v ∧ Rp G W H d v) ∧ (gA kvs k = none → valV vs (f k) = none)
  | _, _, .nil => ⟨fun _ e => (by cases e), fun _ => rfl⟩
  | (a, d) :: r, (a', v) :: r', .cons h t => by
    obtain ⟨h1, h2⟩ := h
    have h1 : f a = a' := h1
    subst h1
    obtain ⟨i1, i2⟩ := rpA_get hf k t
    unfold gA valV at i1 i2 ⊢
    by_cases e : a = k
    · subst e
      simp only [List.find?_cons, decide_true, Option.map_some, Option.some.injEq]
      exact ⟨fun d' e => ⟨v, rfl, by subst e; exact h2⟩, fun e => by cases e⟩
    · have e' : ¬ f a = f k := fun z => e (hf _ _ z)
      simp only [List.find?_cons, e, e', decide_false]
      exact ⟨i1, i2⟩
theorem rpA_any (hf : ∀ a b, f a = f b → a = b) (k : κ) : ∀ {kvs : List (κ × D)} {vs : List (κ' × V)}, RpK G W H f kvs vs → (vs.any fun kv => decide (kv.1 = f k)) = kvs.any fun kv => decide (kv.1 = k)
  | _, _, .nil => rfl
  | (a, d) :: r, (a', v) :: r', .cons h t => by
    have h1 : f a = a' := h.1
    subst h1
    simp only [List.any_cons, rpA_any hf k t]
    congr 1
    rw [decide_eq_decide]
    exact ⟨fun z => hf _ _ z, fun z => by rw [z]⟩
theorem rpA_snoc {kvs : List (κ × D)} {vs : List (κ' × V)} {k : κ} {d : D} {v : V} (rv : Rp G W H d v) : RpK G W H f kvs vs → RpK G W H f (kvs ++ [(k, d)]) (vs ++ [(f k, v)]) := fun h => by
  unfold RpK at h ⊢
  induction h with
  | nil => exact .cons ⟨rfl, rv⟩ .nil
  | cons h t ih => exact .cons h ih
theorem rpA_put (hf : ∀ a b, f a = f b → a = b) {k : κ} {d : D} {v : V} (rv : Rp G W H d v) {kvs : List (κ × D)} {vs : List (κ' × V)} (h : RpK G W H f kvs vs) : RpK G W H f (pA kvs k d) (putK vs (f k) v) := by
  unfold pA putK
  rw [rpA_any hf k h]
  split
  · rename_i hc
    clear hc
    unfold RpK at h ⊢
    induction h with
    | nil => exact .nil
    | @cons p q ps qs h t ih =>
      refine .cons ?_ ih
      have h1 : f p.1 = q.1 := h.1
      dsimp only
      by_cases e : p.1 = k
      · rw [if_pos e, if_pos (by rw [← h1, e])]; exact ⟨h1, rv⟩
      · rw [if_neg e, if_neg (fun z => e (hf _ _ (h1.trans z)))]; exact h
  · exact rpA_snoc rv h
theorem rpA_drop (hf : ∀ a b, f a = f b → a = b) {k : κ} {kvs : List (κ × D)} {vs : List (κ' × V)} (h : RpK G W H f kvs vs) : RpK G W H f (dA kvs k) (dropK vs (f k)) := by
  unfold dA dropK
  unfold RpK at h ⊢
  induction h with
  | nil => exact .nil
  | @cons p q ps qs h t ih =>
    have h1 : f p.1 = q.1 := h.1
    by_cases e : p.1 = k
    · rw [List.filter_cons_of_neg (by simpa using e), List.filter_cons_of_neg (by simp [← h1, e])]; exact ih
    · rw [List.filter_cons_of_pos (by simpa using e), List.filter_cons_of_pos (by
        have : ¬ q.1 = f k := fun z => e (hf _ _ (h1.trans z))
        simpa using this)]
      exact .cons h ih
end
theorem kkL_inj : ∀ {a b : List KK}, a.map kk = b.map kk → a = b
  | [], [], _ => rfl
  | [], _ :: _, h => by cases h
  | _ :: _, [], h => by cases h
  | x :: a, y :: b, h => by
    simp only [List.map_cons, List.cons.injEq] at h
    rw [kk_inj h.1, kkL_inj h.2]
def keyK : D → Option KK
  | .int i => some (.inl i)
  | .str x => some (.inr x)
  | _ => none
def keysL : List D → Option (List KK)
  | [] => some []
  | d :: r => match keyK d, keysL r with
    | some a, some b => some (a :: b)
    | _, _ => none
def keyT : D → Option (List KK)
  | .tup (d :: r) => keysL (d :: r)
  | _ => none
section
variable {G : Gx} {W : Wd} {H : Hp} {M : Mem}
theorem keyK_ok {d : D} {k : KK} {u : V} (e : keyK d = some k) (r : Rp G W H d u) : u = kV (kk k) := by
  cases d <;> cases e <;> exact r
theorem keysL_ok : ∀ {l : List D} {ks : List KK} {us : List V}, keysL l = some ks → RpL G W H l us → us = (ks.map kk).map kV
  | [], ks, us, e, r => by cases e; exact r
  | d :: l, ks, us, e, r => by
    simp only [keysL] at e
    split at e
    · rename_i a b h1 h2
      cases e
      obtain ⟨u, us', e1, r1, r2⟩ := r
      rw [e1, keyK_ok h1 r1, keysL_ok h2 r2]
      rfl
    · cases e
theorem keyT_ok {d : D} {ks : List KK} {u : V} (e : keyT d = some ks) (r : Rp G W H d u) : ∃ b, u = .ref b ∧ H b = some (.tup ((ks.map kk).map kV)) := by
  cases d with
  | tup l =>
    cases l with
    | nil => cases e
    | cons d l =>
      obtain ⟨a, us, e1, s, r1⟩ := r
      have := keysL_ok (show keysL (d :: l) = some ks from e) r1
      subst this
      rcases s with s | ⟨h, _⟩
      · exact ⟨a, e1, s⟩
      · cases h
  | _ => cases e
/-- what the dict holds there; none outside: no dict, no key -/
def dFind (M : Mem) (d k : D) : Option (Option D) := match d with
  | .ref i => match M[i]? with
    | some (.dk _ kvs) => (keyK k).map (gA kvs)
    | some (.dt _ kvs) => (keyT k).map (gA kvs)
    | _ => none
  | _ => none
theorem dk_at {i : Nat} {a : Addr} {lk : Bool} {kvs : List (KK × D)} (h : CellOk G W H a (.dk lk kvs)) : ∃ vs, Rd H a (.dK vs) ∧ RpK G W H kk kvs vs := by
  obtain ⟨vs, h1, h2⟩ := h
  refine ⟨vs, ?_, h2⟩
  cases lk
  · exact .inl h1
  · exact .inr h1
theorem dt_at {i : Nat} {a : Addr} {lk : Bool} {kvs : List (List KK × D)} (h : CellOk G W H a (.dt lk kvs)) : ∃ vs, Rd H a (.dT vs) ∧ RpK G W H (List.map kk) kvs vs := by
  obtain ⟨vs, h1, h2⟩ := h
  refine ⟨vs, ?_, h2⟩
  cases lk
  · exact .inl h1
  · exact .inr h1
theorem dFind_ok (m : MemOk G W H M) {d k : D} {x y : V} (rd : Rp G W H d x) (rk : Rp G W H k y) {o : Option D} (e : dFind M d k = some o) :
    ∃ a ov, x = .ref a ∧ DGet H a y ov ∧ ov.isSome = o.isSome ∧ ∀ v, o = some v → ∃ w, ov = some w ∧ Rp G W H v w := by
  cases d with
  | ref i =>
    obtain ⟨a, ha, hx⟩ := rd
    simp only [dFind] at e
    split at e
    · rename_i lk kvs hc
      obtain ⟨k', hk, rfl⟩ := Option.map_eq_some_iff.mp e
      obtain ⟨vs, h1, h2⟩ := dk_at (i := i) (m.cell _ _ a hc ha)
      have hy := keyK_ok hk rk
      obtain ⟨g1, g2⟩ := rpA_get (fun _ _ => kk_inj) k' h2
      refine ⟨a, valV vs (kk k'), hx, .inl ⟨vs, kk k', h1, hy, rfl⟩, ?_, fun v hv => g1 v hv⟩
      cases hq : gA kvs k' with
      | none => rw [g2 hq]; rfl
      | some d => obtain ⟨w, hw, _⟩ := g1 d hq; rw [hw]; rfl
    · rename_i lk kvs hc
      obtain ⟨k', hk, rfl⟩ := Option.map_eq_some_iff.mp e
      obtain ⟨vs, h1, h2⟩ := dt_at (i := i) (m.cell _ _ a hc ha)
      obtain ⟨b, hy, hb⟩ := keyT_ok hk rk
      obtain ⟨g1, g2⟩ := rpA_get (fun _ _ => kkL_inj) k' h2
      refine ⟨a, valV vs (k'.map kk), hx, .inr ⟨vs, k'.map kk, b, h1, hy, hb, rfl⟩, ?_, fun v hv => g1 v hv⟩
      cases hq : gA kvs k' with
      | none => rw [g2 hq]; rfl
      | some d => obtain ⟨w, hw, _⟩ := g1 d hq; rw [hw]; rfl
    · cases e
  | _ => cases e
/-- the memory behind d[k] = v -/
def dPut (M : Mem) (d k v : D) : Option Mem := match d with
  | .ref i => match M[i]? with
    | some (.dk false kvs) => match keyK k with
      | some k' => if kvs.length < 16777216 then some (M.set i (.dk false (pA kvs k' v))) else none
      | none => none
    | some (.dt false kvs) => match keyT k with
      | some k' => if kvs.length < 16777216 then some (M.set i (.dt false (pA kvs k' v))) else none
      | none => none
    | _ => none
  | _ => none
theorem dPut_ok (m : MemOk G W H M) {d k v : D} {x y u : V} (rd : Rp G W H d x) (rk : Rp G W H k y) (rv : Rp G W H v u) {M' : Mem} (e : dPut M d k v = some M') :
    ∃ a H', x = .ref a ∧ DPut H a y u H' ∧ Fut W H W H' ∧ MemOk G W H' M' := by
  cases d with
  | ref i =>
    obtain ⟨a, ha, hx⟩ := rd
    simp only [dPut] at e
    split at e
    · rename_i kvs hc
      split at e
      · rename_i k' hk
        split at e
        · rename_i hl
          cases e
          obtain ⟨vs, h1, h2⟩ := m.cell _ _ a hc ha
          have h1 : H a = some (.dK vs) := h1
          have f := Fut.wrote (W := W) (H := H) (o := .dK (putK vs (kk k') u)) ha h1 trivial
          refine ⟨a, _, hx, .inl ⟨vs, kk k', h1, keyK_ok hk rk, by rw [rpA_len h2, line_eq]; exact hl, rfl⟩, f, m.wrote ha ⟨_, upd_same, rpA_put (fun _ _ => kk_inj) (m.rp f rv) (h2.fut m f)⟩⟩
        · cases e
      · cases e
    · rename_i kvs hc
      split at e
      · rename_i k' hk
        split at e
        · rename_i hl
          cases e
          obtain ⟨vs, h1, h2⟩ := m.cell _ _ a hc ha
          have h1 : H a = some (.dT vs) := h1
          obtain ⟨b, hy, hb⟩ := keyT_ok hk rk
          have f := Fut.wrote (W := W) (H := H) (o := .dT (putK vs (k'.map kk) u)) ha h1 trivial
          refine ⟨a, _, hx, .inr ⟨vs, k'.map kk, b, h1, hy, hb, by rw [rpA_len h2, line_eq]; exact hl, rfl⟩, f, m.wrote ha ⟨_, upd_same, rpA_put (fun _ _ => kkL_inj) (m.rp f rv) (h2.fut m f)⟩⟩
        · cases e
      · cases e
    · cases e
  | _ => cases e
end
end Fn
set_option Elab.async false
set_option linter.all false
set_option maxRecDepth 100000
set_option maxHeartbeats 1000000
namespace Fn
open PySem PySem.Spec PyProof.Rows L2
section
variable {X : Cx} {G : Gx} {cl : Nat → Addr} {E : XK} {W : Wd} {H : Hp} {M : Mem} {a b c : Expr} {fa fb fc : FE} {pos : Pos}
def rGetD : R2 := fun x y H Q => ∃ a v, x = .ref a ∧ DGet H a y (some v) ∧ Q v H
theorem ix_dict (hu : X.A.units + 64 < cLine) : IxR X rGetD := by
  intro value slice pins s σ H x y v u Q I rx ry h hs
  obtain ⟨a, w, ex, g, q⟩ := h
  subst ex
  obtain rfl : v = Value.ref a := rx
  exact tail_any (dict_typeIs I g) PySem.F.slot_dict_getitem.lookup (d_getItem (by omega) I g ry fun w' s3 I3 rw' => ⟨w, H, I3, rw', q⟩) hs
def oIxA (a b : D) (M : Mem) : R D := match dFind M a b with
  | some (some v) => .ok v M
  | some none => .no
  | none => oIx a b M
theorem op2_ixA : Op2 G E (fun x y H Q => rIx G.K x y H Q ∨ rGetD x y H Q) oIxA := fun W H M a b u v Q m ra rb p => by
  unfold oIxA at p
  split at p
  · rename_i w e
    obtain ⟨a1, ov, ex, g, _, k⟩ := dFind_ok m ra rb e
    obtain ⟨z, hz, rz⟩ := k w rfl
    subst hz
    exact .inr ⟨a1, z, ex, g, p.here m _ rz⟩
  · exact p.elim
  · exact .inl (op2_ix W H M a b u v Q m ra rb p)
theorem sn_ixA (hu : X.A.units + 64 < cLine) (ha : PE X a (tE ⟨X.K, cl⟩ E fa)) (hb : PE X b (tE ⟨X.K, cl⟩ E fb)) (hs : PlainIx b := by intro _ _; rfl) : PE X (.Subscript a b pos) (tE ⟨X.K, cl⟩ E (mOp oIxA fa fb)) :=
  pe_imp (pe_ix (ix_seq.or (ix_dict hu)) ha hb hs) (tE_op op2_ixA)
def rInK (neg : Bool) : R2 := fun y x H Q => ∃ a o, x = .ref a ∧ DGet H a y o ∧ Q (.bl (neg != o.isSome)) H
theorem op_inK (hu : X.A.units + 64 < cLine) : OpR X (compareOp .In) (rInK false) := by
  intro pins s σ H y x u v Q I ry rx h
  obtain ⟨a, o, ex, g, q⟩ := h
  subst ex
  obtain rfl : v = Value.ref a := rx
  exact d_in (by omega) I g ry fun s' I' => ⟨.bl o.isSome, H, I', rfl, by simpa using q⟩
theorem op_notInK (hu : X.A.units + 64 < cLine) : OpR X (compareOp .NotIn) (rInK true) := by
  intro pins s σ H y x u v Q I ry rx h
  obtain ⟨a, o, ex, g, q⟩ := h
  subst ex
  obtain rfl : v = Value.ref a := rx
  exact d_notIn (by omega) I g ry fun s' I' => ⟨.bl (!o.isSome), H, I', rfl, by simpa using q⟩
def oInA (neg : Bool) (k d : D) (M : Mem) : R D := match dFind M d k with
  | some o => .ok (.bl (neg != o.isSome)) M
  | none => match d with
    | .str _ => oInS neg k d M
    | _ => oInD neg k d M
theorem op2_inA0 {neg : Bool} {r : R2} (hs : Op2 G E r (oInS neg)) : Op2 G E (fun x y H Q => (r x y H Q ∨ rInP G.K neg x y H Q) ∨ rInK neg x y H Q) (oInA neg) := fun W H M a b u v Q m ra rb p => by
  unfold oInA at p
  split at p
  · rename_i o e
    obtain ⟨a1, ov, ex, g, hi, _⟩ := dFind_ok m rb ra e
    exact .inr ⟨a1, ov, ex, g, by rw [hi]; exact p.here m _ rfl⟩
  · split at p
    · exact .inl (.inl (hs W H M _ _ u v Q m ra rb p))
    · exact .inl (.inr (op2_inD W H M a b u v Q m ra rb p))
theorem op_inA (hu : X.A.units + 64 < cLine) : OpR X (compareOp .In) (fun x y H Q => ((∃ (c : Nat) (z : Str), x = .str ⟨#[c]⟩ ∧ y = .str z ∧ Q (.bl (decide (c ∈ z.cps.toList))) H) ∨ rInP X.K false x y H Q) ∨ rInK false x y H Q) := (op_in_sign.or (op_inP hu)).or (op_inK hu)
theorem op_notInA (hu : X.A.units + 64 < cLine) : OpR X (compareOp .NotIn) (fun x y H Q => ((∃ (c : Nat) (z : Str), x = .str ⟨#[c]⟩ ∧ y = .str z ∧ Q (.bl (!decide (c ∈ z.cps.toList))) H) ∨ rInP X.K true x y H Q) ∨ rInK true x y H Q) := (op_notIn_sign.or (op_notInP hu)).or (op_notInK hu)
theorem op2_inA : Op2 G E (fun x y H Q => ((∃ (c : Nat) (z : Str), x = .str ⟨#[c]⟩ ∧ y = .str z ∧ Q (.bl (decide (c ∈ z.cps.toList))) H) ∨ rInP G.K false x y H Q) ∨ rInK false x y H Q) (oInA false) := op2_inA0 op2_inS
theorem op2_notInA : Op2 G E (fun x y H Q => ((∃ (c : Nat) (z : Str), x = .str ⟨#[c]⟩ ∧ y = .str z ∧ Q (.bl (!decide (c ∈ z.cps.toList))) H) ∨ rInP G.K true x y H Q) ∨ rInK true x y H Q) (oInA true) := op2_inA0 op2_notInS
def rSetD : V → V → V → Hp → (Hp → Prop) → Prop := fun o i v H Q => ∃ a H', o = .ref a ∧ DPut H a i v H' ∧ Q H'
theorem set_dict (hu : X.A.units + 64 < cLine) : PSet X rSetD := fun pins s σ H o i v ov iv u Q I ro ri rv h => by
  obtain ⟨a, H', eo, g, q⟩ := h
  subst eo
  obtain rfl : ov = Value.ref a := ro
  exact d_setItem (by omega) I g ri rv fun s' I' => ⟨H', I', q⟩
theorem set_any (hu : X.A.units + 64 < cLine) : PSet X (fun o i v H Q => rSetL o i v H Q ∨ rSetD o i v H Q) := fun pins s σ H o i v ov iv u Q I ro ri rv h => by
  rcases h with h | h
  · exact set_list pins s σ H o i v ov iv u Q I ro ri rv h
  · exact set_dict hu pins s σ H o i v ov iv u Q I ro ri rv h
/-- the memory behind x[i] = v of a list -/
def lPut (M : Mem) (o i d : D) : Option Mem := match o, i with
  | .ref j, .int k => match M[j]? with
    | some (.lst l) => match ixN l.length k with
      | some n => some (M.set j (.lst (l.set n d)))
      | none => none
    | _ => none
  | _, _ => none
def sPut (M : Mem) (o i d : D) : Option Mem := match dPut M o i d with
  | some m => some m
  | none => lPut M o i d
theorem sPut_ok (m : MemOk G W H M) {d k v : D} {x y u : V} (rd : Rp G W H d x) (rk : Rp G W H k y) (rv : Rp G W H v u) {M' : Mem} (e : sPut M d k v = some M') :
    ∃ H', Fut W H W H' ∧ MemOk G W H' M' ∧ ∀ Q : Hp → Prop, Q H' → rSetL x y u H Q ∨ rSetD x y u H Q := by
  unfold sPut at e
  split at e
  · rename_i m' e'
    cases e
    obtain ⟨a, H', e1, e2, f, k⟩ := dPut_ok m rd rk rv e'
    exact ⟨H', f, k, fun Q q => .inr ⟨a, H', e1, e2, q⟩⟩
  · unfold lPut at e
    split at e
    · rename_i j n
      split at e
      · rename_i l hc
        split at e
        · rename_i p hn
          cases e
          obtain ⟨a1, e1, e2⟩ := rd
          subst e2; cases rk
          obtain ⟨us, h1, h2⟩ := m.cell _ _ a1 hc e1
          have f := Fut.wrote (W := W) (H := H) (o := .lst (us.set p u)) e1 h1 trivial
          exact ⟨_, f, m.wrote e1 ⟨_, upd_same, m.rpL f (h2.set p rv)⟩, fun Q q => .inl ⟨a1, us, _, p, rfl, rfl, h1, by rw [h2.len]; exact hn, q⟩⟩
        · cases e
      · cases e
    · cases e
def gIxA (fo fi : FE) : FG := fun d env M => (fo env M).bind fun o m => (fi env m).bind fun i m' => match sPut m' o i d with
  | some m2 => .ok env m2
  | none => .no
theorem sg_ixA {sl : List Nat} (hu : X.A.units + 64 < cLine) (ha : PE X a (tE G E fa)) (hb : PE X b (tE G E fb)) (hs : ∀ v, assign (.Subscript a b pos) X.env v = (do
      let ov ← holding [v] (eval a X.env)
      let iv ← holding [v, ov] (eval b X.env)
      standAt pos
      holding [v, ov, iv] (setItem ov iv v)
      release [v, ov, iv] []) := by intro _; rfl) : PG X (.Subscript a b pos) (tGt G E sl (gIxA fa fb)) := pg_imp (pg_sub ha hb (set_any hu) hs) fun v σ H Q ⟨W, env, M, d, s, r, p⟩ => by
  refine tE.bind s p fun o m W1 H1 u1 f1 s1 r1 p1 => ?_
  refine tE.bind s1 p1 fun i m2 W2 H2 u2 f2 s2 r2 p2 => ?_
  split at p2
  · rename_i m3 e
    obtain ⟨H', f, k, q⟩ := sPut_ok s2.mem (s1.mem.rp f2 r1) r2 (s1.mem.rp f2 (s.mem.rp f1 r)) e
    exact q _ (p2 W2 H' f k _ (s2.env.fut s2.mem f) rfl)
  · exact p2.elim
def rGetL (K : PySem.W.Frag) : R2 := fun x y H Q => ∃ p xs i v, x = .ref p ∧ y = .int i ∧ SqL K H p xs ∧ L2.atI xs i = some v ∧ Q v H
theorem get_any (hu : X.A.units + 64 < cLine) : PGet X (fun x y H Q => rGetL X.K x y H Q ∨ rGetD x y H Q) := fun pins s σ H x y v u Q I rx ry h => by
  rcases h with h | h
  · obtain ⟨p, xs, i, z, rfl, rfl, hq, he, q⟩ := h
    cases rx
    obtain ⟨t, rfl⟩ := ry
    obtain ⟨its, r, pl, hz⟩ := I.list hq
    obtain ⟨j, h1, h2, h3, h4, h5⟩ := atI_get he
    obtain ⟨w, ew, rw'⟩ := r.get h2
    have hl := r.length
    have hn := line63
    by_cases h0 : 0 ≤ i
    · have hj : i.toNat = j := by
        rw [seqIndex_of h0 h5] at h1
        exact Option.some.inj h1
      exact wpAny_getItem_list pl.isList h0 (by omega) (by rw [hj]; simpa using ew) ⟨z, H, I, rw', q⟩
    · have hj : (i + (its.toArray.size : Int)).toNat = j := by
        rw [seqIndex_neg (by omega) h4] at h1
        rw [List.size_toArray, ← hl]
        exact Option.some.inj h1
      exact wpAny_getItem_list_neg pl.isList (by omega) (by rw [List.size_toArray] <;> omega) (by omega) (by rw [hj]; simpa using ew) ⟨z, H, I, rw', q⟩
  · obtain ⟨a, w, ex, g, q⟩ := h
    subst ex
    obtain rfl : v = Value.ref a := rx
    exact d_getItem (by omega) I g ry fun w' s3 I3 rw' => ⟨w, H, I3, rw', q⟩
def lGet (M : Mem) (o i : D) : Option D := match dFind M o i with
  | some (some v) => some v
  | some none => none
  | none => match o, i with
    | .ref j, .int k => match M[j]? with
      | some (.lst l) => L2.atI l k
      | _ => none
    | _, _ => none
theorem lGet_ok (m : MemOk G W H M) {d k : D} {x y : V} (rd : Rp G W H d x) (rk : Rp G W H k y) {v : D} (e : lGet M d k = some v) : ∃ w, Rp G W H v w ∧ ∀ Q : VK, Q w H → rGetL G.K x y H Q ∨ rGetD x y H Q := by
  unfold lGet at e
  split at e
  · rename_i w e'
    cases e
    obtain ⟨a1, ov, ex, g, _, k⟩ := dFind_ok m rd rk e'
    obtain ⟨z, hz, rz⟩ := k v rfl
    subst hz
    exact ⟨z, rz, fun Q q => .inr ⟨a1, z, ex, g, q⟩⟩
  · cases e
  · split at e
    · rename_i j n
      split at e
      · rename_i l hc
        obtain ⟨a1, e1, e2⟩ := rd
        subst e2; cases rk
        obtain ⟨us, h1, h2⟩ := m.cell _ _ a1 hc e1
        obtain ⟨w, h4, h5⟩ := h2.atI e
        exact ⟨w, h5, fun Q q => .inl ⟨a1, us, _, w, rfl, rfl, .inl (.inl h1), h4, q⟩⟩
      · cases e
    · cases e
def mAugIx (o : D → D → Mem → R D) (fo fi fe : FE) : FS := fun env M => (fo env M).bind fun a m => (fi env m).bind fun i m1 => match lGet m1 a i with
  | some x => (fe env m1).bind fun y m2 => (o x y m2).bind fun z m3 => match sPut m3 a i z with
    | some m4 => .ok (.nx env) m4
    | none => .no
  | none => .no
theorem ss_augIx {op : Operator} {ti : TIp} {o : D → D → Mem → R D} {tpos : Pos} (hi2 : Ip2 ⟨X.K, cl⟩ E ti o) (hop : PIp X op ti) (hu : X.A.units + 64 < cLine) (ha : PE X a (tE ⟨X.K, cl⟩ E fa)) (hb : PE X b (tE ⟨X.K, cl⟩ E fb)) (he : PE X c (tE ⟨X.K, cl⟩ E fc))
    (hst : ∀ ov iv new, augStore b ov iv new = (do holding [new, ov, iv] (setItem ov iv new); release [new, ov, iv] []; pure .next) := by intros; rfl) : PS X (.AugAssign (.Subscript a b tpos) op c pos) (tS ⟨X.K, cl⟩ E (mAugIx o fa fb fc)) :=
  ps_imp (ps_augS ha hb (get_any hu) he hop (set_any hu) hst) fun D σ H ⟨W, env, M, s, p⟩ => by
  refine tE.bind s p fun d m W1 H1 u1 f1 s1 r1 p1 => ?_
  refine tE.bind s1 p1 fun i m2 W2 H2 u2 f2 s2 r2 p2 => ?_
  split at p2
  · rename_i x e
    have r1' := s1.mem.rp f2 r1
    obtain ⟨w, rw_, k⟩ := lGet_ok s2.mem r1' r2 e
    refine k _ ?_
    refine tE.bind s2 p2 fun y m3 W3 H3 u3 f3 s3 r3 p3 => ?_
    refine hi2 W3 H3 m3 x y w u3 _ s3.mem (s2.mem.rp f3 rw_) r3 (PR.bind p3 fun z m4 W4 H4 f4 k4 p4 => fun v rv => ?_)
    split at p4
    · rename_i m5 e5
      obtain ⟨H', f, k5, q⟩ := sPut_ok k4 (s3.mem.rp f4 (s2.mem.rp f3 r1')) (s3.mem.rp f4 (s2.mem.rp f3 r2)) rv e5
      exact q _ (p4 W4 H' f k5 _ (( s3.env.fut s3.mem f4).fut k4 f))
    · exact p4.elim
  · exact p2.elim
end
end Fn
set_option Elab.async false
set_option linter.all false
set_option maxRecDepth 100000
set_option maxHeartbeats 1000000
namespace Fn
open PySem PySem.Spec PyProof.Rows L2 L2.DX
section
variable {X : Cx} {G : Gx} {cl : Nat → Addr} {E : XK} {W : Wd} {H : Hp} {M : Mem} {a b c : Expr} {fa fb fc : FE} {pos : Pos}
def mDNewK : FE := fun _ M => .ok (.ref M.length) (M ++ [.dk false []])
def mDNewT : FE := fun _ M => .ok (.ref M.length) (M ++ [.dt false []])
theorem sn_dnewK : PE X (.Dict [] [] pos) (tE G E mDNewK) := pe_imp pe_dnewK fun σ H Q ⟨W, env, M, s, p⟩ q hq =>
  p ⟨W.as ++ [q], W.hd⟩ _ (Fut.added s.mem hq) (s.mem.added hq ⟨[], upd_same, .nil⟩) _ ⟨q, by rw [← s.mem.len]; simp, rfl⟩
theorem sn_dnewT : PE X (.Dict [] [] pos) (tE G E mDNewT) := pe_imp pe_dnewT fun σ H Q ⟨W, env, M, s, p⟩ q hq =>
  p ⟨W.as ++ [q], W.hd⟩ _ (Fut.added s.mem hq) (s.mem.added hq ⟨[], upd_same, .nil⟩) _ ⟨q, by rw [← s.mem.len]; simp, rfl⟩
def dLen (M : Mem) : D → Option Nat
  | .ref i => match M[i]? with
    | some (.dk false kvs) => some kvs.length
    | some (.dt false kvs) => some kvs.length
    | _ => none
  | _ => none
def rLenD : List V → Hp → VK → Prop := fun xs H Q => (∃ a kvs, xs = [V.ref a] ∧ H a = some (.dK kvs) ∧ Q (.int kvs.length) H) ∨ rLenT xs H Q
theorem call_lenDD : CallR X (.builtin "len") rLenD := call_lenD.or call_len_dT
theorem dLen_ok (m : MemOk G W H M) {d : D} {x : V} (rd : Rp G W H d x) {n : Nat} (e : dLen M d = some n) (Q : VK) (q : Q (.int n) H) : rLenD [x] H Q := by
  cases d with
  | ref i =>
    obtain ⟨a, ha, hx⟩ := rd
    subst hx
    simp only [dLen] at e
    split at e
    · rename_i kvs hc
      cases e
      obtain ⟨vs, h1, h2⟩ := m.cell _ _ a hc ha
      exact .inl ⟨a, vs, rfl, h1, by rw [rpA_len h2]; exact q⟩
    · rename_i kvs hc
      cases e
      obtain ⟨vs, h1, h2⟩ := m.cell _ _ a hc ha
      exact .inr ⟨a, vs, rfl, h1, by rw [rpA_len h2]; exact q⟩
    · cases e
  | _ => cases e
def oLenA (ds : List D) (M : Mem) : R D := match ds with
  | [d] => match dLen M d with
    | some n => .ok (.int n) M
    | none => oLen [d] M
  | _ => .no
theorem fn_lenA : Fn1 G E (fun xs H Q => ((∃ p ys, xs = [.ref p] ∧ (SqL G.K H p ys ∨ SqT G.K H p ys) ∧ Q (.int ys.length) H) ∨ ∃ z : Str, xs = [.str z] ∧ z.length ≤ sizeLine ∧ Q (.int z.length) H) ∨ rLenD xs H Q) oLenA := fun W H M ds us Q m r p => by
  match ds, r, p with
  | [d], r, p =>
    simp only [oLenA] at p
    split at p
    · rename_i n e
      obtain ⟨u, us', e1, r1, r2⟩ := r
      have : us' = [] := r2
      subst this e1
      exact .inr (dLen_ok m r1 e Q (p.here m _ rfl))
    · exact .inl (fn_len W H M [d] us Q m r p)
  | [], r, p => exact p.elim
  | _ :: _ :: _, r, p => exact p.elim
theorem call_lenAA : CallR X (.builtin "len") (fun xs H Q => ((∃ p ys, xs = [.ref p] ∧ (SqL X.K H p ys ∨ SqT X.K H p ys) ∧ Q (.int ys.length) H) ∨ ∃ z : Str, xs = [.str z] ∧ z.length ≤ sizeLine ∧ Q (.int z.length) H) ∨ rLenD xs H Q) := call_lenA.or call_lenDD
def rGetM : V → List V → Hp → VK → Prop := fun x vs H Q => (∃ a y o, x = .ref a ∧ vs = [y] ∧ DGet H a y o ∧ Q (o.getD .non) H) ∨ ∃ a y d o, x = .ref a ∧ vs = [y, d] ∧ DGet H a y o ∧ Q (o.getD d) H
theorem mt_dget (hu : X.A.units + 64 < cLine) : MtR X "dict.get" rGetM := by
  intro pins s σ H x xs v us Q I rx rxs h
  rcases h with ⟨a, y, o, rfl, rfl, g, q⟩ | ⟨a, y, d, o, rfl, rfl, g, q⟩
  · obtain ⟨u, rfl, ru⟩ := vals1 rxs
    obtain rfl : v = Value.ref a := rx
    exact d_get1 (by omega) I g ru fun w' s' I' rw' => ⟨_, H, I', rw', q⟩
  · obtain ⟨u1, u2, rfl, r1, r2⟩ := vals2 rxs
    obtain rfl : v = Value.ref a := rx
    exact d_get2 (by omega) I g r1 r2 fun w' s' I' rw' => ⟨_, H, I', rw', q⟩
def oGetM (d : D) (ks : List D) (M : Mem) : R D := match ks with
  | [k] => match dFind M d k with
    | some (some v) => .ok v M
    | some none => .ok .non M
    | none => .no
  | [k, z] => match dFind M d k with
    | some (some v) => .ok v M
    | some none => .ok z M
    | none => .no
  | _ => .no
theorem mt1_dget : Mt1 G E rGetM oGetM := fun W H M a u ds us Q m ra r p => by
  unfold oGetM at p
  split at p
  · rename_i k
    obtain ⟨v, us', e1, r1, r2⟩ := r
    have : us' = [] := r2
    subst this e1
    split at p
    · rename_i w e
      obtain ⟨a1, ov, ex, g, _, kk⟩ := dFind_ok m ra r1 e
      obtain ⟨z, hz, rz⟩ := kk w rfl
      subst hz
      exact .inl ⟨a1, v, _, ex, rfl, g, p.here m _ rz⟩
    · rename_i e
      obtain ⟨a1, ov, ex, g, hi, _⟩ := dFind_ok m ra r1 e
      cases ov with
      | none => exact .inl ⟨a1, v, _, ex, rfl, g, p.here m _ rfl⟩
      | some z => cases hi
    · exact p.elim
  · rename_i k z
    obtain ⟨v, us', e1, r1, v2, us2, e2, r2, r3⟩ := r
    have : us2 = [] := r3
    subst this e2 e1
    split at p
    · rename_i w e
      obtain ⟨a1, ov, ex, g, _, kk⟩ := dFind_ok m ra r1 e
      obtain ⟨z, hz, rz⟩ := kk w rfl
      subst hz
      exact .inr ⟨a1, v, v2, _, ex, rfl, g, p.here m _ rz⟩
    · rename_i e
      obtain ⟨a1, ov, ex, g, hi, _⟩ := dFind_ok m ra r1 e
      cases ov with
      | none => exact .inr ⟨a1, v, v2, _, ex, rfl, g, p.here m _ r2⟩
      | some z => cases hi
    · exact p.elim
  · exact p.elim
def rPopK : V → List V → Hp → VK → Prop := fun x vs H Q => ∃ a kvs k more, x = .ref a ∧ vs = kV k :: more ∧ H a = some (.dK kvs) ∧ ((∃ v, (more = [] ∨ ∃ z, more = [z]) ∧ valV kvs k = some v ∧ Q v (upd H a (.dK (dropK kvs k)))) ∨ ∃ z, more = [z] ∧ valV kvs k = none ∧ Q z H)
theorem mt_popK : MtR X "dict.pop" rPopK := by
  intro pins s σ H x xs v us Q I rx rxs h
  obtain ⟨a, kvs, k, more, rfl, rfl, ha, h⟩ := h
  obtain rfl : v = Value.ref a := rx
  cases rxs with
  | cons ru rm =>
    rcases h with ⟨w, hm, hv, q⟩ | ⟨z, rfl, hv, q⟩
    · refine d_pop I ha ru hv ?_ fun w' s' I' rw' => ⟨w, _, I', rw', q⟩
      rcases hm with rfl | ⟨z, rfl⟩
      · cases rm; exact .inl rfl
      · obtain ⟨u2, rfl, _⟩ := vals1 rm; exact .inr ⟨u2, rfl⟩
    · obtain ⟨u2, rfl, r2⟩ := vals1 rm
      exact d_popD I ha ru hv fun s' I' => ⟨z, H, I', r2, q⟩
theorem mt_popD (hu : X.A.units + 64 < cLine) : MtR X "dict.pop" (fun x xs H Q => rPopK x xs H Q ∨ rPopT x xs H Q) := mt_popK.or (mt_popT (by omega))
def oPopD (d : D) (ks : List D) (M : Mem) : R D := match d, ks with
  | .ref i, k :: more => match M[i]? with
    | some (.dk false kvs) => match keyK k with
      | some k' => match gA kvs k', more with
        | some v, [] => .ok v (M.set i (.dk false (dA kvs k')))
        | some v, [_] => .ok v (M.set i (.dk false (dA kvs k')))
        | none, [z] => .ok z M
        | _, _ => .no
      | none => .no
    | some (.dt false kvs) => match keyT k, more with
      | some k', [z] => match gA kvs k' with
        | some v => .ok v (M.set i (.dt false (dA kvs k')))
        | none => .ok z M
      | _, _ => .no
    | _ => .no
  | _, _ => .no
theorem mt1_popD : Mt1 G E (fun x xs H Q => rPopK x xs H Q ∨ rPopT x xs H Q) oPopD := fun W H M a u ds us Q m ra r p => by
  unfold oPopD at p
  split at p
  · rename_i i k more
    obtain ⟨a1, ha, hx⟩ := ra
    subst hx
    obtain ⟨v, us', e1, r1, r2⟩ := r
    subst e1
    split at p
    · rename_i kvs hc
      obtain ⟨vs, h1, h2⟩ := m.cell _ _ a1 hc ha
      have h1 : H a1 = some (.dK vs) := h1
      split at p
      · rename_i k' hk
        obtain ⟨g1, g2⟩ := rpA_get (fun _ _ => kk_inj) k' h2
        have hv := keyK_ok hk r1
        subst hv
        have f := Fut.wrote (W := W) (H := H) (o := .dK (dropK vs (kk k'))) ha h1 trivial
        have mk := m.wrote ha (o := .dK (dropK vs (kk k'))) (c := .dk false (dA kvs k')) ⟨_, upd_same, rpA_drop (fun _ _ => kk_inj) (h2.fut m f)⟩
        split at p
        · rename_i w hw
          obtain ⟨z, hz, rz⟩ := g1 w hw
          have : us' = [] := r2
          subst this
          exact .inl ⟨a1, vs, kk k', [], rfl, rfl, h1, .inl ⟨z, .inl rfl, hz, p W _ f mk _ (m.rp f rz)⟩⟩
        · rename_i w y hw
          obtain ⟨z, hz, rz⟩ := g1 w hw
          obtain ⟨v2, us2, e2, r3, r4⟩ := r2
          have : us2 = [] := r4
          subst this e2
          exact .inl ⟨a1, vs, kk k', [v2], rfl, rfl, h1, .inl ⟨z, .inr ⟨v2, rfl⟩, hz, p W _ f mk _ (m.rp f rz)⟩⟩
        · rename_i y hw
          obtain ⟨v2, us2, e2, r3, r4⟩ := r2
          have : us2 = [] := r4
          subst this e2
          exact .inl ⟨a1, vs, kk k', [v2], rfl, rfl, h1, .inr ⟨v2, rfl, g2 hw, p.here m _ r3⟩⟩
        · exact p.elim
      · exact p.elim
    · rename_i kvs hc
      obtain ⟨vs, h1, h2⟩ := m.cell _ _ a1 hc ha
      have h1 : H a1 = some (.dT vs) := h1
      split at p
      · rename_i k' y hk
        obtain ⟨g1, g2⟩ := rpA_get (fun _ _ => kkL_inj) k' h2
        obtain ⟨b, hv, hb⟩ := keyT_ok hk r1
        subst hv
        obtain ⟨v2, us2, e2, r3, r4⟩ := r2
        have : us2 = [] := r4
        subst this e2
        have f := Fut.wrote (W := W) (H := H) (o := .dT (dropK vs (k'.map kk))) ha h1 trivial
        have mk := m.wrote ha (o := .dT (dropK vs (k'.map kk))) (c := .dt false (dA kvs k')) ⟨_, upd_same, rpA_drop (fun _ _ => kkL_inj) (h2.fut m f)⟩
        refine .inr ⟨a1, vs, k'.map kk, b, v2, rfl, rfl, h1, hb, fun w hw => ?_, fun hw => ?_⟩
        · split at p
          · rename_i w' hw'
            obtain ⟨z, hz, rz⟩ := g1 w' hw'
            rw [hz] at hw; cases hw
            exact p W _ f mk _ (m.rp f rz)
          · rename_i hn
            rw [g2 hn] at hw; cases hw
        · split at p
          · rename_i w' hw'
            obtain ⟨z, hz, rz⟩ := g1 w' hw'
            rw [hz] at hw; cases hw
          · exact p.here m _ r3
      · exact p.elim
    · exact p.elim
  · exact p.elim
end
end Fn
set_option Elab.async false
set_option linter.all false
set_option maxRecDepth 100000
set_option maxHeartbeats 1000000
namespace Fn
open PySem PySem.Spec PyProof.Rows L2
section
variable {X : Cx} {G : Gx} {cl : Nat → Addr} {E : XK} {W : Wd} {H : Hp} {M : Mem} {a b c : Expr} {fa fb fc : FE} {pos : Pos}
def unlk {α : Type} (i : Nat) (r : R α) : R α := match r with
  | .ok x m => match m[i]? with
    | some (.dk true kvs) => .ok x (m.set i (.dk false kvs))
    | some (.dt true kvs) => .ok x (m.set i (.dt false kvs))
    | _ => .no
  | _ => .no
def lockIn {α : Type} (fd : FE) (f : Env → Mem → R α) : Env → Mem → R α := fun env M => match fd env M with
  | .ok (.ref i) _ => match M[i]? with
    | some (.dk false kvs) => unlk i (f env (M.set i (.dk true kvs)))
    | some (.dt false kvs) => unlk i (f env (M.set i (.dt true kvs)))
    | _ => f env M
  | _ => f env M
def mLockE (fd : FE) (f : FE) : FE := lockIn fd f
theorem rpK_kp {W' : Wd} {H' : Hp} (k : Kp W H W' H') {κ κ' : Type} {f : κ → κ'} {kvs : List (κ × D)} {vs : List (κ' × V)} (r : RpK G W H f kvs vs) : RpK G W' H' f kvs vs := Paired.mapP r fun _ _ z => ⟨z.1, Rp.kp k _ _ z.2⟩
theorem unlk_run {α : Type} {K K' : α → Mem → Wd → Hp → Prop} {i : Nat} {a1 : Addr} {u : HO} {od : Obj} {c1 : Cell} {r : R α} (m : MemOk G W H M) (ha : W.as[i]? = some a1) (h1 : H a1 = some u) (hn : Nf u)
    (hK : ∀ x m' W' H', Kp W' H' W' (upd H' a1 u) → H' a1 = some (.frz od u) → K x m' W' (upd H' a1 u) → ∀ m0, K' x m0 W' H')
    (hc : (∃ vs, u = .dK vs) ∨ ∃ vs, u = .dT vs) (p : PR G W H K E (unlk i r)) : PR G W (upd H a1 (.frz od u)) K' E r := by
  cases r with
  | ex c fs m' => exact p.elim
  | no => exact p.elim
  | ok x m' =>
    intro W' H' f2 k
    have hl : H' a1 = some (.frz od u) := f2.lk a1 od u upd_same
    have ha' : W'.as[i]? = some a1 := f2.get ha
    have f1 : Fut W H W (upd H a1 (.frz od u)) := Fut.wrote ha h1 hn
    have ff := f1.trans f2
    have hk : Kp W' H' W' (upd H' a1 u) := Kp.wrote k ha'
    have fut : Fut W H W' (upd H' a1 u) := ⟨ff.ext, ff.hd, fun b o e hb => by rw [upd_ne (fun z => hb (by rw [z]; exact List.mem_of_getElem? ha))]; exact ff.keep b o e hb, fun b o w e => by
      rw [upd_ne (fun z => by rw [z, h1] at e; cases e; exact hn)]; exact ff.lk b o w e⟩
    simp only [unlk] at p
    split at p
    · rename_i kvs' hc'
      obtain ⟨vs', ⟨o', q1⟩, q2⟩ := k.cell _ _ a1 hc' ha'
      rw [hl] at q1
      cases q1
      exact hK x _ W' H' hk hl (p W' _ fut (k.wrote ha' ⟨vs', upd_same, rpK_kp hk q2⟩)) m'
    · rename_i kvs' hc'
      obtain ⟨vs', ⟨o', q1⟩, q2⟩ := k.cell _ _ a1 hc' ha'
      rw [hl] at q1
      cases q1
      exact hK x _ W' H' hk hl (p W' _ fut (k.wrote ha' ⟨vs', upd_same, rpK_kp hk q2⟩)) m'
    · exact p.elim
theorem sn_lock {e : Expr} {f : FE} (fd : FE) (h : PE X e (tE G E f)) : PE X e (tE G E (mLockE fd f)) := by
  have h2 : PE X e (fun σ H Q => tE G E f σ H Q ∨ tLockE (tE G E f) σ H Q) := ⟨fun pins s' σ H D I q => q.elim (h.run pins s' σ H D I) ((pe_lock h).run pins s' σ H D I)⟩
  refine pe_imp h2 fun σ H Q ⟨W, env, M, s1, p⟩ => ?_
  unfold mLockE lockIn at p
  have hi : ∀ {i : Nat} {c : Cell}, M[i]? = some c → ∃ a1, W.as[i]? = some a1 := fun {i c} hc => by
    have : i < W.as.length := by rw [s1.mem.len]; exact (List.getElem?_eq_some_iff.mp hc).1
    exact ⟨_, List.getElem?_eq_getElem this⟩
  have hK : ∀ {a1 : Addr} {u : HO} {od : Obj} (x : D) (m' : Mem) (W' : Wd) (H' : Hp), Kp W' H' W' (upd H' a1 u) → H' a1 = some (.frz od u) → PV G Q x m' W' (upd H' a1 u) → ∀ m0, PV G (fun v H' => H' a1 = some (.frz od u) ∧ Q v (upd H' a1 u)) x m0 W' H' :=
    fun x m' W' H' hk hl q m0 => fun v rv => ⟨hl, q v (Rp.kp hk _ _ rv)⟩
  split at p
  · rename_i i m0 hfd
    split at p
    · rename_i kvs hc
      obtain ⟨a1, ha⟩ := hi hc
      obtain ⟨vs, q1, q2⟩ := s1.mem.cell _ _ a1 hc ha
      have q1 : H a1 = some (.dK vs) := q1
      refine .inr ⟨a1, .dK vs, q1, True.intro, fun od => ?_⟩
      have f1 : Fut W H W (upd H a1 (.frz od (.dK vs))) := Fut.wrote ha q1 trivial
      exact ⟨W, env, M.set i (.dk true kvs), s1.fut f1 (s1.mem.wrote ha ⟨vs, ⟨od, upd_same⟩, q2.fut s1.mem f1⟩), unlk_run (c1 := .dk true kvs) s1.mem ha q1 trivial hK (.inl ⟨vs, rfl⟩) p⟩
    · rename_i kvs hc
      obtain ⟨a1, ha⟩ := hi hc
      obtain ⟨vs, q1, q2⟩ := s1.mem.cell _ _ a1 hc ha
      have q1 : H a1 = some (.dT vs) := q1
      refine .inr ⟨a1, .dT vs, q1, True.intro, fun od => ?_⟩
      have f1 : Fut W H W (upd H a1 (.frz od (.dT vs))) := Fut.wrote ha q1 trivial
      exact ⟨W, env, M.set i (.dt true kvs), s1.fut f1 (s1.mem.wrote ha ⟨vs, ⟨od, upd_same⟩, q2.fut s1.mem f1⟩), unlk_run (c1 := .dt true kvs) s1.mem ha q1 trivial hK (.inr ⟨vs, rfl⟩) p⟩
    · exact .inl ⟨W, env, M, s1, p⟩
  · exact .inl ⟨W, env, M, s1, p⟩
def keyD : KK → D
  | .inl i => .int i
  | .inr x => .str x
theorem keyD_rp (k : KK) : Rp G W H (keyD k) (kV (kk k)) := by cases k <;> rfl
theorem keysD_rp : ∀ (ks : List KK), RpL G W H (ks.map keyD) ((ks.map kk).map kV)
  | [] => rfl
  | k :: r => ⟨_, _, rfl, keyD_rp k, keysD_rp r⟩
theorem rpA_at {κ κ' : Type} {f : κ → κ'} : ∀ {kvs : List (κ × D)} {vs : List (κ' × V)} {i : Nat} {k : κ} {d : D}, RpK G W H f kvs vs → kvs[i]? = some (k, d) → ∃ v, vs[i]? = some (f k, v) ∧ Rp G W H d v
  | _, _, i, k, d, .nil, e => by simp at e
  | _, _, 0, k, d, .cons (a := p) (b := q) h t, e => by
    simp only [List.getElem?_cons_zero, Option.some.injEq] at e
    subst e
    refine ⟨q.2, ?_, h.2⟩
    have h1 : f k = q.1 := h.1
    simp [h1]
  | _, _, i + 1, k, d, .cons h t, e => by
    simp only [List.getElem?_cons_succ] at e ⊢
    exact rpA_at t e
theorem map_at {α : Type} {F : α → D} {l : List α} {i : Nat} {d : D} (e : (l.map F)[i]? = some d) : ∃ x, l[i]? = some x ∧ d = F x := by
  rw [List.getElem?_map] at e
  cases q : l[i]? with
  | none => rw [q] at e; cases e
  | some x => rw [q] at e; cases e; exact ⟨x, rfl, rfl⟩
theorem src_items {a1 : Addr} {o : Obj} {kvs : List (KK × D)} {vs : List (Key × V)} (h : H a1 = some (.frz o (.dK vs))) (r : RpK G W H kk kvs vs) : SrcOk G W H ⟨kvs.map fun kv => .tup [keyD kv.1, kv.2], fun _ => True⟩ (Iti a1 o vs) where
  item := fun W2 H2 M2 f lk m _ i d e => by
    obtain ⟨kv, hk, rfl⟩ := map_at e
    obtain ⟨v, hv, rv⟩ := rpA_at r hk
    refine ⟨⟨lk _ _ _ h, (List.getElem?_eq_some_iff.mp hv).1⟩, fun x H' y => ?_⟩
    obtain ⟨T, k', v', e1, rfl, hT, rfl⟩ := y
    rw [hv] at e1; cases e1
    have ft : Fut W2 H2 W2 (upd H2 T (.tup [kV (kk kv.1), v])) := Fut.laid hT
    exact ⟨ft, m.laid hT, T, _, rfl, .inl upd_same, _, _, rfl, keyD_rp _, _, _, rfl, m.rp ft (Rp.kp f _ _ rv), rfl⟩
  stop := fun W2 H2 M2 f lk m _ => ⟨lk _ _ _ h, by rw [List.length_map, rpA_len r]; exact Nat.le_refl _⟩
end
end Fn
set_option Elab.async false
set_option linter.all false
set_option maxRecDepth 100000
set_option maxHeartbeats 1000000
namespace Fn
open PySem PySem.Spec PyProof.Rows L2
end Fn
set_option Elab.async false
set_option linter.all false
set_option maxRecDepth 100000
set_option maxHeartbeats 1000000
namespace Fn
open PySem PySem.Spec PyProof.Rows L2
end Fn
set_option Elab.async false
set_option linter.all false
set_option maxRecDepth 100000
set_option maxHeartbeats 1000000
namespace Fn
open PySem PySem.Spec PyProof.Rows L2 L2.DX
section
variable {X : Cx} {G : Gx} {cl : Nat → Addr} {E : XK} {W : Wd} {H : Hp} {M : Mem} {a b c : Expr} {fa fb fc : FE} {pos : Pos}
theorem pop1_meets {prog : Program} {w : World} {κ : Type} [DecidableEq κ] {knd : HeapKind prog w κ} {d b : Addr} {k : κ} (hd : (d == sysModules) = false) :
    MeetsIn prog w (Builtin.«dict.pop» ⟨[.ref d, .ref b], []⟩) (fun A R s => ∃ xs p, knd.room A.in1 ∧ knd.is s.heap k b ∧ s.heap.DictOfH knd d xs ∧ xs.length ≤ sizeLine ∧ atKey xs k = some p ∧
      ∀ h' tk, h'.DictOfH knd d (DT.dropH xs k) → Heap.SameBut d s.heap h' → R (.ok (.ret p.2)) { s with heap := h', toks := tk }) :=
  .of_wp fun A R s ⟨xs, p, hu, hkey, hm, hsz, hat, hsome⟩ => by
    obtain ⟨o, es, ep, ho, hc, hdat, he, his, hn⟩ := id hm
    have hes : es.size = xs.length := size_of_entries he
    have hp0 : (keyPart (Value.ref b)).isSome = false := rfl
    unfold Builtin.«dict.pop»; refine wpAny_bind ?_; unfold Builtin.Dict.keyAndDefault
    refine wpAny_bind (wpAny_notOrdered_dict hm.typeIs ?_); show wpAny _ _ (pure (d, Value.ref b, none)) _ _ s
    refine wpAny_pure ?_; simp only [hp0, Bool.false_eq_true, if_false]
    refine wpAny_bind (wpAny_dictEntries ho hdat (wpAny_bind (wpAny_pure ?_)))
    cases hem : es.isEmpty with
    | true =>
      have z : es.size = 0 := by simpa using hem
      have h0 : xs = [] := List.length_eq_zero_iff.mp (by omega)
      rw [h0] at hat; cases hat
    | false =>
      simp only [Bool.false_eq_true, if_false]
      refine wpAny_bind (DT.takeH hu hkey hm hsz (fun hno => ?_) fun p' e hp hev h' hm' hs' => ?_)
      · rw [hno] at hat; cases hat
      · rw [hp] at hat; cases hat
        simp only [Option.isNone_some, Bool.false_eq_true, if_false]; exact wpAny_bind (wpAny_letGo (wpAny_pure ⟨e.val, rfl, by rw [hev]; exact hsome h' _ hm' hs'⟩))
def rPopT1 : V → List V → Hp → VK → Prop := fun x xs H Q => ∃ (a : Addr) (kvs : List (List L2.Key × V)) (k : List L2.Key) (b : Addr) (v : V), x = .ref a ∧ xs = [.ref b] ∧ H a = some (.dT kvs) ∧ H b = some (.tup (k.map kV)) ∧ valV kvs k = some v ∧ Q v (upd H a (.dT (dropK kvs k)))
theorem mt_popT1 (hu : X.A.units + 64 < cLine) : MtR X "dict.pop" rPopT1 := by
  intro pins s σ H x xs v us Q I rx rxs h
  obtain ⟨a, kvs, k, b, v0, rfl, rfl, ha, hb, hv, q1⟩ := h
  cases rx
  obtain ⟨u1, rfl, r1⟩ := vals1 rxs
  cases r1
  obtain ⟨z, hd, xs', rel, dd⟩ := dt_of I.hok ha
  have r := rel.val k
  rw [hv] at r
  obtain ⟨p, hp⟩ : ∃ p, atKey xs' k = some p := by
    cases e : atKey xs' k with
    | some p => exact ⟨p, rfl⟩
    | none => rw [e] at r; exact (show False from r).elim
  rw [hp] at r
  refine call_meetsIn PySem.F.slot_dict_pop dd.typeIs PySem.F.entry_dict_pop (PySem.F.args_dict_pop_2 _ _) (pop1_meets (knd := tupleKind (mixKind X.prog X.w)) (k := k) hd)
    ⟨xs', p, tupleKind_room_in1 (by omega), key_of I.hok hb, dd, by rw [← Paired.length rel]; exact z, hp, fun h' tk dd' hs => ?_⟩
  obtain ⟨o, es, ep, hq, h2, h3, h4, _, h5⟩ := dd'
  have I2 : Inv X pins σ (upd H a (.dT (dropK kvs k))) { s with heap := h', toks := tk } := d_write I (by rw [ha]; exact True.intro) hs ⟨o, hq⟩
    ⟨Nat.le_trans (dropK_le kvs k) z, hd, _, (KT_drop k rel).keeps (fun c ys ec => (by rw [upd_ne (ne_of ec ha (fun z => nomatch z))]; exact ec)), o, es, ep, hq, h2, h3, h4, h5⟩
  exact ⟨v0, _, I2, r, q1⟩
def popT (d : D) (ks : List D) (M : Mem) : Option (D × Mem) := match d, ks with
  | .ref i, [k] => match M[i]? with
    | some (.dt false kvs) => match keyT k with
      | some k' => match gA kvs k' with
        | some v => some (v, M.set i (.dt false (dA kvs k')))
        | none => none
      | none => none
    | _ => none
  | _, _ => none
def oPopE (d : D) (ks : List D) (M : Mem) : R D := match popT d ks M with
  | some (v, m) => .ok v m
  | none => oPopD d ks M
theorem mt_popE (hu : X.A.units + 64 < cLine) : MtR X "dict.pop" (fun x xs H Q => (rPopK x xs H Q ∨ rPopT x xs H Q) ∨ rPopT1 x xs H Q) := (mt_popD hu).or (mt_popT1 hu)
theorem mt1_popE : Mt1 G E (fun x xs H Q => (rPopK x xs H Q ∨ rPopT x xs H Q) ∨ rPopT1 x xs H Q) oPopE := fun W H M a u ds us Q m ra r p => by
  unfold oPopE at p
  split at p
  · rename_i v0 m0 e
    unfold popT at e
    split at e
    · rename_i i k
      obtain ⟨a1, ha, hx⟩ := ra
      subst hx
      obtain ⟨v, us', e1, r1, r2⟩ := r
      have : us' = [] := r2
      subst this e1
      split at e
      · rename_i kvs hc
        obtain ⟨vs, h1, h2⟩ := m.cell _ _ a1 hc ha
        have h1 : H a1 = some (.dT vs) := h1
        split at e
        · rename_i k' hk
          split at e
          · rename_i w hw
            cases e
            obtain ⟨b, hv, hb⟩ := keyT_ok hk r1
            subst hv
            obtain ⟨z, hz, rz⟩ := (rpA_get (fun _ _ => kkL_inj) k' h2).1 _ hw
            have f := Fut.wrote (W := W) (H := H) (o := .dT (dropK vs (k'.map kk))) ha h1 trivial
            have mk := m.wrote ha (o := .dT (dropK vs (k'.map kk))) (c := .dt false (dA kvs k')) ⟨_, upd_same, rpA_drop (fun _ _ => kkL_inj) (h2.fut m f)⟩
            exact .inr ⟨a1, vs, k'.map kk, b, z, rfl, rfl, h1, hb, hz, p W _ f mk _ (m.rp f rz)⟩
          · cases e
        · cases e
      · cases e
    · cases e
  · exact .inl (mt1_popD W H M a u ds us Q m ra r p)
end
end Fn
set_option Elab.async false
set_option linter.all false
set_option maxRecDepth 100000
set_option maxHeartbeats 1000000
namespace Fn
open PySem PySem.Spec PyProof.Rows L2 L2.DX
section
variable {X : Cx} {pins : List (Addr × Obj)} {σ : L2.St} {H : Hp} {s : Shared} {d : Addr} {o : Obj}
/-- an entry of a locked dict with tuple keys: its key, its value -/
theorem frzT_at {kvs : List (List Key × V)} (I : Inv X pins σ H s) (h : H d = some (.frz o (.dT kvs))) {es : Array DictEntry} {ep : Nat} (hdt : o.data = .dict es ep) {i : Nat} {k : List Key} {v : V} (e : kvs[i]? = some (k, v)) :
    ∃ (en : DictEntry) (q : Addr), es[i]? = some en ∧ en.key = .ref q ∧ H q = some (.tup (k.map kV)) ∧ RelV v en.val := by
  obtain ⟨hd, z, hs, xs, pr, o', es', ep', ho, hx, hdt', he, _⟩ := I.hok d _ h
  rw [hd] at ho
  cases ho
  obtain ⟨rfl, rfl⟩ := dict_ep hdt hdt'
  obtain ⟨b, hb, e1, e2, e3⟩ := paired_get pr e
  have q := entry_at he i
  rw [hb] at q
  exact ⟨_, b.2.1, q, rfl, e2, e3⟩
end
/-- the pairs, each a new tuple with the key's own tuple -/
def Itit (d : Addr) (o : Obj) (kvs : List (List Key × V)) : It :=
  ⟨fun i H => H d = some (.frz o (.dT kvs)) ∧ i < kvs.length, fun i H x H' => ∃ T k v q, kvs[i]? = some (k, v) ∧ x = .ref T ∧ H T = none ∧ H q = some (.tup (k.map kV)) ∧ H' = upd H T (.tup [.ref q, v]), fun i H => H d = some (.frz o (.dT kvs)) ∧ kvs.length ≤ i⟩
section
variable {P : Program} {w : World} {K : PySem.W.Frag} {d : Addr} {o : Obj} {es : Array DictEntry} {ep : Nat}
theorem turn_itemsT {kvs : List (List Key × V)} {elts : List Expr} {k0 : Nat} {tpos : Pos} (it : Addr) (hod : o.data = .dict es ep) :
    Turn P w K (.Tuple elts k0 tpos) (Itit d o kvs) [it] it (fun i h => ∃ ok ov, IsItemIter h it d i kvs.length ep ok ov) where
  mem := by simp
  obj := fun i h st b hb => by
    have e : b = it := by simpa using hb
    subst e; obtain ⟨ok, ov, e⟩ := st; exact ⟨_, e, fun v z => nomatch z⟩
  keep := fun i h h' st k => let ⟨ok, ov, e⟩ := st; ⟨ok, ov, k it (by simp) _ e⟩
  item := by
    intro X hP hw hK hc i pins s σ H E I hf st hg
    subst hP hw hK; obtain ⟨hd, hi⟩ := hg
    obtain ⟨hs, hgd, hx, es', ep', hdt, hsz, _⟩ := I.frzT hd
    obtain ⟨rfl, rfl⟩ := dict_ep hod hdt
    obtain ⟨⟨k, v⟩, hkv⟩ : ∃ p, kvs[i]? = some p := ⟨kvs[i], List.getElem?_eq_getElem hi⟩
    obtain ⟨en, q, hen, hkey, hq, rv⟩ := frzT_at I hd hod hkv
    obtain ⟨ok, ov, he⟩ := st
    rw [← hsz] at he
    have hil : i < es'.size := by omega
    have hen2 : es'[i] = en := by rw [Array.getElem?_eq_getElem hil] at hen; exact Option.some.inj hen
    have hlt : it < s.heap.objs.size := Heap.lt_size he
    refine DT.nextI he (⟨o, hgd, hx, hdt⟩ : DT.Raw s.heap d es' ep') hil fun h' ho hT hz hk => ?_
    rw [hen2] at ho hT
    refine ⟨_, rfl, wpAny_letOwnedTupleGo_items (s := { s with heap := h' }) ho fun h'' he' sb => ?_⟩
    have hT2 : h''.get? s.heap.objs.size = some { cls := .type "tuple", data := .seq #[en.key, en.val] } := (sb.2 _ (Nat.ne_of_gt hlt)).trans hT
    have new : ObjOk X.prog X.w (upd H s.heap.objs.size (.tup [.ref q, v])) h'' s.heap.objs.size (.tup [.ref q, v]) :=
      ⟨by show 2 ≤ sizeLine; decide, [en.key, en.val], .cons hkey (.cons rv .nil), ⟨_, hT2, rfl, _, rfl⟩⟩
    have I1 : Inv X pins σ (upd H s.heap.objs.size (.tup [.ref q, v])) { s with heap := h'' } :=
      I.turnedNew (t' := s.toks) (ch := [it]) (fun b ob hb e => (sb.2 b (by simpa using hb)).trans (hk b ob (by simpa using hb) e)) hf (Nat.le_refl _) new
    refine ⟨.ref s.heap.objs.size, _, I1, rfl, ⟨_, k, v, q, hkv, rfl, I.hok.fresh (Nat.le_refl _), hq, rfl⟩, ⟨en.key, en.val, ?_⟩, fun b hb => ?_⟩
    · rw [← hsz]; exact he'
    · have e : b = it := by simpa using hb
      rw [e, upd_ne (Nat.ne_of_lt hlt)]; exact (hf it (by simp)).1
  done := by
    intro X hP hw hK hc i pins s σ H E I hf st hg
    subst hP hw hK; obtain ⟨hd, hi⟩ := hg
    obtain ⟨f0, f1, f2, f3, f4, f5⟩ := hf it (by simp)
    obtain ⟨hs, hgd, hx, es', ep', hdt, hsz, _⟩ := I.frzT hd
    obtain ⟨rfl, rfl⟩ := dict_ep hod hdt
    obtain ⟨ok, ov, he⟩ := st
    rw [← hsz] at he
    exact DT.endI (I.ok.hd hc) he (⟨o, hgd, hx, hdt⟩ : DT.Raw s.heap d es' ep') (by omega) fun h' eb => ⟨rfl, I.turned (t' := s.toks) (fun b ob hb e => eb b ob hb e) f0 f1 f3 f4 f5⟩
  self := fun A i s Q E st h => let ⟨_, _, e⟩ := st; PySem.W.kcp_self e h
end
def iItemsT (td : TE) : TI := fun σ H R => td σ H fun x H1 => ∃ d o, x = .ref d ∧ ((∃ kvs, H1 d = some (.frz o (.dK kvs)) ∧ R (Iti d o kvs) H1) ∨ ∃ kvs, H1 d = some (.frz o (.dT kvs)) ∧ R (Itit d o kvs) H1)
section
variable {X : Cx} {e : Expr} {td : TE} {apos cpos : Pos} {elts : List Expr} {k0 : Nat} {tpos : Pos}
theorem pi_itemsA (he : PE X e td) (hbase : attributeBase e "items" X.env (eval e X.env) = eval e X.env) (hline : (apos.endLine == cpos.line) = true) : PI X (.Tuple elts k0 tpos) (.Call (.Attribute e "items" apos) [] [] cpos) (iItemsT td) := by
  refine ⟨fun pins s σ H R I h => ?_⟩
  refine wpAny_Call_method (T := "dict") (id := "dict.items") hbase rfl hline F.plainAttrs_dict F.slot_dict_items F.type_dict_items (thn (he.run pins s σ H _ I h) fun u s1 ⟨x, H1, I1, rx, d, o, ex, q⟩ => ?_)
  subst ex
  obtain rfl : u = Value.ref d := rx
  have I2 : Inv X pins σ H1 { s1 with heap := s1.heap.push { cls := .type "dict_items", data := .fields #[.ref d] } } := I1.kept (t' := s1.toks) fun b ob q => Heap.get?_push_of_some _ q
  have vw : (s1.heap.push { cls := .type "dict_items", data := .fields #[.ref d] }).IsItemsView s1.heap.objs.size d := ⟨_, Heap.get?_push_size _ rfl, rfl, rfl⟩
  rcases q with ⟨kvs, hd, q⟩ | ⟨kvs, hd, q⟩
  · obtain ⟨hs, hgd, hx, es, ep, vs, hdt, hsz, kv, hm⟩ := I1.frzK hd
    have raw : DT.Raw s1.heap d es ep := ⟨o, hgd, hx, hdt⟩
    refine ⟨raw.typeIs, hm.dictOf.mapOf.noDict, ?_⟩
    show wpAny _ _ (callWith cpos (.builtin "dict.items") [.ref d] [] []) _ X.xe s1
    refine method_meetsIn F.slot_dict_items F.entry_dict_items rfl (PySem.evalArgs_none ⟨rfl, raw.typeIs, F.args_dict_items_1 _, _, DT.meetsItems (es := es) (ep := ep) hs, raw, ?_⟩)
    exact DT.iterI vw (raw.push _) (pi_one (tk := s1.toks) I2 _ (turn_items _ hdt) ⟨.none, .none, by rw [← hsz]; exact Heap.get?_push_size _ rfl⟩ q)
  · obtain ⟨hs, hgd, hx, es, ep, hdt, hsz, _⟩ := I1.frzT hd
    have raw : DT.Raw s1.heap d es ep := ⟨o, hgd, hx, hdt⟩
    refine ⟨raw.typeIs, fun b qq => ?_, ?_⟩
    · cases qq; exact ⟨o, hgd, hx.2.1⟩
    show wpAny _ _ (callWith cpos (.builtin "dict.items") [.ref d] [] []) _ X.xe s1
    refine method_meetsIn F.slot_dict_items F.entry_dict_items rfl (PySem.evalArgs_none ⟨rfl, raw.typeIs, F.args_dict_items_1 _, _, DT.meetsItems (es := es) (ep := ep) hs, raw, ?_⟩)
    exact DT.iterI vw (raw.push _) (pi_one (tk := s1.toks) I2 _ (turn_itemsT _ hdt) ⟨.none, .none, by rw [← hsz]; exact Heap.get?_push_size _ rfl⟩ q)
end
section
variable {X : Cx} {G : Gx} {cl : Nat → Addr} {E : XK} {W : Wd} {H : Hp} {M : Mem} {a b c : Expr} {fa fb fc : FE} {pos : Pos}
theorem src_itemsT {a1 : Addr} {o : Obj} {kvs : List (List KK × D)} {vs : List (List Key × V)} (h : H a1 = some (.frz o (.dT vs))) (r : RpK G W H (List.map kk) kvs vs) : SrcOk G W H ⟨kvs.map fun kv => .tup [.tup (kv.1.map keyD), kv.2], fun _ => True⟩ (Itit a1 o vs) where
  item := fun W2 H2 M2 f lk m _ i d e => by
    obtain ⟨kv, hk, rfl⟩ := map_at e
    obtain ⟨v, hv, rv⟩ := rpA_at r hk
    refine ⟨⟨lk _ _ _ h, (List.getElem?_eq_some_iff.mp hv).1⟩, fun x H' y => ?_⟩
    obtain ⟨T, k', v', q, e1, rfl, hT, hq, rfl⟩ := y
    rw [hv] at e1; cases e1
    have ft : Fut W2 H2 W2 (upd H2 T (.tup [.ref q, v])) := Fut.laid hT
    refine ⟨ft, m.laid hT, T, _, rfl, .inl upd_same, _, _, rfl, ⟨q, _, rfl, .inl ?_, keysD_rp _⟩, _, _, rfl, m.rp ft (Rp.kp f _ _ rv), rfl⟩
    rw [upd_ne (ne_of_none hq hT)]; exact hq
  stop := fun W2 H2 M2 f lk m _ => ⟨lk _ _ _ h, by rw [List.length_map, rpA_len r]; exact Nat.le_refl _⟩
def iItemsA (fd : FE) : FI := fun env M => (fd env M).bind fun d m => match d with
  | .ref i => match m[i]? with
    | some (.dk true kvs) => .ok ⟨kvs.map fun kv => .tup [keyD kv.1, kv.2], fun _ => True⟩ m
    | some (.dt true kvs) => .ok ⟨kvs.map fun kv => .tup [.tup (kv.1.map keyD), kv.2], fun _ => True⟩ m
    | _ => .no
  | _ => .no
theorem si_itemsA {elts : List Expr} {k0 : Nat} {tpos apos cpos : Pos} (ha : PE X a (tE G E fa)) (hbase : attributeBase a "items" X.env (eval a X.env) = eval a X.env := by rfl) (hline : (apos.endLine == cpos.line) = true := by rfl) : PI X (.Tuple elts k0 tpos) (.Call (.Attribute a "items" apos) [] [] cpos) (tI G E (iItemsA fa)) := pi_imp (pi_itemsA ha hbase hline) fun σ H Rr ⟨W, env, M, s, p⟩ => by
  refine tE.bind s p fun d m W1 H1 u f1 s1 r1 p1 => ?_
  split at p1
  · rename_i i
    obtain ⟨a1, h1, rfl⟩ := r1
    split at p1
    · rename_i kvs hc
      obtain ⟨vs, ⟨o, q1⟩, q2⟩ := s1.mem.cell _ _ a1 hc h1
      exact ⟨a1, o, rfl, .inl ⟨vs, q1, p1.here s1.mem _ (src_items q1 q2) trivial⟩⟩
    · rename_i kvs hc
      obtain ⟨vs, ⟨o, q1⟩, q2⟩ := s1.mem.cell _ _ a1 hc h1
      exact ⟨a1, o, rfl, .inr ⟨vs, q1, p1.here s1.mem _ (src_itemsT q1 q2) trivial⟩⟩
    · exact p1.elim
  · exact p1.elim
end
end Fn
set_option Elab.async false
set_option linter.all false
set_option maxRecDepth 100000
set_option maxHeartbeats 1000000
namespace Fn
open PySem PySem.Spec PyProof.Rows L2 L2.DX
def atomP : PyData → Bool
  | .int _ => true
  | .str _ => true
  | _ => false
theorem reads_atom {h : Heap} {v : Value} {p : PyData} {as : List Addr} (r : Reads h v p as) (hp : atomP p = true) : as = [] := by
  cases r <;> first | rfl | cases hp
end Fn
set_option Elab.async false
set_option linter.all false
set_option maxRecDepth 100000
set_option maxHeartbeats 1000000
namespace Fn
open PySem PySem.Spec PyProof.Rows L2
section
variable {M : Mem} {i : Nat} {lk : Bool} {kvs : List (KK × D)} {tvs : List (List KK × D)} {l : List D} {k v : D} {ks : List KK} {neg : Bool}
theorem dFind_dk (h : M[i]? = some (.dk lk kvs)) : dFind M (.ref i) k = (keyK k).map (gA kvs) := by simp only [dFind, h]
theorem dFind_dt (h : M[i]? = some (.dt lk tvs)) : dFind M (.ref i) k = (keyT k).map (gA tvs) := by simp only [dFind, h]
theorem dFind_lst (h : M[i]? = some (.lst l)) : dFind M (.ref i) k = none := by simp only [dFind, h]
theorem oIxA_ref (h : M[i]? = some (.lst l)) : oIxA (.ref i) k M = oIx (.ref i) k M := by simp only [oIxA, dFind_lst h]
theorem oIxA_dk {j : Int} (h : M[i]? = some (.dk lk kvs)) (hv : gA kvs (.inl j) = some v) : oIxA (.ref i) (.int j) M = .ok v M := by simp only [oIxA, dFind_dk h, keyK, Option.map_some, hv]
theorem oIxA_dt (h : M[i]? = some (.dt lk tvs)) (hk : keyT k = some ks) (hv : gA tvs ks = some v) : oIxA (.ref i) k M = .ok v M := by simp only [oIxA, dFind_dt h, hk, Option.map_some, hv]
theorem oInA_dk {j : Int} (h : M[i]? = some (.dk lk kvs)) : oInA neg (.int j) (.ref i) M = .ok (.bl (neg != (gA kvs (.inl j)).isSome)) M := by simp only [oInA, dFind_dk h, keyK, Option.map_some]
theorem oInA_dt (h : M[i]? = some (.dt lk tvs)) (hk : keyT k = some ks) : oInA neg k (.ref i) M = .ok (.bl (neg != (gA tvs ks).isSome)) M := by simp only [oInA, dFind_dt h, hk, Option.map_some]
theorem sPut_dk {j : Int} (h : M[i]? = some (.dk false kvs)) (hl : kvs.length < 16777216) : sPut M (.ref i) (.int j) v = some (M.set i (.dk false (pA kvs (.inl j) v))) := by simp only [sPut, dPut, h, keyK, if_pos hl]
theorem sPut_dkS {x : List Nat} (h : M[i]? = some (.dk false kvs)) (hl : kvs.length < 16777216) : sPut M (.ref i) (.str x) v = some (M.set i (.dk false (pA kvs (.inr x) v))) := by simp only [sPut, dPut, h, keyK, if_pos hl]
theorem sPut_dt (h : M[i]? = some (.dt false tvs)) (hk : keyT k = some ks) (hl : tvs.length < 16777216) : sPut M (.ref i) k v = some (M.set i (.dt false (pA tvs ks v))) := by simp only [sPut, dPut, h, hk, if_pos hl]
theorem sPut_lst {j : Int} {n : Nat} (h : M[i]? = some (.lst l)) (hn : ixN l.length j = some n) : sPut M (.ref i) (.int j) v = some (M.set i (.lst (l.set n v))) := by simp only [sPut, dPut, lPut, h, hn]
theorem lGet_lst {j : Int} (h : M[i]? = some (.lst l)) (hv : L2.atI l j = some v) : lGet M (.ref i) (.int j) = some v := by simp only [lGet, dFind_lst h, h, hv]
theorem oLenA_ref (h : M[i]? = some (.lst l)) : oLenA [.ref i] M = oLen [.ref i] M := by simp only [oLenA, dLen, h]
theorem oGetM_dk2 {j : Int} {z : D} (h : M[i]? = some (.dk lk kvs)) : oGetM (.ref i) [.int j, z] M = .ok ((gA kvs (.inl j)).getD z) M := by
  simp only [oGetM, dFind_dk h, keyK, Option.map_some]
  cases gA kvs (.inl j) <;> rfl
theorem tyOk_dk (h : M[i]? = some (.dk false kvs)) : tyOk "dict" M (.ref i) = true := by simp only [tyOk, h]; decide
theorem mDNewK_eq {env : Fn.Env} : mDNewK env M = .ok (.ref M.length) (M ++ [.dk false []]) := rfl
theorem mDNewT_eq {env : Fn.Env} : mDNewT env M = .ok (.ref M.length) (M ++ [.dt false []]) := rfl
theorem gIxA_eq (fo fi : FE) (d : D) {env : Fn.Env} : gIxA fo fi d env M = (fo env M).bind fun o m => (fi env m).bind fun i m' => match sPut m' o i d with
  | some m2 => .ok env m2
  | none => .no := rfl
theorem mAugIx_eq (o : D → D → Mem → R D) (fo fi fe : FE) {env : Fn.Env} : mAugIx o fo fi fe env M = (fo env M).bind fun a m => (fi env m).bind fun i m1 => match lGet m1 a i with
  | some x => (fe env m1).bind fun y m2 => (o x y m2).bind fun z m3 => match sPut m3 a i z with
    | some m4 => .ok (.nx env) m4
    | none => .no
  | none => .no := rfl
/-- a dict is walked in an expression: what comes is told of the memory without the lock -/
theorem lock_dk {α : Type} {fd : FE} {f : Env → Mem → R α} {env : Fn.Env} {m0 m : Mem} {kvs' : List (KK × D)} {x : α} (hd : fd env M = .ok (.ref i) m0) (h : M[i]? = some (.dk false kvs)) (hf : f env (M.set i (.dk true kvs)) = .ok x m) (hm : m[i]? = some (.dk true kvs')) : lockIn fd f env M = .ok x (m.set i (.dk false kvs')) := by
  simp only [lockIn, hd, h, hf, unlk, hm]
end
end Fn
set_option Elab.async false
set_option linter.all false
set_option maxRecDepth 100000
set_option maxHeartbeats 1000000
namespace Fn
open PySem PySem.Spec PyProof.Rows L2 L2.DX
end Fn
set_option Elab.async false
set_option linter.all false
set_option maxRecDepth 100000
set_option maxHeartbeats 1000000
namespace Fn
open PySem PySem.Spec PyProof.Rows L2 L2.DX
end Fn
set_option Elab.async false
set_option linter.all false
set_option maxRecDepth 100000
set_option maxHeartbeats 2000000
namespace Fn
open PySem PySem.Spec PyProof.Rows L2
/-- what a def promises there -/
structure FnG (P : Program) (w : World) (K : PySem.W.Frag) (mg : Str → Option Value) (base : Heap) (CX : CXT) (k : Nat) (f : Addr) (fd : FuncData) (ps : List Str) (sp : Sp) : Prop where
  len : ∀ vs H Q E, sp vs H Q E → vs.length = ps.length
  run : ∀ (A : Around) (outer : List PySem.Env) (s : Shared) (H : Hp) (args : Args) (us : List Value) (vs : List V) (Q : VK) (E : XK), A.guards = some [] → Room k A → Env0 P w K mg base A outer s H → BindsTo s fd args (ps.zip us) → Vals vs us → sp vs H Q E →
    codeAny (model P w) A (.call (.ref f) args) (CR CX outer P w H s Q E) s
section
variable {P : Program} {w : World} {K : PySem.W.Frag} {mg : Str → Option Value} {base : Heap} {CX : CXT} {j k : Nat} {f : Addr} {fd : FuncData} {ps : List Str} {sp sp' : Sp}
theorem FnG.imp (F : FnG P w K mg base CX k f fd ps sp) (h : ∀ vs H Q E, sp' vs H Q E → sp vs H Q E) : FnG P w K mg base CX k f fd ps sp' :=
  ⟨fun vs H Q E q => F.len vs H Q E (h _ _ _ _ q), fun A outer s H args us vs Q E hg hr he hb hv hs => F.run A outer s H args us vs Q E hg hr he hb hv (h _ _ _ _ hs)⟩
/-- a def by its body -/
theorem fn_ofG {name qual : Str} {params : Arguments} {body : List Stmt} {scope : Scope} {dV kV doc pm cdv ct oc : Value} {an od : Option Addr} {osl : Array (Option Value)} {N : List Str}
    (lk : K.lookup f = some ⟨oc, od, .func (PySem.W.fnOf name qual params body scope dV kV doc pm an cdv ct), osl⟩) (hcd : PySem.W.codeIn K cdv qual = true) (S : FnScope N ps scope)
    (len : ∀ vs H Q E, sp vs H Q E → vs.length = ps.length)
    (hbody : ∀ (A : Around) (outer : List PySem.Env) (s : Shared) (H : Hp) (vs : List V) (Q : VK) (E : XK), A.guards = some [] → Room k (A.deeper (envOfC qual scope s.heap.objs.size f cdv)) → sp vs H Q E →
      ∃ t, PSs (cxOf CX P w K mg base N qual scope f cdv A outer s H E) body t ∧ t { nx := fun _ H' => Q .non H', rt := Q } (L2.start N vs) H) :
    FnG P w K mg base CX (k + 1) f (PySem.W.fnOf name qual params body scope dV kV doc pm an cdv ct) ps sp := by
  refine ⟨len, fun A outer s H args us vs Q E hgd hr e0 hb r hsp => ?_⟩
  have sees : ∀ {b : Addr} {o : Obj}, base.get? b = some o → s.heap.get? b = some o := fun {b o} e => (e0.bs b o e).1
  have KX : K.In s.heap := e0.mod.kin.keeps fun b o e => sees e
  have lim : s.heap.NoLimit := e0.mod.nolimit.keeps fun b o e => sees e
  have place : ∀ y ∈ ps.zip us, scope.names.lookup y.1 = some .local ∨ (scope.names.lookup y.1 = some .cell ∧ ((cellsFrom (s.heap.objs.size + 1) scope.names []).lookup y.1).isSome = true) := fun y hy => by
    obtain ⟨n, v⟩ := y
    exact (S.par n (List.of_mem_zip hy).1).imp id fun q => ⟨q, PySem.W.cellsFrom_some _ _ _ (.inl q)⟩
  refine codeAny_call_function hr.depth (KX _ _ lk) rfl S.co S.gen rfl (PySem.W.codeRec_of KX hcd) (hb _ _ _ _ (wpAny_newFunctionEnv_cells S.kind place fun env he s1 x => ?_))
  subst he
  refine ⟨lim.keeps x.toInCall.keep, codeAny_func ?_⟩
  obtain ⟨t, ht, hq⟩ := hbody A outer s H vs Q E hgd (hr.deeper _) hsp
  refine wpAny_mono (ht.run [] s1 (L2.start N vs) H _ (inv_start S hr.hd e0 (len _ _ _ _ hsp) r x) hq) (fun fl s' hs => ?_) fun _ _ hs => hs
  cases fl with
  | ret u => obtain ⟨v, σ', H', J, rv, q⟩ := hs; exact ⟨v, H', J.os, J.bare, J.base, J.hok, rv, q⟩
  | next => obtain ⟨σ', H', J, q⟩ := hs; exact ⟨.non, H', J.os, J.bare, J.base, J.hok, rfl, q⟩
  | brk => obtain ⟨_, _, _, q⟩ := hs; exact q.elim
  | cont => obtain ⟨_, _, _, q⟩ := hs; exact q.elim
theorem fn_defG {x qual : Str} {st : Stmt} {N : List Str} {g : FD} {B : FS} {cl : Nat → Addr} (F : Fun K x qual st f fd) (S : FnScope N ps (defScope st))
    (hbody : ∀ (cdv : Value) (A : Around) (outer : List PySem.Env) (s : Shared) (H : Hp) (E : XK), A.guards = some [] → Room k (A.deeper (envOfC qual (defScope st) s.heap.objs.size f cdv)) →
      PSs (cxOf CX0 P w K mg base N qual (defScope st) f cdv A outer s H E).nox (defBody st) (tS ⟨K, cl⟩ E B))
    (href : ∀ ds M, ds.length = ps.length → Ref M (g ds M) (B (envStart N.length ds) M)) : FnG P w K mg base CX0 (k + 1) f fd ps (spOf ⟨K, cl⟩ ps.length g) := by
  obtain ⟨oc, od, kV, doc, pm, an, cdv, ct, osl, rfl, lk, hcd⟩ := F.ex
  refine fn_ofG lk hcd S (fun vs H Q E ⟨W, M, ds, m, r, hl, _⟩ => by rw [r.len, hl]) fun A outer s H vs Q E hgd hr ⟨W, M, ds, m, r, hl, p⟩ => ?_
  exact ⟨_, (hbody cdv A outer s H E hgd hr).nox, W, envStart N.length ds, M, ⟨m, envStart_ok r⟩, href ds M hl _ W H Q E m p⟩
end
section
variable {X : Cx} {CX : CXT} {cl : Nat → Addr} {k n : Nat} {f : Addr} {fd : FuncData} {ps : List Str} {g : FD} {sp : Sp} {dvs : List V} {dd : List D} {ds : List Value} {E : XK} {x : Str} {p pos : Pos} {e : Expr} {es : List Expr} {ga : FA} {t : TA}
theorem pe_callG (F : FnG X.prog X.w X.K X.mg X.base CX k f fd ps sp) (hgd : X.A.guards = some []) (hr : Room k X.A) (hg : Gl X x) (hm : X.mg x = some (.ref f)) (hk : PySem.W.keepIn X.K (.ref f) = true) (hb : Binds X.K fd ps ds) (hd : Vals dvs ds) (hx : Passes CX X E)
    (ha : PA X (e :: es) t) (hdb : (x == ("__debug__" : Str)) = false) (he : starEach (e :: es) X.env = (false, eval e X.env) :: starEach es X.env) (hpl : (backTo pos (starEach es X.env)).any (·.1) = false) :
    PE X (.Call (.Name x p) (e :: es) [] pos) (tCall sp dvs E t) := by
  refine ⟨fun pins s σ H Q I h => ?_⟩
  refine wpAny_Call_Name_kw (ld_glob I hg hm ?_ hdb)
  refine PySem.W.callWith_K (h₀ := X.base) I.ok.mod.kin hk (thn (ha.run pos pins s σ H _ I h) fun us s1 ⟨vs, H1, I1, r, q⟩ => ⟨I1.kIn, ?_⟩) he hpl
  have r2 : Vals (vs ++ dvs) (us ++ ds) := r.append hd
  have hl : (us ++ ds).length = ps.length := r2.length.symm.trans (F.len _ _ _ _ q)
  refine wpAny_call (codeAny_mono (F.run X.A X.stack s1 H1 ⟨us, []⟩ (us ++ ds) (vs ++ dvs) Q E hgd hr I1.env0 (hb s1 us I1.kIn hl) r2 q) fun z s' hq => ?_)
  cases z with
  | error z => exact hx pins σ H1 s1 z s' I1 hq
  | ok fl =>
    cases fl with
    | ret u => exact I1.after hq
    | next => exact hq.elim
    | brk => exact hq.elim
    | cont => exact hq.elim
theorem sn_callG (F : FnG X.prog X.w X.K X.mg X.base CX k f fd ps (spOf ⟨X.K, cl⟩ n g)) (hgd : X.A.guards = some []) (hr : Room k X.A) (hg : Gl X x) (hm : X.mg x = some (.ref f)) (hk : PySem.W.keepIn X.K (.ref f) = true) (hb : Binds X.K fd ps ds) (hd : Vals dvs ds) (hc : Closed dd dvs) (hx : Passes CX X E)
    (ha : PA X (e :: es) (tA ⟨X.K, cl⟩ E ga)) (hdb : (x == ("__debug__" : Str)) = false := by decide) (he : starEach (e :: es) X.env = (false, eval e X.env) :: starEach es X.env := by rfl) (hpl : (backTo pos (starEach es X.env)).any (·.1) = false := by rfl) :
    PE X (.Call (.Name x p) (e :: es) [] pos) (tE ⟨X.K, cl⟩ E (mFun n g dd ga)) := pe_imp (pe_callG F hgd hr hg hm hk hb hd hx ha hdb he hpl) (fun_reads (E' := E) hc)
end
end Fn
set_option Elab.async false
set_option linter.all false
set_option maxRecDepth 100000
set_option maxHeartbeats 2000000
namespace Fn
open PySem PySem.Spec PyProof.Rows L2
/-- the law's call at the top: no guards there -/
theorem law_callG {P : Program} {w : World} {K : PySem.W.Frag} {mg mb : Str → Option Value} {CX : CXT} {k : Nat} {fa a : Addr} {fd : FuncData} {x : Str} {sp : Sp} {s₁ : Shared} {vs : List Value} {ns : List Int}
    (KX : K.In s₁.heap) (hns : s₁.heap.Ns mainGlobals mg) (hb : s₁.heap.Ns builtinsNs mb) (hbb : ∀ x : Str, x ≠ "__name__" → mb x = bootBuiltins x) (hlim : s₁.heap.NoLimit) (hg : s₁.gens = #[])
    (ha : s₁.heap.get? a = some { cls := .type "list", data := .seq vs.toArray }) (hi : IntsAre vs ns) (hl : ns.length ≤ sizeLine) (hr : Room k callerA)
    (F : ∀ base : Heap, K.In base → base.Ns mainGlobals mg → FnG P w K mg base CX k fa fd [x] sp) (hbind : ∀ (s : Shared) (u : Value), BindsTo s fd ⟨[u], []⟩ [(x, u)])
    (hsp : ∀ H : Hp, Only H → SqL K H a (ns.map V.int) → sp [.ref a] H (fun v _ => v = .bl true) fun _ _ _ => False)
    (hCX : ∀ H e s', CX [] H s₁ (fun _ _ _ => False) e s' → False) :
    codeAny (model P w) callerA (.call (.ref fa) ⟨[.ref a], []⟩) (fun r s' => r = .ok (.ret (.bool true)) ∧ OldK s₁.heap s'.heap ∧ s'.os = s₁.os ∧ AllBare s'.gens) s₁ := by
  -- what is tracked: the script alone, if it is none of the module's own
  obtain ⟨H, hO, hS, hok, hA, hK⟩ : ∃ H : Hp, Only H ∧ SqL K H a (ns.map V.int) ∧ HOk P w H s₁.heap ∧ (∀ b, H b ≠ none → b = a) ∧ (H a ≠ none → K.lookup a = none) := by
    cases hk : K.lookup a with
    | some o =>
      have e := KX a o hk
      rw [ha] at e
      cases e
      exact ⟨fun _ => none, fun _ => .inl rfl, .inr ⟨_, vs.toArray, _, hk, rfl, rfl, rfl, by rw [List.size_toArray, hi.length]; exact hl, by simpa using vals_ints hi⟩, fun b u z => (by cases z), fun b z => absurd rfl z, fun z => absurd rfl z⟩
    | none =>
      refine ⟨fun b => if b = a then some (.frz { cls := .type "list", data := .seq vs.toArray } (.lst (ns.map V.int))) else none, fun b => ?_, .inl (.inr ⟨_, if_pos rfl⟩), fun b u z => ?_, fun b z => ?_, fun _ => rfl⟩
      · by_cases h : b = a
        · exact .inr ⟨_, _, if_pos h⟩
        · exact .inl (if_neg h)
      · by_cases h : b = a
        · have z' := (if_pos h).symm.trans z
          cases z'
          subst h
          exact ⟨ha, by rw [List.length_map]; exact hl, vs, _, vals_ints hi, ha⟩
        · cases (if_neg h).symm.trans z
      · exact Classical.byContradiction fun h => z (if_neg h)
  have dictNone : ∀ {b : Addr} {o : Obj} {es : Array DictEntry} {ep : Nat}, s₁.heap.get? b = some o → o.data = .dict es ep → H b = none := fun {b o es ep} e d => Classical.byContradiction fun q => by
    rw [hA b q, ha] at e
    cases e
    cases d
  have ns' : ∀ {b : Addr} {m : Str → Option Value}, s₁.heap.Ns b m → (hidT s₁.heap H).Ns b m := fun {b m} ⟨o, es, ep, e, d, r⟩ => ⟨o, es, ep, hidT_get e (dictNone e d), d, r⟩
  have kin : K.In (hidT s₁.heap H) := fun b o e => hidT_get (KX b o e) (Classical.byContradiction fun q => by
    have h := hA b q
    subst h
    rw [hK q] at e
    cases e)
  obtain ⟨mc, m1, m2⟩ := hlim
  have e0 : Env0 P w K mg (hidT s₁.heap H) callerA [] s₁ H :=
    ⟨rfl, ⟨kin, ns' hns, ⟨mb, ns' hb, hbb⟩, mc, ns' m1, m2⟩, fun b o e => of_hidT e, Nat.le_of_eq (hidT_size _ _), trivial, fun b hb => absurd (show b ∈ ([] : List Addr) from hb) (by simp), hok, .of_eq hg⟩
  refine codeAny_mono ((F _ kin (ns' hns)).run callerA [] s₁ H ⟨[.ref a], []⟩ [.ref a] [.ref a] _ _ rfl hr e0 (hbind s₁ (.ref a)) (.cons rfl .nil) (hsp H hO hS)) fun r s' h => ?_
  cases r with
  | error e => exact (hCX H e s' h).elim
  | ok fl =>
    cases fl with
    | next => exact h.elim
    | brk => exact h.elim
    | cont => exact h.elim
    | ret u =>
      obtain ⟨v, H', os, bare, un, hok', r', q⟩ := h
      have q' : v = .bl true := q
      subst q'
      obtain rfl : u = Value.bool true := r'
      refine ⟨rfl, OldK.of_keep fun b o e => ?_, os, bare⟩
      rcases hO b with z | ⟨ob, xs, z⟩
      · exact un.keep b o e z (by intro y; exact absurd (show b ∈ ([] : List Addr) from y) (by simp)) (by simp)
      · have e1 := (hok b _ z).1
        rw [e] at e1
        cases e1
        exact (hok' b _ (un.frzs b _ _ z)).1
theorem walk_ofG {l : PySem.W.OpenLaw} {n k : Nat} {q : Program} {loose : List Str} {XP : (Str → Option Value) → Heap → Prop} {YP : World → Heap → Prop} {d : DefRec} {K : Params → PySem.W.Frag} {CX : World → CXT} {sp : World → Sp} {x : Str}
    (hn : l.most = some n) (hn2 : n ≤ sizeLine) (hdf : d.params.defaults = []) (hr : Room k callerA)
    (hY : ∀ (w : World) (h : Heap), YP w h → (K w.params).In h)
    (F : ∀ (w : World) (mg : Str → Option Value) (fa : Addr) (h : Heap), (K w.params).In h → h.Ns mainGlobals mg → mg d.name = some (.ref fa) →
      ∃ fd : FuncData, (∀ (s : Shared) (u : Value), BindsTo s fd ⟨[u], []⟩ [(x, u)]) ∧
        ∀ base : Heap, (K w.params).In base → base.Ns mainGlobals mg → FnG l.prog w (K w.params) mg base (CX w) k fa fd [x] (sp w))
    (hsp : ∀ (w : World) (H : Hp) (a : Addr) (ns : List Int), ns.length ≤ n → Only H → SqL (K w.params) H a (ns.map V.int) → sp w [.ref a] H (fun v _ => v = .bl true) fun _ _ _ => False)
    (hCX : ∀ (w : World) (H : Hp) (s : Shared) (e : Value) (s' : Shared), CX w [] H s (fun _ _ _ => False) e s' → False) :
    PySem.W.WalkO q loose XP YP l.row.toRowW d [] (fun f vs => PySem.call f vs) := by
  refine Att.attach_call hn hdf fun w s₀ s₁ mg mb fa o pm cd doc a vs ns G Y ho hd hcd hmg hobj hints hlen hg => ?_
  have KX := hY w _ Y
  obtain ⟨fd, hb, hF⟩ := F w mg fa _ KX G.T.g hmg
  exact law_callG KX G.T.g G.T.b G.T.builtins G.T.nolimit hg hobj hints (Nat.le_trans hlen hn2) hr hF hb (fun H hO hS => hsp w H a ns hlen hO hS) fun H e s' => hCX w H s₁ e s'
end Fn
set_option Elab.async false
set_option linter.all false
set_option maxRecDepth 100000
set_option maxHeartbeats 1000000
namespace Fn
open PySem PySem.Spec PyProof.Rows L2
def keyP : Key → PyData
  | .inl i => .int i
  | .inr x => .str x
mutual
inductive Dq (K : PySem.W.Frag) (H : Hp) : V → PyData → Prop
  | non : Dq K H .non .none
  | bl (b : Bool) : Dq K H (.bl b) (.bool b)
  | int (i : Int) : Dq K H (.int i) (.int i)
  | str (x : Str) : Dq K H (.str x) (.str x)
  | lst {a : Addr} {xs : List V} {ds : List PyData} : SqL K H a xs → DqAll K H xs ds → Dq K H (.ref a) (.list ds)
  | tup {a : Addr} {xs : List V} {ds : List PyData} : SqT K H a xs → DqAll K H xs ds → Dq K H (.ref a) (.tuple ds)
  | dct {a : Addr} {kvs : List (Key × V)} {ds : List (PyData × PyData)} : H a = some (.dK kvs) → DqKv K H kvs ds → Dq K H (.ref a) (.dict ds)
inductive DqAll (K : PySem.W.Frag) (H : Hp) : List V → List PyData → Prop
  | nil : DqAll K H [] []
  | cons {v : V} {vs : List V} {d : PyData} {ds : List PyData} : Dq K H v d → DqAll K H vs ds → DqAll K H (v :: vs) (d :: ds)
inductive DqKv (K : PySem.W.Frag) (H : Hp) : List (Key × V) → List (PyData × PyData) → Prop
  | nil : DqKv K H [] []
  | cons {k : Key} {v : V} {vs : List (Key × V)} {d : PyData} {ds : List (PyData × PyData)} : Dq K H v d → DqKv K H vs ds → DqKv K H ((k, v) :: vs) ((keyP k, d) :: ds)
end
mutual
/-- no list in it -/
def noL : PyData → Bool
  | .list _ => false
  | .tuple xs => noLAll xs
  | .dict kvs => noLKv kvs
  | _ => true
def noLAll : List PyData → Bool
  | [] => true
  | x :: xs => noL x && noLAll xs
def noLKv : List (PyData × PyData) → Bool
  | [] => true
  | (_, v) :: r => noL v && noLKv r
end
section
variable {X : Cx} {pins : List (Addr × Obj)} {σ : L2.St} {H : Hp} {s : Shared}
theorem pairs_reads {P : Program} {w : World} {h : Heap} : ∀ {es : List DictEntry} {ws : List (Key × Value)}, Pairs (mixKind P w) es ws → ReadsAll h (es.map (·.key)) (ws.map fun kv => keyP kv.1) [] ∧ es.map (·.val) = ws.map (·.2)
  | [], _, .nil => ⟨.nil, rfl⟩
  | e :: es, (k, v) :: ws, .cons h1 h2 h3 => by
    obtain ⟨i1, i2⟩ := pairs_reads h3
    have h1 : keyIs k e.key = true := h1
    refine ⟨?_, by rw [List.map_cons, List.map_cons, i2, h2]⟩
    rcases keyIs_shape h1 with ⟨i, t, e1, e2⟩ | ⟨x, t, e1, e2⟩
    · subst e1
      rw [List.map_cons, e2]
      exact ReadsAll.cons (as := []) (bs := []) (.int i t) i1
    · subst e1
      rw [List.map_cons, e2]
      exact ReadsAll.cons (as := []) (bs := []) (.str x t) i1
mutual
theorem Dq.reads (I : Inv X pins σ H s) : ∀ (d : PyData) (v : V) (u : Value), Dq X.K H v d → RelV v u → ∃ as, Reads s.heap u d as ∧ (noL d = true → sysModules ∉ as)
  | .none, _, _, h, r => by cases h; cases r; exact ⟨_, .none, fun _ => by simp⟩
  | .bool b, _, _, h, r => by cases h; cases r; exact ⟨_, .bool b, fun _ => by simp⟩
  | .int i, _, _, h, r => by cases h; obtain ⟨t, rfl⟩ := r; exact ⟨_, .int i t, fun _ => by simp⟩
  | .str x, _, _, h, r => by cases h; obtain ⟨t, rfl⟩ := r; exact ⟨_, .str x t, fun _ => by simp⟩
  | .list ds, _, _, h, r => by
    cases h with
    | lst hs ha =>
      cases r
      obtain ⟨its, rv, ⟨o, n, ho, hc, _, hd⟩, _⟩ := I.list hs
      obtain ⟨as, hr, _⟩ := Dq.readsAll I ds _ its ha rv
      exact ⟨_, .list ho hc hd hr, fun z => by simp [noL] at z⟩
  | .tuple ds, _, _, h, r => by
    cases h with
    | tup hs ha =>
      cases r
      obtain ⟨its, rv, ⟨o, ho, hc, n, hd⟩, _⟩ := I.tuple hs
      obtain ⟨as, hr, hm⟩ := Dq.readsAll I ds _ its ha rv
      exact ⟨_, .tuple ho hc hd hr, fun z => hm (by simpa only [noL] using z)⟩
  | .dict ds, _, _, h, r => by
    cases h with
    | dct hs ha =>
      cases r
      obtain ⟨_, hsys, ws, kv, o, es, ep, ho, hx, hdt, _, hp, _⟩ := I.hok _ _ hs
      obtain ⟨p1, p2⟩ := pairs_reads (h := s.heap) hp
      obtain ⟨as, hr, hm, hk⟩ := Dq.readsKv I ds _ ws ha kv
      rw [hk] at p1
      rw [← p2] at hr
      refine ⟨_, .dict ho hx.1 hdt p1 hr, fun z => ?_⟩
      have hm := hm (by simpa only [noL] using z)
      simp only [List.append_nil, List.cons_append, List.nil_append, List.mem_cons, not_or]
      exact ⟨fun e => by rw [← e] at hsys; simp at hsys, hm⟩
theorem Dq.readsAll (I : Inv X pins σ H s) : ∀ (ds : List PyData) (vs : List V) (us : List Value), DqAll X.K H vs ds → Vals vs us → ∃ as, ReadsAll s.heap us ds as ∧ (noLAll ds = true → sysModules ∉ as)
  | [], _, _, h, r => by cases h; cases r; exact ⟨_, .nil, fun _ => by simp⟩
  | d :: ds, _, _, h, r => by
    cases h with
    | cons h1 h2 =>
      cases r with
      | cons r1 r2 =>
        obtain ⟨as, q1, m1⟩ := Dq.reads I d _ _ h1 r1
        obtain ⟨bs, q2, m2⟩ := Dq.readsAll I ds _ _ h2 r2
        refine ⟨_, .cons q1 q2, fun z => ?_⟩
        simp only [noLAll, Bool.and_eq_true] at z
        rw [List.mem_append, not_or]
        exact ⟨m1 z.1, m2 z.2⟩
theorem Dq.readsKv (I : Inv X pins σ H s) : ∀ (ds : List (PyData × PyData)) (vs : List (Key × V)) (us : List (Key × Value)), DqKv X.K H vs ds → KV vs us → ∃ as, ReadsAll s.heap (us.map (·.2)) (ds.map (·.2)) as ∧ (noLKv ds = true → sysModules ∉ as) ∧ (us.map fun kv => keyP kv.1) = ds.map (·.1)
  | [], _, _, h, r => by cases h; cases r; exact ⟨_, .nil, fun _ => by simp, rfl⟩
  | (_, d) :: ds, _, _, h, r => by
    cases h with
    | cons h1 h2 =>
      cases r with
      | cons r1 r2 =>
        obtain ⟨as, q1, m1⟩ := Dq.reads I d _ _ h1 r1.2
        obtain ⟨bs, q2, m2, k2⟩ := Dq.readsKv I ds _ _ h2 r2
        refine ⟨_, .cons q1 q2, fun z => ?_, by rw [List.map_cons, List.map_cons, k2, ← r1.1]⟩
        simp only [noLKv, Bool.and_eq_true] at z
        rw [List.mem_append, not_or]
        exact ⟨m1 z.1, m2 z.2⟩
end
end
/-- what may be shown -/
def showOk (p : PyData) : Prop := p.showable = true ∧ p.leavesShort 13 = true ∧ p.weight ≤ 2 ^ 20 ∧ p.depth ≤ 60 ∧ (p.hasDict = true → noL p = true)
instance (p : PyData) : Decidable (showOk p) := by unfold showOk; infer_instance
def rRepr (K : PySem.W.Frag) : List V → Hp → VK → Prop := fun xs H Q => ∃ x d, xs = [x] ∧ Dq K H x d ∧ showOk d ∧ Q (.str d.shown) H
theorem cr_repr {X : Cx} (hgd : X.A.guards = some []) (hu : X.A.units + 64 < cLine) : CallR X (.builtin "repr") (rRepr X.K) := by
  intro pins s σ H xs us Q I r h
  obtain ⟨x, d, rfl, hd, ⟨hs, hl, hw, hdp, hn⟩, q⟩ := h
  obtain ⟨u, rfl, ru⟩ := vals1 r
  have hz := PyData.shown_fits (B := 13) (by omega) (by omega) hl hw
  cases hd with
  | non =>
    cases ru
    exact PySem.P.repr_of_none ⟨.str _, H, I.tok _, ⟨_, rfl⟩, q⟩
  | bl b =>
    cases ru
    exact PySem.P.repr_of_bool ⟨.str _, H, I.tok _, ⟨_, rfl⟩, q⟩
  | int i =>
    obtain ⟨t, rfl⟩ := ru
    exact PySem.P.repr_of_int (by simpa [PyData.showable] using hs) ⟨.str _, H, I.tok _, ⟨_, rfl⟩, q⟩
  | str y =>
    obtain ⟨t, rfl⟩ := ru
    exact PySem.P.repr_of_str ⟨.str _, H, I.tok _, ⟨_, rfl⟩, q⟩ hz
  | lst h1 h2 =>
    cases ru
    obtain ⟨as, hr, hm⟩ := Dq.reads I _ _ _ (.lst h1 h2) rfl
    exact repr_of_reads' hr hs (fun z => hm (hn z)) hgd (by omega) (fun _ _ e => e) (fun h' t tk k => ⟨.str _, H, I.kept (t' := tk) k, ⟨t, rfl⟩, q⟩) hz
  | tup h1 h2 =>
    cases ru
    obtain ⟨as, hr, hm⟩ := Dq.reads I _ _ _ (.tup h1 h2) rfl
    exact repr_of_reads' hr hs (fun z => hm (hn z)) hgd (by omega) (fun _ _ e => e) (fun h' t tk k => ⟨.str _, H, I.kept (t' := tk) k, ⟨t, rfl⟩, q⟩) hz
  | dct h1 h2 =>
    cases ru
    obtain ⟨as, hr, hm⟩ := Dq.reads I _ _ _ (.dct h1 h2) rfl
    exact repr_of_reads' hr hs (fun z => hm (hn z)) hgd (by omega) (fun _ _ e => e) (fun h' t tk k => ⟨.str _, H, I.kept (t' := tk) k, ⟨t, rfl⟩, q⟩) hz
def keyPK : KK → PyData
  | .inl i => .int i
  | .inr x => .str (l2s x)
def kvGo (k : Nat → Option PyData) : List (KK × D) → Option (List (PyData × PyData))
  | [] => some []
  | (c, d) :: r => match pyGo k d, kvGo k r with
    | some a, some b => some ((keyPK c, a) :: b)
    | _, _ => none
/-- a cell that holds a list or a dict, to the depth n -/
def kR (M : Mem) : Nat → Nat → Option PyData
  | 0, _ => none
  | n + 1, i => match M[i]? with
    | some (.lst l) => (pyGoL (kR M n) l).map .list
    | some (.dk false kvs) => (kvGo (kR M n) kvs).map .dict
    | _ => none
def pyR (M : Mem) (d : D) : Option PyData := pyGo (kR M 4) d
section
variable {G : Gx} {W : Wd} {H : Hp} {M : Mem} {E : XK}
mutual
theorem pyGo_q {k : Nat → Option PyData} (hk : ∀ i a p, W.as[i]? = some a → k i = some p → Dq G.K H (.ref a) p) : ∀ {d : D} {u : V} {p : PyData}, Rp G W H d u → pyGo k d = some p → Dq G.K H u p
  | .non, u, p, r, e => by cases r; cases e; exact .non
  | .bl b, u, p, r, e => by cases r; cases e; exact .bl b
  | .int i, u, p, r, e => by cases r; cases e; exact .int i
  | .str x, u, p, r, e => by cases r; cases e; exact .str _
  | .tup l, u, p, r, e => by
    obtain ⟨a, us, e1, s1, r1⟩ := r
    subst e1
    simp only [pyGo] at e
    cases q : pyGoL k l with
    | none => rw [q] at e; cases e
    | some ps => rw [q] at e; cases e; exact .tup s1.sq (pyGoL_q hk r1 q)
  | .ct l, u, p, r, e => by
    obtain ⟨a, us, e1, s1, r1⟩ := r
    subst e1
    simp only [pyGo] at e
    cases q : pyGoL k l with
    | none => rw [q] at e; cases e
    | some ps => rw [q] at e; cases e; exact .tup s1.sq (pyGoL_q hk r1 q)
  | .lst l, u, p, r, e => by
    obtain ⟨a, us, e1, s1, r1⟩ := r
    subst e1
    simp only [pyGo] at e
    cases q : pyGoL k l with
    | none => rw [q] at e; cases e
    | some ps => rw [q] at e; cases e; exact .lst (.inl (.inl s1.1)) (pyGoL_q hk r1 q)
  | .fz l, u, p, r, e => by
    obtain ⟨a, us, e1, s1, r1⟩ := r
    subst e1
    simp only [pyGo] at e
    cases q : pyGoL k l with
    | none => rw [q] at e; cases e
    | some ps =>
      rw [q] at e; cases e
      exact .lst (s1.elim (fun z => .inl (.inr z)) .inr) (pyGoL_q hk r1 q)
  | .ref i, u, p, r, e => by
    obtain ⟨a, h1, rfl⟩ := r
    exact hk i a p h1 e
theorem pyGoL_q {k : Nat → Option PyData} (hk : ∀ i a p, W.as[i]? = some a → k i = some p → Dq G.K H (.ref a) p) : ∀ {l : List D} {us : List V} {ps : List PyData}, RpL G W H l us → pyGoL k l = some ps → DqAll G.K H us ps
  | [], us, ps, r, e => by have : us = [] := r; subst this; cases e; exact .nil
  | d :: l, us, ps, r, e => by
    obtain ⟨u, us', e1, r1, r2⟩ := r
    subst e1
    simp only [pyGoL] at e
    split at e
    · rename_i a b h1 h2
      cases e
      exact .cons (pyGo_q hk r1 h1) (pyGoL_q hk r2 h2)
    · cases e
end
theorem kvGo_q {k : Nat → Option PyData} (hk : ∀ i a p, W.as[i]? = some a → k i = some p → Dq G.K H (.ref a) p) : ∀ {kvs : List (KK × D)} {vs : List (Key × V)} {ps : List (PyData × PyData)}, RpK G W H kk kvs vs → kvGo k kvs = some ps → DqKv G.K H vs ps
  | [], _, ps, .nil, e => by cases e; exact .nil
  | (c, d) :: l, (c', v) :: vs, ps, .cons h t, e => by
    simp only [kvGo] at e
    split at e
    · rename_i a b h1 h2
      cases e
      have hc : kk c = c' := h.1
      have : keyPK c = keyP c' := by rw [← hc]; cases c <;> rfl
      rw [this]
      exact .cons (pyGo_q hk h.2 h1) (kvGo_q hk t h2)
    · cases e
theorem kR_q (m : MemOk G W H M) : ∀ (n i : Nat) (a : Addr) (p : PyData), W.as[i]? = some a → kR M n i = some p → Dq G.K H (.ref a) p
  | 0, i, a, p, e1, e => by cases e
  | n + 1, i, a, p, e1, e => by
    simp only [kR] at e
    split at e
    · rename_i l hc
      obtain ⟨us, h1, h2⟩ := m.cell i _ a hc e1
      cases q : pyGoL (kR M n) l with
      | none => rw [q] at e; cases e
      | some ps => rw [q] at e; cases e; exact .lst (.inl (.inl h1)) (pyGoL_q (kR_q m n) h2 q)
    · rename_i kvs hc
      obtain ⟨vs, h1, h2⟩ := m.cell i _ a hc e1
      have h1 : H a = some (.dK vs) := h1
      cases q : kvGo (kR M n) kvs with
      | none => rw [q] at e; cases e
      | some ps => rw [q] at e; cases e; exact .dct h1 (kvGo_q (kR_q m n) h2 q)
    · cases e
def oRepr : List D → Mem → R D
  | [d], M => match pyR M d with
    | some p => if showOk p then .ok (.str p.shown.cps.toList) M else .no
    | none => .no
  | _, _ => .no
theorem fn_repr : Fn1 G E (rRepr G.K) oRepr := fun W H M ds us Q m r p => by
  unfold oRepr at p
  split at p
  · rename_i d
    obtain ⟨u, e1, r1⟩ := rp_one r
    subst e1
    split at p
    · rename_i q e
      split at p
      · rename_i hs
        refine ⟨u, q, rfl, pyGo_q (kR_q m 4) r1 e, hs, p.here m _ ?_⟩
        show V.str q.shown = V.str (l2s q.shown.cps.toList)
        rfl
      · exact p.elim
    · exact p.elim
  · exact p.elim
end
end Fn
set_option Elab.async false
set_option linter.all false
set_option maxRecDepth 100000
set_option maxHeartbeats 1000000
namespace Fn
open PySem PySem.Spec PyProof.Rows L2 L2.DX
end Fn
set_option Elab.async false
set_option linter.all false
set_option maxRecDepth 100000
set_option maxHeartbeats 1000000
namespace Fn
open PySem PySem.Spec PyProof.Rows L2
end Fn
set_option Elab.async false
set_option linter.all false
set_option maxRecDepth 100000
set_option maxHeartbeats 2000000
namespace Fn
open PySem PySem.Spec PyProof.Rows L2 L2.DX
section
open Sem (wp)
theorem meets_enum1 {v : Value} {o : Obj} {H : Heap → Prop} (B : Begins v o H) :
    Meets (Builtin.«enumerate.__new__» ⟨[.type "enumerate", v], []⟩) (fun _ R s => H s.heap ∧
      R (.ok (.ret (.ref (s.heap.push o).objs.size))) { s with heap := (s.heap.push o).push { cls := .type "enumerate", data := .fields #[.none, .bool false, .ref s.heap.objs.size, rawInt 0, .none, .none] } }) :=
  .of_wp fun prog w A R s h => by
    obtain ⟨hp, g, d, tk, os⟩ := s
    obtain ⟨h1, h⟩ := h
    have hsub := sub_enumerate
    have q1 : ∀ {A' : Around} {E : Value → Shared → Prop} {Q : Value → Shared → Prop}, Q (.ref hp.objs.size) ⟨hp.push o, g, d, tk, os⟩ → wpAny (model prog w) A' (pyIter v) Q E ⟨hp, g, d, tk, os⟩ :=
      fun q => B.iter prog w _ _ ⟨hp, g, d, tk, os⟩ _ h1 q
    wp_walk using q1
    refine wpAny_stack_any fun st => wpAny_pure ?_
    split
    · rename_i c _ _ _ _ _
      cases (c == Value.type "enumerate")
      · wp_walk using q1
        exact ⟨_, rfl, h⟩
      · wp_walk using q1
        exact ⟨_, rfl, h⟩
    · wp_walk using q1
      exact ⟨_, rfl, h⟩
end
section
variable {prog : Program} {w : World} {A : Around} {E : Value → Shared → Prop} {s : Shared}
theorem enum_begin1 {v : Value} {o : Obj} {H : Heap → Prop} {Q : Value → Shared → Prop} (B : Begins v o H) (h1 : H s.heap)
    (h : ∀ h', IsEnum h' (s.heap.objs.size + 1) s.heap.objs.size 0 .none → h'.get? s.heap.objs.size = some o → (∀ b o, s.heap.get? b = some o → h'.get? b = some o) → Q (.ref (s.heap.objs.size + 1)) { s with heap := h' }) :
    wpAny (model prog w) A (call (.type "enumerate") [v]) Q E s := by
  refine callType_new F.called_enumerate (by decide) (F.typeCall_enumerate_1 _) (F.newCall_enumerate_1 _) (fun obj => F.args_object_init_2 obj _) F.entry_enumerate_new (meets_enum1 B) ⟨h1, ?_⟩
  have hz : (s.heap.push o).objs.size = s.heap.objs.size + 1 := Heap.size_push ..
  show _ ∧ _
  rw [hz]
  have he := Heap.get?_push_size (s.heap.push o) (o := { cls := .type "enumerate", data := .fields #[.none, .bool false, .ref s.heap.objs.size, rawInt 0, .none, .none] }) rfl
  rw [hz] at he
  exact ⟨⟨_, he, rfl⟩, h _ he (Heap.get?_push_of_some _ (Heap.get?_push_size _ B.free)) fun b o x => Heap.get?_push_of_some _ (Heap.get?_push_of_some _ x)⟩
end
/-- the tuple at a, each item in a new pair -/
def IteT (K : PySem.W.Frag) (a : Addr) : It :=
  ⟨fun i H => ∃ (xs : List V) (x : V), SqT K H a xs ∧ xs[i]? = some x, fun i H v H' => ∃ T x, v = .ref T ∧ H T = none ∧ H' = upd H T (.tup [.int (i : Nat), x]) ∧ ∀ xs, SqT K H a xs → xs[i]? = some x, fun i H => ∃ xs : List V, SqT K H a xs ∧ xs.length ≤ i⟩
theorem turn_enumT {P : Program} {w : World} {K : PySem.W.Frag} {elts : List Expr} {kk : Nat} {tpos : Pos} (a e it : Addr) (hai : a ≠ it) (hae : a ≠ e) :
    Turn P w K (.Tuple elts kk tpos) (IteT K a) [e, it] e (fun i h => (∃ old, IsEnum h e it ((i : Nat) : Int) old) ∧ h.IsTupleIter it a i ∧ e ≠ it) where
  mem := by simp
  obj := fun i h st b hb => by
    obtain ⟨⟨old, he⟩, ⟨o, ho, hc, hd⟩, _⟩ := st
    rcases (show b = e ∨ b = it by simpa using hb) with z | z
    · rw [z]; exact ⟨_, he, fun v q => nomatch q⟩
    · rw [z]; exact ⟨o, ho, fun v q => by rw [hd] at q; cases q⟩
  keep := fun i h h' st k => let ⟨⟨old, he⟩, hi, hne⟩ := st; ⟨⟨old, k e (by simp) _ he⟩, hi.at fun o q => k it (by simp) o q, hne⟩
  item := by
    intro X hP hw hK hc i pins s σ H E I hf st hg
    subst hP hw hK
    obtain ⟨⟨old, he⟩, hit, hne⟩ := st
    obtain ⟨xs, x, hq, hx⟩ := hg
    obtain ⟨its, rv, p, hz⟩ := I.tuple hq
    obtain ⟨u, hu, ru⟩ := rv.get hx
    have hel : e < s.heap.objs.size := Heap.lt_size he
    have hil : it < s.heap.objs.size := by obtain ⟨_, q, _⟩ := hit; exact Heap.lt_size q
    have hi : i < its.toArray.size := by
      rw [List.size_toArray]
      exact (List.getElem?_eq_some_iff.mp hu).1
    have D := Draws.tuple (prog := X.prog) (w := X.w) (A := X.A.in1) (I.ok.hd hc) it a hai its.toArray
    refine wpAny_pyNext_enum_itemD D he ⟨hit, p⟩ hi hne (by simp; exact ⟨hne, Ne.symm hae⟩) fun x' h' tk hP ho hst' hT hsz hk => ?_
    have hx' : x' = u := by
      have hP : its.toArray[i]? = some x' := hP
      rw [List.getElem?_toArray, hu] at hP
      cases hP; rfl
    subst hx'
    refine ⟨_, rfl, wpAny_letOwnedTupleGo_enum (s := { s with heap := h', toks := tk + 1 }) ho fun h'' he' sb => ?_⟩
    have hT2 : h''.get? s.heap.objs.size = some { cls := .type "tuple", data := .seq #[.int i tk, x'] } := (sb.2 _ (Nat.ne_of_gt hel)).trans hT
    have new : ObjOk X.prog X.w (upd H s.heap.objs.size (.tup [.int (i : Nat), x])) h'' s.heap.objs.size (.tup [.int (i : Nat), x]) :=
      ⟨by show 2 ≤ sizeLine; decide, [.int i tk, x'], .cons ⟨_, rfl⟩ (.cons ru .nil), ⟨_, hT2, rfl, _, rfl⟩⟩
    have I1 : Inv X pins σ (upd H s.heap.objs.size (.tup [.int (i : Nat), x])) { s with heap := h'', toks := tk + 1 } :=
      I.turnedNew (ch := [e, it]) (fun b ob hb q => (sb.2 b (fun z => hb (by simp [z]))).trans (hk b ob (fun z => hb (by simp [z])) (fun z => hb (by simp [z])) q)) hf (Nat.le_refl _) new
    refine ⟨.ref s.heap.objs.size, _, I1, rfl, ⟨_, x, rfl, I.hok.fresh (Nat.le_refl _), rfl, fun ys hy => by rw [I.tuple_inj hy hq]; exact hx⟩, ⟨⟨x', ?_⟩, hst'.1.at fun o q => (sb.2 it (Ne.symm hne)).trans q, hne⟩, fun b hb => ?_⟩
    · rw [show ((i + 1 : Nat) : Int) = (i : Int) + 1 by omega]; exact he'
    · have hb' : b < s.heap.objs.size := by
        rcases (show b = e ∨ b = it by simpa using hb) with z | z
        · rw [z]; exact hel
        · rw [z]; exact hil
      rw [upd_ne (Nat.ne_of_lt hb')]
      exact (hf b hb).1
  done := by
    intro X hP hw hK hc i pins s σ H E I hf st hg
    subst hP hw hK
    obtain ⟨⟨old, he⟩, hit, hne⟩ := st
    obtain ⟨xs, hq, hx⟩ := hg
    obtain ⟨its, rv, p, hz⟩ := I.tuple hq
    obtain ⟨f0, f1, f2, f3, f4, f5⟩ := hf it (by simp)
    have hl := rv.length
    have hd : (X.A.in1).handled = none := I.ok.hd hc
    unfold pyNext
    have hTT : s.TypeIs (.ref e) "enumerate" := ⟨_, he, rfl⟩
    refine wpAny_bind (wpAny_attempt (wpAny_callSpecial?_slot (name := Str.ofString "__next__") hTT F.slot_enumerate_next
      (wpAny_call_entry F.slot_enumerate_next hTT F.entry_enumerate_next ?_ (F.args_enumerate_next_1 _))))
    show wpAny _ _ (field (.ref e) 2 >>= _) _ _ _
    refine wpAny_bind (wpAny_field he rfl (x := .ref it) rfl ?_)
    refine wpAny_bind (RZ.nextOf_tuple_end hd hit (show s.heap.IsTuple a its.toArray from p) (by simp; omega) fun h' x he' hx' => ?_)
    obtain ⟨o, ho, hcl⟩ := hx'
    refine wpAny_bind (wpAny_isInstance (T := "StopIteration") (b := true) ⟨o, ho, hcl⟩ isSubtype_stop ?_)
    exact wpAny_pure ⟨rfl, I.turned (t' := s.toks) (fun b o hb q => he' b o hb q) f0 f1 f3 f4 f5⟩
  self := fun A i s Q E st h => let ⟨⟨_, he⟩, _⟩ := st; wpAny_pyIter_enum he h
def iEnumT (K : PySem.W.Frag) (ta : TA) : TI := fun σ H R => ta σ H fun vs H1 => ∃ a xs, vs = [.ref a] ∧ ((SqL K H1 a xs ∧ R (Ite K a) H1) ∨ (SqT K H1 a xs ∧ R (IteT K a) H1))
theorem pi_enumA {X : Cx} {e : Expr} {ta : TA} {p pos tpos : Pos} {elts : List Expr} {kk : Nat} (hg : Gl X "enumerate") (hm : X.mg "enumerate" = none) (ha : PA X [e] ta) (hs : starEach [e] X.env = [(false, eval e X.env)] := by rfl) :
    PI X (.Tuple elts kk tpos) (.Call (.Name "enumerate" p) [e] [] pos) (iEnumT X.K ta) := by
  refine ⟨fun pins s σ H R I h => ?_⟩
  refine Call_ (ld_blt I hg hm boot_enumerate (PyProof.Rows.callWith_type1 (thn (ha.run pos pins s σ H _ I h) fun us s1 ⟨vs, H1, I1, r1, q1⟩ => ?_) hs rfl))
  obtain ⟨a, xs, ex, q⟩ := q1
  subst ex
  cases r1 with
  | cons r rr =>
    cases rr
    cases r
    have hge : ∀ b, b ∈ [s1.heap.objs.size + 1, s1.heap.objs.size] → s1.heap.objs.size ≤ b := fun b hb => by
      rcases (show b = s1.heap.objs.size + 1 ∨ b = s1.heap.objs.size by simpa using hb) with z | z
      · rw [z]; exact Nat.le_add_right _ _
      · rw [z]; exact Nat.le_refl _
    rcases q with ⟨hq, q⟩ | ⟨hq, q⟩
    · obtain ⟨its, rv, p', hz⟩ := I1.list hq
      refine enum_begin1 (begins_list a its.toArray) p'.isList fun h' he hit hk => wpAny_pyIter_enum he ?_
      have I2 : Inv X pins σ H1 { s1 with heap := h' } := I1.kept (t' := s1.toks) hk
      exact ⟨s1.heap.objs.size + 1, [s1.heap.objs.size + 1, s1.heap.objs.size], _, _, H1, rfl, I2, turn_enum a (s1.heap.objs.size + 1) s1.heap.objs.size, ⟨⟨.none, he⟩, ⟨_, hit, rfl, rfl⟩, Nat.succ_ne_self _⟩, fun b hb => I1.fpOk (hge b hb) (I1.hok.fresh (hge b hb)), q⟩
    · obtain ⟨its, rv, p', hz⟩ := I1.tuple hq
      have hal : a < s1.heap.objs.size := by obtain ⟨_, e0, _⟩ := p'; exact Heap.lt_size e0
      refine enum_begin1 (begins_tuple a its.toArray) p' fun h' he hit hk => wpAny_pyIter_enum he ?_
      have I2 : Inv X pins σ H1 { s1 with heap := h' } := I1.kept (t' := s1.toks) hk
      exact ⟨s1.heap.objs.size + 1, [s1.heap.objs.size + 1, s1.heap.objs.size], _, _, H1, rfl, I2, turn_enumT a (s1.heap.objs.size + 1) s1.heap.objs.size (Nat.ne_of_lt hal) (Nat.ne_of_lt (Nat.lt_succ_of_lt hal)), ⟨⟨.none, he⟩, ⟨_, hit, rfl, rfl⟩, Nat.succ_ne_self _⟩, fun b hb => I1.fpOk (hge b hb) (I1.hok.fresh (hge b hb)), q⟩
section
variable {X : Cx} {G : Gx} {cl : Nat → Addr} {E : XK} {W : Wd} {H : Hp} {M : Mem} {a b c : Expr} {fa fb fc : FE} {pos : Pos}
theorem src_enumT {W0 : Wd} {H0 : Hp} {l : List D} {a : Addr} (h : ∀ W H M, Kp W0 H0 W H → MemOk G W H M → ∃ us, SqT G.K H a us ∧ RpL G W H l us) : SrcOk G W0 H0 ⟨numb l, fun _ => True⟩ (IteT G.K a) where
  item := fun W H M f _ m st i d e => by
    obtain ⟨us, h1, h2⟩ := h W H M f m
    obtain ⟨y, e1, rfl⟩ := numb_get e
    obtain ⟨u, e2, r2⟩ := h2.get e1
    refine ⟨⟨us, u, h1, e2⟩, fun x H' z => ?_⟩
    obtain ⟨T, x', rfl, hT, rfl, hx⟩ := z
    have := hx us h1
    rw [e2] at this; cases this
    exact ⟨Fut.laid hT, m.laid hT, T, _, rfl, .inl upd_same, _, _, rfl, rfl, _, _, rfl, m.rp (Fut.laid hT) r2, rfl⟩
  stop := fun W H M f _ m st => by
    obtain ⟨us, h1, h2⟩ := h W H M f m
    exact ⟨us, h1, by rw [numb_len, h2.len]; exact Nat.le_refl _⟩
end
end Fn
set_option Elab.async false
set_option linter.all false
set_option maxRecDepth 100000
set_option maxHeartbeats 2000000
namespace Fn
open PySem PySem.Spec PyProof.Rows L2 L2.DX
end Fn
set_option Elab.async false
set_option linter.all false
set_option maxRecDepth 100000
set_option maxHeartbeats 2000000
namespace Fn
open PySem PySem.Spec PyProof.Rows L2 L2.DX
section
variable {X : Cx} {G : Gx} {cl : Nat → Addr} {E : XK} {W : Wd} {H : Hp} {M : Mem} {a b c : Expr} {fa fb fc : FE} {pos : Pos}
def rSortS (G : Gx) : List V → Hp → VK → Prop := fun vs H Q => ∃ (W : Wd) (a : Addr) (kvs : List (KK × D)) (ws : List (Key × V)), vs = [V.ref a] ∧ H a = some (.dK ws) ∧ RpK G W H kk kvs ws ∧ sortOk (kvs.map fun kv => keyD kv.1) ∧
  ∀ us' p, RpL G W H (sortD (kvs.map fun kv => keyD kv.1)) us' → H p = none → Q (.ref p) (upd H p (.lst us'))
theorem rpL_keysS : ∀ {kvs : List (KK × D)} {ws : List (Key × V)}, RpK G W H kk kvs ws → RpL G W H (kvs.map fun kv => keyD kv.1) (ws.map fun q => kV q.1)
  | _, _, .nil => rfl
  | (k, d) :: kvs, (k', v) :: ws, .cons h t => by
    have h1 : kk k = k' := h.1
    subst h1
    exact ⟨_, _, rfl, keyD_rp _, rpL_keysS t⟩
theorem pairs_keys {P : Program} {w : World} : ∀ {es : List DictEntry} {ws : List (Key × Value)} {vs : List (Key × V)}, Pairs (mixKind P w) es ws → KV vs ws → Vals (vs.map fun q => kV q.1) (es.map (·.key))
  | [], _, _, .nil, .nil => .nil
  | e :: es, (k, v) :: ws, _ :: vs, .cons h1 h2 h3, .cons r1 r2 => by
    have hk : keyIs k e.key = true := h1
    have e1 := r1.1
    refine .cons ?_ (pairs_keys h3 r2)
    show L2.RelV (kV _) e.key
    rw [e1]
    rcases keyIs_shape hk with ⟨i, t, q1, q2⟩ | ⟨x, t, q1, q2⟩
    · subst q1; rw [q2]; exact ⟨t, rfl⟩
    · subst q1; rw [q2]; exact ⟨t, rfl⟩
theorem cr_sortS (hc : X.calm = true) (hu : X.A.units + 64 < cLine) : CallR X (.builtin "sorted") (rSortS ⟨X.K, cl⟩) := by
  intro pins s σ H vs us Q I r h
  obtain ⟨W, d, kvs, ws, rfl, hd, hr, hk, q⟩ := h
  obtain ⟨u, rfl, rx⟩ := r.one
  cases rx
  obtain ⟨hz, hs, vs', kv, o, es, ep, ho, hx, hdt, hn, hp, hnd⟩ := I.hok _ _ hd
  have l1 : es.size = ws.length := by
    have := (pairs_keys hp kv).length
    rw [List.length_map, List.length_map, Array.length_toList] at this
    exact this.symm
  refine Calls.call_function_entry PyProof.Rows.kind_sorted PyProof.Rows.plain_sorted PyProof.Rows.entry_sorted (PyProof.Rows.args_sorted1 _) ?_
  unfold Builtin.«sorted»; refine wpAny_bind (m := checkCount "sorted" 1 1 _) (wpAny_pure ?_)
  refine wpAny_bind (PySem.W.kdu_collect (A := X.A.in1) (kdl_raw hs hx hdt) (I.ok.hd hc) ho (by omega) fun h' tk acc' kp it => ?_)
  have eb : acc'.toList = es.toList.map (·.key) := by
    have hl : acc'.toList.length = es.toList.length := by rw [Array.length_toList, Array.length_toList, it.1]
    apply List.ext_getElem?
    intro j; rw [List.getElem?_map]
    cases hj : acc'.toList[j]? with
    | none =>
      have h1 := List.getElem?_eq_none_iff.mp hj
      rw [List.getElem?_eq_none (by omega)]; rfl
    | some v =>
      obtain ⟨en, hen, hv⟩ := it.2 j v (by rw [← Array.getElem?_toList]; exact hj)
      rw [Array.getElem?_toList, hen, hv]; rfl
  have rv : Vals (ws.map fun q => kV q.1) acc'.toList := by rw [eb]; exact pairs_keys hp kv
  have rp := rpL_keysS hr
  have e := eachIs_rp (h := s.heap) rp rv
  have hlen : acc'.toList.length = (kvs.map fun kv => keyD kv.1).length := by rw [← rv.length, rp.len]
  have hL : (kvs.map fun kv => keyD kv.1).length ≤ sizeLine := by rw [← rp.len, List.length_map]; omega
  refine wpAny_bind (wpAny_newList ?_ (by rw [hlen]; exact hL))
  have hoL : (h'.push (seqObj "list" acc'.toList.toArray 0)).get? h'.objs.size = some (seqObj "list" acc'.toList.toArray 0) := Heap.get?_push_size _ rfl
  have I1 : Inv X pins σ H { s with heap := h', toks := tk } := I.kept kp
  have er : PySem.W.EachIs (fun v d => ∃ as, Reads (h'.push (seqObj "list" acc'.toList.toArray 0)) v (encD d) as ∧ h'.objs.size ∉ as) acc'.toList (kvs.map fun kv => keyD kv.1) := eachIs_mono e fun v d hd ⟨u, h1, h2⟩ => by
    obtain ⟨kv, _, rfl⟩ := List.mem_map.mp hd
    have hpy : pyD (keyD kv.1) = some (encD (keyD kv.1)) := by cases kv.1 <;> rfl
    have hat : atomP (encD (keyD kv.1)) = true := by cases kv.1 <;> rfl
    obtain ⟨as, ra⟩ := Dp.reads I _ u v (pyD_ok h1 hpy) h2
    have : as = [] := reads_atom ra hat
    subst this
    exact ⟨[], Reads.keeps (fun b o q => Heap.get?_push_of_some _ (kp b o q)) ra, by simp⟩
  refine wpAny_bind (wpAny_holding (wpAny_mono (PySem.W.list_sort_data (s := { s with heap := h'.push (seqObj "list" acc'.toList.toArray 0), toks := tk }) (vs := acc'.toList) (n := 0) hoL e er (fun p hp p' hp' => ?_) (.inr fun p hp => ?_) hL (fun d hd => ?_) (Q := fun _ s' => EP X pins σ Q (.ref h'.objs.size) s') fun out ho' eo => ?_) (fun _ s' x => wpAny_pure ⟨_, rfl, x⟩) fun _ _ e => e))
  · obtain ⟨d, hd, rfl⟩ := List.mem_map.mp hp
    obtain ⟨d', hd', rfl⟩ := List.mem_map.mp hp'
    exact hk.2.1 d hd d' hd'
  · obtain ⟨d, hd, rfl⟩ := List.mem_map.mp hp
    obtain ⟨kv, hkv, rfl⟩ := List.mem_map.mp hd
    cases kv.1 with
    | inl i => exact ⟨(by intro z; cases z), (by intro xs z; cases z)⟩
    | inr x => exact ⟨(by intro z; cases z), (by intro xs z; cases z)⟩
  · have := (hk.1 d hd).2
    have h5 : X.A.in1.units = X.A.units + 1 := rfl
    rw [h5]; omega
  · obtain ⟨us', h1, h2⟩ := eachIs_back eo
    obtain ⟨e', he'⟩ := PyProof.Rows.sortedHeap_at (vs := acc'.toList) (out := out.toArray) hoL
    have hlen' : us'.length ≤ sizeLine := by rw [h2.length, ho']; exact hL
    refine ⟨.ref h'.objs.size, upd H h'.objs.size (.lst us'), I1.laid (t' := tk) (fun b u e => ?_) (Nat.le_refl _) ⟨hlen', out, e', h2, he'⟩, rfl, q us' _ h1 (I1.hok.fresh (Nat.le_refl _))⟩
    have hb : b < h'.objs.size := Heap.lt_size e
    rw [PyProof.Rows.sortedHeap_old (Nat.ne_of_lt hb) (by rw [size_push']; exact Nat.lt_succ_of_lt hb)]
    exact Heap.get?_push_of_some _ e
open Classical in
noncomputable def oSortS (c : Bool) : List D → Mem → R D
  | [.ref i], M => match M[i]? with
    | some (.dk false kvs) => if sortOk (kvs.map fun kv => keyD kv.1) then mkL c (sortD (kvs.map fun kv => keyD kv.1)) M else .no
    | _ => .no
  | _, _ => .no
theorem fn_sortS {c : Bool} : Fn1 G E (rSortS G) (oSortS c) := fun W H M ds us Q m r p => by
  unfold oSortS at p
  split at p
  · rename_i i
    obtain ⟨u, e1, r1⟩ := rp_one r
    subst e1
    obtain ⟨a1, h1, rfl⟩ := r1
    split at p
    · rename_i kvs hc
      split at p
      · rename_i hs
        obtain ⟨vs, c1, c2⟩ := m.cell _ _ a1 hc h1
        have c1 : H a1 = some (.dK vs) := c1
        exact ⟨W, a1, kvs, vs, rfl, c1, c2, hs, fun us' p' r' hp => mkL_new m p r' p' hp⟩
      · exact p.elim
    · exact p.elim
  · exact p.elim
end
end Fn
set_option Elab.async false
set_option linter.all false
set_option maxRecDepth 100000
set_option maxHeartbeats 2000000
namespace Fn
open PySem PySem.Spec PyProof.Rows L2
/-- a def of the text, its defaults any -/
structure FunV (K : PySem.W.Frag) (x qual : Str) (st : Stmt) (f : Addr) (fd : FuncData) : Prop where
  ex : ∃ (oc : Value) (od : Option Addr) (dV kV doc pm : Value) (an : Option Addr) (cdv ct : Value) (osl : Array (Option Value)),
    fd = PySem.W.fnOf x qual (defArgs st) (defBody st) (defScope st) dV kV doc pm an cdv ct ∧ K.lookup f = some ⟨oc, od, .func fd, osl⟩ ∧ PySem.W.codeIn K cdv qual = true
  kp : PySem.W.keepIn K (.ref f) = true
section
variable {P : Program} {w : World} {K : PySem.W.Frag} {mg : Str → Option Value} {base : Heap} {x qual : Str} {st : Stmt} {f : Addr} {fd : FuncData} {N ps : List Str} {k : Nat} {g : FD} {B : FS} {cl : Nat → Addr}
theorem funV_mk {oc : Value} {od an : Option Addr} {osl : Array (Option Value)} {dV kV doc pm cdv ct : Value} (l : K.lookup f = some ⟨oc, od, .func (PySem.W.fnOf x qual (defArgs st) (defBody st) (defScope st) dV kV doc pm an cdv ct), osl⟩)
    (c : PySem.W.codeIn K cdv qual = true) (k : PySem.W.keepIn K (.ref f) = true) : FunV K x qual st f (PySem.W.fnOf x qual (defArgs st) (defBody st) (defScope st) dV kV doc pm an cdv ct) := ⟨⟨oc, od, dV, kV, doc, pm, an, cdv, ct, osl, rfl, l, c⟩, k⟩
theorem fn_defV (F : FunV K x qual st f fd) (S : FnScope N ps (defScope st))
    (hbody : ∀ (cdv : Value) (A : Around) (outer : List PySem.Env) (s : Shared) (H : Hp) (E : XK), Room k (A.deeper (envOfC qual (defScope st) s.heap.objs.size f cdv)) →
      PSs (cxOf CX0 P w K mg base N qual (defScope st) f cdv A outer s H E).nox (defBody st) (tS ⟨K, cl⟩ E B))
    (href : ∀ ds M, ds.length = ps.length → Ref M (g ds M) (B (envStart N.length ds) M)) : FnOk P w K mg base CX0 (k + 1) f fd ps (spOf ⟨K, cl⟩ ps.length g) := by
  obtain ⟨oc, od, dV, kV, doc, pm, an, cdv, ct, osl, rfl, lk, hcd⟩ := F.ex
  refine fn_of lk hcd S (fun vs H Q E ⟨W, M, ds, m, r, hl, _⟩ => by rw [r.len, hl]) fun A outer s H vs Q E hr ⟨W, M, ds, m, r, hl, p⟩ => ?_
  exact ⟨_, (hbody cdv A outer s H E hr).nox, W, envStart N.length ds, M, ⟨m, envStart_ok r⟩, href ds M hl _ W H Q E m p⟩
end
end Fn
set_option Elab.async false
set_option linter.all false
set_option maxRecDepth 100000
set_option maxHeartbeats 1000000
namespace LZ
open PySem PyProof.Rows
open PySem.Sem (wp)
section
variable {prog : Program} {w : World} {A : Around} {E : Value → Shared → Prop} {s : Shared}
/-- where a zip of tuples stands, its tuple out or not -/
def Zst (h : Heap) (z TI TO i1 i2 l1 l2 S : Addr) (xs ys : Array Value) (i : Nat) : Prop := IsPair h TI (.ref i1) (.ref i2) ∧ h.IsTupleIter i1 l1 i ∧ h.IsTupleIter i2 l2 i ∧ h.IsTuple l1 xs ∧ h.IsTuple l2 ys ∧
  ((IsZip h z TI TO .none ∧ ∃ a b, IsPair h TO a b) ∨ ∃ T f oT, IsZipHeld h z TI TO T f ∧ h.get? T = some oT ∧ T ≠ z ∧ T ≠ i1 ∧ T ≠ i2 ∧ T ≠ S)
structure Off (S z TI TO i1 i2 l1 l2 : Addr) : Prop where
  z : S ≠ z
  TI : S ≠ TI
  TO : S ≠ TO
  i1 : S ≠ i1
  i2 : S ≠ i2
  l1 : S ≠ l1
  l2 : S ≠ l2
theorem Zst.keep {h h' : Heap} {z TI TO i1 i2 l1 l2 S : Addr} {xs ys : Array Value} {i : Nat} (O : Off S z TI TO i1 i2 l1 l2) (st : Zst h z TI TO i1 i2 l1 l2 S xs ys i) (hk : ∀ b o, b ≠ S → h.get? b = some o → h'.get? b = some o) : Zst h' z TI TO i1 i2 l1 l2 S xs ys i := by
  obtain ⟨hTI, h1, h2, hl1, hl2, hz⟩ := st
  refine ⟨hk _ _ (Ne.symm O.TI) hTI, h1.at fun o e => hk _ o (Ne.symm O.i1) e, h2.at fun o e => hk _ o (Ne.symm O.i2) e, hl1.at fun o e => hk _ o (Ne.symm O.l1) e, hl2.at fun o e => hk _ o (Ne.symm O.l2) e, ?_⟩
  rcases hz with ⟨hz, a, b, hTO⟩ | ⟨T, f, oT, hz, hT, r1, r2, r3, r4⟩
  · exact .inl ⟨hk _ _ (Ne.symm O.z) hz, a, b, hk _ _ (Ne.symm O.TO) hTO⟩
  · exact .inr ⟨T, f, oT, hk _ _ (Ne.symm O.z) hz, hk _ _ r4 hT, r1, r2, r3, r4⟩
/-- the pairs that came -/
structure ZG (xs ys : Array Value) (lo : Addr) (h : Heap) (as : List Addr) : Prop where
  rise : as.Pairwise (· < ·)
  above : ∀ a ∈ as, lo < a
  pairs : ∀ (j : Nat) (a : Addr), as[j]? = some a → ∃ x y, xs[j]? = some x ∧ ys[j]? = some y ∧ IsPair h a x y
theorem ZG.there {xs ys : Array Value} {lo : Addr} {h : Heap} {as : List Addr} (g : ZG xs ys lo h as) {a : Addr} (ha : a ∈ as) : a < h.objs.size := by
  obtain ⟨j, hj⟩ := List.mem_iff_getElem?.mp ha
  obtain ⟨_, _, _, _, e⟩ := g.pairs j a hj
  exact Heap.lt_size e
end
end LZ
set_option Elab.async false
set_option linter.all false
set_option maxRecDepth 100000
set_option maxHeartbeats 1000000
namespace LZ
open PySem PyProof.Rows PySem.Calls
open PySem.Sem (wp)
section
variable {prog : Program} {w : World} {A : Around} {E : Value → Shared → Prop} {s : Shared} {z TI TO i1 i2 l1 l2 S : Addr} {xs ys : Array Value}
/-- a zip that has not begun -/
structure Z0 (h : Heap) (z TI TO i1 i2 l1 l2 : Addr) (xs ys : Array Value) : Prop where
  hz : IsZip h z TI TO .none
  hTI : IsPair h TI (.ref i1) (.ref i2)
  hTO : ∃ a b, IsPair h TO a b
  h1 : h.IsTupleIter i1 l1 0
  h2 : h.IsTupleIter i2 l2 0
  hl1 : h.IsTuple l1 xs
  hl2 : h.IsTuple l2 ys
theorem Z0.keep {h h' : Heap} (st : Z0 h z TI TO i1 i2 l1 l2 xs ys) (O : Off S z TI TO i1 i2 l1 l2) (hk : ∀ b o, b ≠ S → h.get? b = some o → h'.get? b = some o) : Z0 h' z TI TO i1 i2 l1 l2 xs ys := by
  obtain ⟨hz, hTI, ⟨a, b, hTO⟩, h1, h2, hl1, hl2⟩ := st
  exact ⟨hk _ _ (Ne.symm O.z) hz, hk _ _ (Ne.symm O.TI) hTI, ⟨a, b, hk _ _ (Ne.symm O.TO) hTO⟩, h1.at fun o e => hk _ o (Ne.symm O.i1) e, h2.at fun o e => hk _ o (Ne.symm O.i2) e, hl1.at fun o e => hk _ o (Ne.symm O.l1) e, hl2.at fun o e => hk _ o (Ne.symm O.l2) e⟩
theorem Z0.st {h : Heap} (st : Z0 h z TI TO i1 i2 l1 l2 xs ys) : Zst h z TI TO i1 i2 l1 l2 S xs ys 0 := ⟨st.hTI, st.h1, st.h2, st.hl1, st.hl2, .inl ⟨st.hz, st.hTO⟩⟩
end
end LZ
set_option Elab.async false
set_option linter.all false
set_option maxRecDepth 100000
set_option maxHeartbeats 2000000
set_option Elab.async false
set_option linter.all false
set_option maxRecDepth 100000
set_option maxHeartbeats 1000000
namespace Fn
open PySem PySem.Spec PyProof.Rows L2
end Fn
set_option Elab.async false
set_option linter.all false
set_option maxRecDepth 100000
set_option maxHeartbeats 1000000
namespace Fn
open PySem PySem.Spec PyProof.Rows L2
end Fn
set_option Elab.async false
set_option linter.all false
set_option maxRecDepth 100000
set_option maxHeartbeats 1000000
namespace Fn
open PySem PySem.Spec PyProof.Rows L2 L2.DX
section
variable {X : Cx} {G : Gx} {cl : Nat → Addr} {E : XK} {W : Wd} {H : Hp} {M : Mem} {a b c : Expr} {fa fb fc : FE} {pos : Pos}
def most (a : Int) : List Int → Int
  | [] => a
  | b :: r => most (if b > a then b else a) r
def oListA (c : Bool) : List D → Mem → R D
  | [.ref i], M => match M[i]? with
    | some (.dk _ kvs) => mkL c (kvs.map fun kv => keyD kv.1) M
    | some (.dt _ kvs) => mkL c (kvs.map fun kv => .tup (kv.1.map keyD)) M
    | _ => oList c [.ref i] M
  | ds, M => oList c ds M
theorem keys_rp : ∀ {kvs : List (KK × D)} {vs : List (Key × V)}, RpK G W H kk kvs vs → RpL G W H (kvs.map fun kv => keyD kv.1) (vs.map fun kv => kV kv.1)
  | _, _, .nil => rfl
  | (k, d) :: r, (k', v) :: r', .cons h t => by
    have h1 : kk k = k' := h.1
    subst h1
    exact ⟨_, _, rfl, keyD_rp k, keys_rp t⟩
theorem keysT_rp : ∀ {kvs : List (List KK × D)} {vs : List (List Key × V)} {bs : List Addr}, RpK G W H (List.map kk) kvs vs → IsKeys H vs bs → RpL G W H (kvs.map fun kv => D.tup (kv.1.map keyD)) (bs.map V.ref)
  | _, _, _, .nil, .nil => rfl
  | (k, d) :: r, (k', v) :: r', b :: bs, .cons h t, .cons h2 t2 => by
    have h1 : k.map kk = k' := h.1
    subst h1
    exact ⟨_, _, rfl, ⟨b, _, rfl, .inl h2, keysD_rp k⟩, keysT_rp t t2⟩
def rListA (K : PySem.W.Frag) : List V → Hp → VK → Prop := fun xs H Q => ((∃ p ys, xs = [.ref p] ∧ (SqL K H p ys ∨ SqT K H p ys) ∧ ∀ l, H l = none → Q (.ref l) (upd H l (.lst ys))) ∨ (∃ (a : Addr) (kvs : List (Key × V)), xs = [.ref a] ∧ Rd H a (.dK kvs) ∧ ∀ p, H p = none → Q (.ref p) (upd H p (.lst (kvs.map fun kv => kV kv.1))))) ∨
  ∃ d kvs, xs = [V.ref d] ∧ Rd H d (.dT kvs) ∧ ∀ p bs, H p = none → IsKeys H kvs bs → Q (.ref p) (upd H p (.lst (bs.map V.ref)))
theorem call_listA (hc : X.calm = true) : CallR X (.type "list") (rListA X.K) := (call_list_of.or (call_listD hc)).or (call_list_dT hc)
theorem fn_listA {c : Bool} : Fn1 G E (rListA G.K) (oListA c) := fun W H M ds us Q m r p => by
  have old : PR G W H (PV G Q) E (oList c ds M) → rListA G.K us H Q := fun p => .inl (.inl (fn_list W H M ds us Q m r p))
  unfold oListA at p
  split at p
  · rename_i i
    obtain ⟨u, rfl, r1⟩ := rp_one r
    split at p
    · rename_i lk kvs hc
      obtain ⟨a1, ha, rfl⟩ := r1
      obtain ⟨vs, q1, q2⟩ := dk_at (i := i) (m.cell _ _ a1 hc ha)
      exact .inl (.inr ⟨a1, vs, rfl, q1, mkL_new m p (keys_rp q2)⟩)
    · rename_i lk kvs hc
      obtain ⟨a1, ha, rfl⟩ := r1
      obtain ⟨vs, q1, q2⟩ := dt_at (i := i) (m.cell _ _ a1 hc ha)
      exact .inr ⟨a1, vs, rfl, q1, fun p' bs hp hb => mkL_new m p (keysT_rp q2 hb) p' hp⟩
    · exact old p
  · exact old p
theorem oListA_dk {c lk : Bool} {i : Nat} {kvs : List (KK × D)} (h : M[i]? = some (.dk lk kvs)) : oListA c [.ref i] M = mkL c (kvs.map fun kv => keyD kv.1) M := by simp only [oListA, h]
end
end Fn
set_option Elab.async false
set_option linter.all false
set_option maxRecDepth 100000
set_option maxHeartbeats 1000000
set_option Elab.async false
set_option linter.all false
set_option maxRecDepth 100000
set_option maxHeartbeats 1000000
namespace Fn
open PySem PySem.Spec PyProof.Rows L2 L2.DX
end Fn
set_option Elab.async false
set_option linter.all false
set_option maxRecDepth 100000
set_option maxHeartbeats 1000000
namespace Fn
open PySem PySem.Spec PyProof.Rows L2
section
variable {X : Cx} {G : Gx} {cl : Nat → Addr} {E : XK} {W : Wd} {H : Hp} {M : Mem} {a b c : Expr} {fa fb fc : FE} {pos : Pos}
def enX (d : D) (m : Mem) : R Src := match d with
  | .tup l => .ok ⟨numb l, fun _ => True⟩ m
  | d => match lstOf m d, srcOf m d with
    | some l, some s => .ok ⟨numb l, s.still⟩ m
    | _, _ => .no
def iEnumX (f : FE) : FI := fun env M => (f env M).bind enX
theorem iEnumX_eq {env : Fn.Env} : iEnumX fa env M = (fa env M).bind enX := rfl
theorem enX_tup (l : List D) : enX (.tup l) M = .ok ⟨numb l, fun _ => True⟩ M := rfl
theorem si_enumX {p tpos : Pos} {elts : List Expr} {kk : Nat} (hg : Gl X "enumerate") (hm : X.mg "enumerate" = none) (ha : PE X a (tE ⟨X.K, cl⟩ E fa)) (hs : starEach [a] X.env = (false, eval a X.env) :: starEach [] X.env := by rfl) (hs1 : starEach [a] X.env = [(false, eval a X.env)] := by rfl) :
    PI X (.Tuple elts kk tpos) (.Call (.Name "enumerate" p) [a] [] pos) (tI ⟨X.K, cl⟩ E (iEnumX fa)) := pi_imp (pi_enumA hg hm (sa_cons ha sa_nil hs) hs1) fun σ H Rr ⟨W, env, M, s, p⟩ => by
  refine tA.bind (K := PI' ⟨X.K, cl⟩ Rr) (f := aCons fa aNil) (k := fun ds m => match ds with | [d] => enX d m | _ => .no) s ?_ fun ds m W1 H1 us f1 s1 r1 p1 => ?_
  · rw [aCons_bind]
    exact p
  · split at p1
    · rename_i d
      obtain ⟨u, rfl, r2⟩ := rp_one r1
      unfold enX at p1
      split at p1
      · rename_i l
        have k := p1.here s1.mem
        obtain ⟨a1, us, rfl, h2, h3⟩ := id r2
        refine ⟨a1, us, rfl, .inr ⟨h2.sq, k _ (src_enumT fun W2 H2 M2 f2 m2 => ?_) trivial⟩⟩
        obtain ⟨a', us', q1, q2, q3⟩ := Rp.kp f2 _ _ r2
        cases q1
        exact ⟨us', q2.sq, q3⟩
      · split at p1
        · rename_i l src e1 e2
          have k := p1.here s1.mem
          obtain ⟨a1, us, rfl, h2, h3⟩ := lstOf_ok s1.mem r2 e1
          obtain ⟨st, _⟩ := srcOf_ok s1.mem r2 e2
          refine ⟨a1, us, rfl, .inl ⟨h2, k _ (src_enum fun W2 H2 M2 f2 m2 st2 => ?_) st⟩⟩
          have r3 := Rp.kp f2 _ _ r2
          cases d with
          | ref i =>
            simp only [srcOf] at e2
            split at e2
            · rename_i l' hc
              cases e2
              have : lstOf M2 (.ref i) = some l := by
                simp only [lstOf, hc] at e1
                cases e1
                have st2' : M2[i]? = some (.lst l) := st2
                simp only [lstOf, st2']
              obtain ⟨a', us', e', h', r'⟩ := lstOf_ok m2 r3 this
              cases e'
              exact ⟨us', h', r'⟩
            · cases e2
          | lst l' =>
            cases e1
            obtain ⟨a', us', e', h', r'⟩ := lstOf_ok m2 r3 (d := .lst l) rfl
            cases e'
            exact ⟨us', h', r'⟩
          | fz l' =>
            cases e1
            obtain ⟨a', us', e', h', r'⟩ := lstOf_ok m2 r3 (d := .fz l) rfl
            cases e'
            exact ⟨us', h', r'⟩
          | _ => cases e1
        · exact p1.elim
    · exact p1.elim
end
end Fn
set_option Elab.async false
set_option linter.all false
set_option maxRecDepth 100000
set_option maxHeartbeats 1000000
namespace Fn
open PySem PySem.Spec PyProof.Rows L2
section
variable {X : Cx} {G : Gx} {cl : Nat → Addr} {E : XK} {W : Wd} {H : Hp} {M : Mem} {a b c : Expr} {fa fb fc : FE} {pos : Pos}
open Classical in
noncomputable def dcL (P : Mem → Prop) (g : FG) (t : FT) (fk fv : FE) (env : Env) (j : Nat) : List D → Mem → R Unit
  | [], M => if P M then .ok () M else .no
  | d :: r, M => if P M then (g d env M).bind fun env1 m1 => (t env1 m1).bind fun b m2 => if b = true then (fk env1 m2).bind fun y m3 => (fv env1 m3).bind fun z m4 => match m4[j]?, keyK y with
      | some (.dk false kvs), some k => if kvs.length < 16777216 then dcL P g t fk fv env j r (m4.set j (.dk false (pA kvs k z))) else .no
      | _, _ => .no
    else dcL P g t fk fv env j r m2
    else .no
noncomputable def mDc (vs : List Nat) (fi : FI) (g : FG) (t : FT) (fk fv : FE) : FE := fun env M => (fi env M).bind fun src m => (dcL src.still g t fk fv (wipeE env vs) m.length src.items (m ++ [.dk false []])).nox.bind fun _ m' => .ok (.ref m.length) m'
theorem tDc_of {E' : XK} {vs : List Nat} {fi : FI} {g : FG} {t : FT} {fk fv : FE} (σ : L2.St) (H : Hp) (Q : VK) (h : tE G E (mDc vs fi g t fk fv) σ H Q) : tDc (tI G E fi) (tGt G E' vs g) (tT G E' t) (tE G E' fk) (tE G E' fv) vs σ H Q := by
  obtain ⟨W, env, M, s, p⟩ := h
  refine ⟨W, env, M, s, PR.bind p fun src m W0 H0 f0 k0 p0 => fun J sj st0 => fun D0 hD0 => ?_⟩
  have s0 := s.fut f0 k0
  obtain ⟨m', hrun⟩ : ∃ m', dcL src.still g t fk fv (wipeE env vs) m.length src.items (m ++ [.dk false []]) = .ok () m' := by
    cases hc : dcL src.still g t fk fv (wipeE env vs) m.length src.items (m ++ [.dk false []]) with
    | ok ys m' => exact ⟨m', rfl⟩
    | ex c fs m' => rw [hc] at p0; exact p0.elim
    | no => rw [hc] at p0; exact p0.elim
  rw [hrun] at p0
  have q0 : PR G W0 H0 (PV G Q) E (.ok (.ref m.length) m') := p0
  have fA : Fut W0 H0 ⟨W0.as ++ [D0], W0.hd⟩ (upd H0 D0 (.dK [])) := Fut.added k0 hD0
  have mA : MemOk G ⟨W0.as ++ [D0], W0.hd⟩ (upd H0 D0 (.dK [])) (m ++ [.dk false []]) := k0.added hD0 ⟨[], upd_same, .nil⟩
  have aA : (W0.as ++ [D0])[m.length]? = some D0 := by rw [← k0.len]; simp
  refine ⟨fun i n H' => n + i = src.items.length ∧ ∃ W1 M1, dcL src.still g t fk fv (wipeE env vs) m.length (src.items.drop i) M1 = .ok () m' ∧ Fut W0 H0 W1 H' ∧ MemOk G W1 H' M1 ∧ W1.as[m.length]? = some D0, ⟨src.items.length, rfl, _, _, hrun, fA, mA, aA⟩, ?_⟩
  rintro i n H1 ⟨hn, W1, M1, h1, h4, h5, h6⟩
  cases hd : src.items.drop i with
  | nil =>
    rw [hd] at h1
    unfold dcL at h1
    split at h1
    · rename_i hP
      cases h1
      have hl : src.items.length ≤ i := List.drop_eq_nil_iff.mp hd
      have : i = src.items.length := by omega
      subst this
      exact .inl ⟨sj.stop _ H1 _ (h4.kp k0) h4.lk h5 hP, q0 W1 H1 h4 h5 _ ⟨D0, h6, rfl⟩⟩
    · cases h1
  | cons d r =>
    rw [hd] at h1
    unfold dcL at h1
    split at h1
    · rename_i hP
      have hi' : src.items[i]? = some d := by
        have h0 : (src.items.drop i)[0]? = some d := by rw [hd]; rfl
        rw [List.getElem?_drop] at h0
        simpa using h0
      have hr : src.items.drop (i + 1) = r := by
        rw [← List.tail_drop, hd]; rfl
      have hlt : i < src.items.length := (List.getElem?_eq_some_iff.mp hi').1
      obtain ⟨go, yl⟩ := sj.item _ H1 _ (h4.kp k0) h4.lk h5 hP i d hi'
      obtain ⟨env1, m1, g1, h1⟩ := R.bind_eq h1
      obtain ⟨b, m2, g2, h1⟩ := R.bind_eq h1
      refine .inr ⟨go, fun H' => ∃ W1 M1, dcL src.still g t fk fv (wipeE env vs) m.length r M1 = .ok () m' ∧ Fut W0 H0 W1 H' ∧ MemOk G W1 H' M1 ∧ W1.as[m.length]? = some D0, fun H' ⟨W1, M1, k⟩ => ⟨n - 1, by omega, by omega, W1, M1, by rw [hr]; exact k⟩, fun x H2 y => ?_⟩
      obtain ⟨f2, k2, rx⟩ := yl x H2 y
      have f02 := h4.trans f2
      have en2 : EnvOk G W1 H2 env σ := s0.env.fut k0 f02
      refine ⟨_, wipeE env vs, M1, d, ⟨k2, wipeE_ok en2 vs⟩, rx, PR.of_ok g1 fun W3 H3 f3 k3 => fun σ3 en3 ew3 => ⟨by rw [ew3]; exact wipe_wipe σ vs, W3, env1, m1, ⟨k3, en3⟩, PR.of_ok g2 fun W4 H4 f4 k4 => ?_⟩⟩
      have f04 := f02.trans (f3.trans f4)
      have a4 : W4.as[m.length]? = some D0 := (f2.trans (f3.trans f4)).get h6
      cases b with
      | false =>
        rw [if_neg Bool.false_ne_true] at h1
        simp only [PB, Bool.false_eq_true, if_false]
        exact ⟨W4, m2, h1, f04, k4, a4⟩
      | true =>
        rw [if_pos rfl] at h1
        obtain ⟨y, m3, g3, h1⟩ := R.bind_eq h1
        obtain ⟨z, m4, g4, h1⟩ := R.bind_eq h1
        simp only [PB, if_true]
        refine ⟨W4, env1, m2, ⟨k4, en3.fut k3 f4⟩, PR.of_ok g3 fun W5 H5 f5 k5 => fun u ru => ?_⟩
        refine ⟨W5, env1, m3, ⟨k5, (en3.fut k3 f4).fut k4 f5⟩, PR.of_ok g4 fun W6 H6 f6 k6 => fun v rv => ?_⟩
        split at h1
        · rename_i kvs k hc hk
          split at h1
          · rename_i hl
            have a6 : W6.as[m.length]? = some D0 := (f5.trans f6).get a4
            obtain ⟨ws, q1, q2⟩ := k6.cell _ _ D0 hc a6
            have q1 : H6 D0 = some (.dK ws) := q1
            have f7 : Fut W6 H6 W6 (upd H6 D0 (.dK (putK ws (kk k) v))) := Fut.wrote a6 q1 trivial
            exact ⟨ws, kk k, keyK_ok hk ru, q1, by rw [rpA_len q2, line_eq]; exact hl, W6, _, h1, f04.trans (f5.trans (f6.trans f7)), k6.wrote a6 ⟨_, upd_same, rpA_put (fun _ _ => kk_inj) (k6.rp f7 rv) (q2.fut k6 f7)⟩, a6⟩
          · cases h1
        · cases h1
    · cases h1
theorem sn_dc {kx vx tg iter : Expr} {ifs : List Expr} {scope : Scope} {own : List (Str × Nat)} {fi : FI} {g : FG} {t : FT} {fk fv : FE} (hc : X.calm = true) (hN : X.N.Nodup) (hi : PI X tg iter (tI G E fi)) (ok : BlkOk X.N X.env.scope scope own)
    (hg : ∀ (s : Shared) (H : Hp) (C : Addr) (cl : List (Str × Addr)) (fp : List Addr), PG (X.blk s H scope (compEnvC scope cl C X.env) fp) tg (tGt G (fun _ _ _ => False) (own.map (·.2)) g)) (ht : ∀ (s : Shared) (H : Hp) (C : Addr) (cl : List (Str × Addr)) (fp : List Addr), PTs (X.blk s H scope (compEnvC scope cl C X.env) fp) ifs (tT G (fun _ _ _ => False) t))
    (hk : ∀ (s : Shared) (H : Hp) (C : Addr) (cl : List (Str × Addr)) (fp : List Addr), PE (X.blk s H scope (compEnvC scope cl C X.env) fp) kx (tE G (fun _ _ _ => False) fk))
    (he : ∀ (s : Shared) (H : Hp) (C : Addr) (cl : List (Str × Addr)) (fp : List Addr), PE (X.blk s H scope (compEnvC scope cl C X.env) fp) vx (tE G (fun _ _ _ => False) fv)) (hs : ∀ x, foldedSetIterable iter X.env x = pure x := by intro _; rfl) :
    PE X (.DictComp kx vx [⟨tg, iter, ifs, 0⟩] scope pos) (tE G E (mDc (own.map (·.2)) fi g t fk fv)) := pe_imp (pe_dc hc hN hi ok hg ht hk he hs) tDc_of
theorem mDc_eq (vs : List Nat) (fi : FI) (g : FG) (t : FT) (fk fv : FE) {env : Fn.Env} {M : Mem} : mDc vs fi g t fk fv env M = (fi env M).bind fun src m => (dcL src.still g t fk fv (wipeE env vs) m.length src.items (m ++ [.dk false []])).nox.bind fun _ m' => .ok (.ref m.length) m' := rfl
end
end Fn
set_option Elab.async false
set_option linter.all false
set_option maxRecDepth 100000
set_option maxHeartbeats 1000000
namespace Fn
open PySem PySem.Spec PyProof.Rows L2
section
variable {X : Cx} {G : Gx} {cl : Nat → Addr} {E : XK} {W : Wd} {H : Hp} {M : Mem} {a b c : Expr} {fa fb fc : FE} {pos : Pos}
/-- what has come so far, in the hidden list -/
structure Cst (G : Gx) (W0 : Wd) (H0 : Hp) (D0 : Addr) (as : List Addr) (H' : Hp) (M : Mem) (done : List D) (acc : List V) : Prop where
  fu : Fut W0 H0 ⟨as, W0.hd⟩ H'
  kp : Kp W0 H0 ⟨as, D0 :: W0.hd⟩ H'
  me : MemOk G ⟨as, D0 :: W0.hd⟩ H' M
  at_ : H' D0 = some (.lst acc)
  rp : RpL G ⟨as, D0 :: W0.hd⟩ H' done acc
section
variable {W0 : Wd} {H0 H1 H2 : Hp} {D0 : Addr} {as as2 : List Addr} {M2 : Mem} {done : List D} {acc : List V}
theorem Cst.fut (h : Cst G W0 H0 D0 as H1 M done acc) (f : Fut ⟨as, D0 :: W0.hd⟩ H1 ⟨as2, D0 :: W0.hd⟩ H2) (m : MemOk G ⟨as2, D0 :: W0.hd⟩ H2 M2) : Cst G W0 H0 D0 as2 H2 M2 done acc :=
  ⟨h.fu.trans ⟨f.ext, rfl, f.keep, f.lk⟩, h.kp.trans (f.kp h.me), m, f.keep _ _ h.at_ fun z => h.me.apart D0 z (List.mem_cons_self ..), h.me.rpL f h.rp⟩
end
end
end Fn
set_option Elab.async false
set_option linter.all false
set_option maxRecDepth 100000
set_option maxHeartbeats 1000000
namespace Fn
open PySem PySem.Spec PyProof.Rows L2
section
variable {X : Cx} {G : Gx} {E : XK}
def mDeadS : FS := fun _ _ => .no
theorem ss_dead {st : Stmt} : PS X st (tS G E mDeadS) := ⟨fun pins s σ H D I h => by
  obtain ⟨W, env, M, _, p⟩ := h
  exact p.elim⟩
end
end Fn
set_option Elab.async false
set_option linter.all false
set_option maxRecDepth 100000
set_option maxHeartbeats 4000000
namespace L2
open PySem PySem.Spec PyProof.Rows
theorem tuple_mulSame (l : Addr) (items : Array Value) (n : Nat) (dd : Option Addr) (sl : Array (Option Value)) (x : Int) (u : Tok) (c0 : (decide (x < -(2 ^ 63)) || decide (x ≥ 2 ^ 63)) = false) (c1 : (items.isEmpty || x == 1) = true) :
    Meets (Builtin.«tuple.__mul__» ⟨[.ref l, .int x u], []⟩) (fun _ R s => s.heap.get? l = some { cls := .type "tuple", dict := dd, data := .seq items n, slots := sl } ∧
      R (.ok (.ret (Value.ref l))) s) :=
  .of_wp fun prog w A R s h => by
    obtain ⟨hp, g, d, tk, os⟩ := s
    obtain ⟨hl, h⟩ := h
    have f1 := AutoSeq1.idx_int
    wp_walk using wpAny_loadPart' hl
    repeat (first
      | (refine wpAny_ite_false (decide_eq_false (by rw [c0]; exact Bool.false_ne_true)) ?_; wp_walk using wpAny_loadPart' hl)
      | (refine wpAny_ite_true (decide_eq_true c1) ?_; wp_walk using wpAny_loadPart' hl))
    all_goals exact ⟨_, rfl, h⟩
theorem tuple_mul0 (l : Addr) (items : Array Value) (n : Nat) (dd : Option Addr) (sl : Array (Option Value)) (u : Tok) (hne : items.isEmpty = false) :
    Meets (Builtin.«tuple.__mul__» ⟨[.ref l, .int 0 u], []⟩) (fun _ R s => s.heap.get? l = some { cls := .type "tuple", dict := dd, data := .seq items n, slots := sl } ∧
      R (.ok (.ret (Value.ref s.heap.objs.size))) { s with heap := s.heap.push { cls := Value.type "tuple", data := Data.seq #[] }, toks := s.toks }) :=
  .of_wp fun prog w A R s h => by
    obtain ⟨hp, g, d, tk, os⟩ := s
    obtain ⟨hl, h⟩ := h
    have f1 := AutoSeq1.idx_int
    have c0 : (decide ((0 : Int) < -(2 ^ 63)) || decide ((0 : Int) ≥ 2 ^ 63)) = false := by decide
    have c1 : (items.isEmpty || (0 : Int) == 1) = false := by rw [hne]; rfl
    have c2 : (decide ((0 : Int) ≤ 0) || items.isEmpty) = true := by rw [Bool.or_eq_true]; exact .inl rfl
    wp_walk using wpAny_loadPart' hl
    repeat (first
      | (refine wpAny_ite_false (decide_eq_false (by rw [c0]; exact Bool.false_ne_true)) ?_; wp_walk using wpAny_loadPart' hl)
      | (refine wpAny_ite_false (decide_eq_false (by rw [c1]; exact Bool.false_ne_true)) ?_; wp_walk using wpAny_loadPart' hl)
      | (refine wpAny_ite_true (decide_eq_true c2) ?_; wp_walk using wpAny_loadPart' hl))
    all_goals exact ⟨_, rfl, h⟩
/-- a tuple times 0 or 1 -/
def rRep01 (K : PySem.W.Frag) : R2 := fun x y H Q => ∃ l xs, x = .ref l ∧ SqT K H l xs ∧ ((y = .int 1 ∧ Q (.ref l) H) ∨ (y = .int 0 ∧ (xs = [] → Q (.ref l) H) ∧ (xs ≠ [] → ∀ p, H p = none → Q (.ref p) (upd H p (.tup [])))))
section
variable {X : Cx}
theorem op_rep01 : OpR X (binaryOp .Mult) (rRep01 X.K) := by
  intro pins s σ H x y v u Q I rx ry h
  obtain ⟨l, xs, rfl, hT, h⟩ := h
  cases rx
  obtain ⟨its, r, ⟨⟨cls, dd, data, sl⟩, ho, hc, n, hd⟩, hs⟩ := I.tuple hT
  simp only at hc hd
  subst hc hd
  have hle : its.length = xs.length := r.length.symm
  have same : ∀ (k : Int) (t : Tok), (decide (k < -(2 ^ 63)) || decide (k ≥ 2 ^ 63)) = false → (its.toArray.isEmpty || k == 1) = true → Q (.ref l) H → wpAny (model X.prog X.w) X.A (binaryOp .Mult (.ref l) (.int k t)) (EP X pins σ Q) X.xe s := fun k t c0 c1 q => by
    refine wpAny_binaryOp_repeat_ref (T := "tuple") (U := "int") (by decide) ⟨_, ho, rfl⟩ (fun s' => typeIs_int s' k t) noFill_tuple_mul F.fills_int_mul F.slot_int_rmul repeat_tuple F.slot_int_index.lookup
      (call_meets F.slot_int_rmul (typeIs_int s k t) F.entry_int_rmul (F.args_int_rmul_2 _ _) (int_rmul_tuple k t l its.toArray n dd sl)
        ⟨ho, rfl, ⟨_, ho, rfl⟩, call_meets F.slot_tuple_mul ⟨_, ho, rfl⟩ F.entry_tuple_mul (F.args_tuple_mul_2 _ _) (tuple_mulSame l its.toArray n dd sl k t c0 c1) ⟨ho, ?_⟩⟩)
    exact ⟨.ref l, H, I, rfl, q⟩
  rcases h with ⟨rfl, q⟩ | ⟨rfl, q1, q2⟩
  · obtain ⟨t, rfl⟩ := ry
    exact same 1 t (by decide) (by rw [Bool.or_eq_true]; exact .inr rfl) q
  · obtain ⟨t, rfl⟩ := ry
    by_cases hx : xs = []
    · have hi : its = [] := List.length_eq_zero_iff.mp (by rw [hle, hx]; rfl)
      exact same 0 t (by decide) (by rw [hi]; rfl) (q1 hx)
    · have hi : its.toArray.isEmpty = false := by
        cases its with
        | nil => exact absurd (List.length_eq_zero_iff.mp hle.symm) hx
        | cons a b => rfl
      refine wpAny_binaryOp_repeat_ref (T := "tuple") (U := "int") (by decide) ⟨_, ho, rfl⟩ (fun s' => typeIs_int s' 0 t) noFill_tuple_mul F.fills_int_mul F.slot_int_rmul repeat_tuple F.slot_int_index.lookup
        (call_meets F.slot_int_rmul (typeIs_int s 0 t) F.entry_int_rmul (F.args_int_rmul_2 _ _) (int_rmul_tuple 0 t l its.toArray n dd sl)
          ⟨ho, rfl, ⟨_, ho, rfl⟩, call_meets F.slot_tuple_mul ⟨_, ho, rfl⟩ F.entry_tuple_mul (F.args_tuple_mul_2 _ _) (tuple_mul0 l its.toArray n dd sl t hi) ⟨ho, ?_⟩⟩)
      refine ⟨.ref s.heap.objs.size, _, I.laid (t' := s.toks) (o := .tup []) (fun b ob q => Heap.get?_push_of_some _ q) (Nat.le_refl _) ?_, rfl, q2 hx _ (I.hok.fresh (Nat.le_refl _))⟩
      exact ⟨by rw [List.length_nil]; exact Nat.zero_le _, [], .nil, IsTup.new _ _⟩
end
end L2
namespace Fn
open PySem PySem.Spec PyProof.Rows L2
section
variable {X : Cx} {G : Gx} {cl : Nat → Addr} {E : XK} {W : Wd} {H : Hp} {M : Mem} {a b c : Expr} {fa fb fc : FE} {pos : Pos}
/-- a tuple as often: not at all, or once -/
def oRep01 (a b : D) (M : Mem) : R D := match a, b with
  | .tup l, .int 0 => if l = [] then .ok (.tup l) M else .ok (.tup []) M
  | .tup l, .int 1 => .ok (.tup l) M
  | _, _ => .no
theorem op2_rep01 : Op2 G E (rRep01 G.K) oRep01 := fun W H M a b u v Q m ra rb p => by
  unfold oRep01 at p
  split at p
  · rename_i l
    obtain ⟨a1, us, e1, s1, r1⟩ := id ra
    subst e1
    cases rb
    refine ⟨a1, us, rfl, s1.sq, .inr ⟨rfl, fun z => ?_, fun z q hq => ?_⟩⟩
    · have hl : l = [] := List.length_eq_zero_iff.mp (by rw [← r1.len, z]; rfl)
      rw [if_pos hl] at p
      exact p.here m _ ra
    · have hl : l ≠ [] := fun e => z (List.length_eq_zero_iff.mp (by rw [r1.len, e]; rfl))
      rw [if_neg hl] at p
      exact tup_new m p (rfl : RpL G W H [] []) q hq
  · rename_i l
    obtain ⟨a1, us, e1, s1, r1⟩ := id ra
    subst e1
    cases rb
    exact ⟨a1, us, rfl, s1.sq, .inl ⟨rfl, p.here m _ ra⟩⟩
  · exact p.elim
theorem sn_rep01 (ha : PE X a (tE ⟨X.K, cl⟩ E fa)) (hb : PE X b (tE ⟨X.K, cl⟩ E fb)) : PE X (.BinOp a .Mult b pos) (tE ⟨X.K, cl⟩ E (mOp oRep01 fa fb)) :=
  sn_op op_rep01 op2_rep01 ha hb
end
end Fn
set_option Elab.async false
set_option linter.all false
set_option maxRecDepth 100000
set_option maxHeartbeats 1000000
namespace Fn
open PySem PySem.Spec PyProof.Rows L2
end Fn
set_option Elab.async false
set_option linter.all false
set_option maxRecDepth 100000
namespace Fn
open PySem PySem.Spec PyProof.Rows L2 PySem.Froz
end Fn
set_option Elab.async false
set_option linter.all false
set_option maxRecDepth 100000
set_option maxHeartbeats 1000000
namespace Fn
open PySem PySem.Spec PyProof.Rows L2
end Fn
set_option Elab.async false
set_option linter.all false
set_option maxRecDepth 100000
set_option maxHeartbeats 1000000
namespace Fn
open PySem PySem.Spec PyProof.Rows L2
end Fn
set_option Elab.async false
set_option linter.all false
set_option maxRecDepth 100000
set_option maxHeartbeats 1000000
namespace Fn
open PySem PySem.Spec PyProof.Rows L2
section
variable {X : Cx} {G : Gx} {cl : Nat → Addr} {E : XK} {W : Wd} {H : Hp} {M : Mem} {a b c : Expr} {fa fb fc : FE} {pos : Pos}
theorem pe_tupC {es : List Expr} {k : Nat} {t : TA} (h : PA X es t) : PE X (.Tuple es k pos) (fun σ H Q => t σ H fun xs H1 => xs.length ≤ sizeLine ∧ ∀ (q : Addr) (o : Obj), H1 q = none → o.dict = none → Q (.ref q) (upd H1 q (.frz o (.tup xs)))) := by
  refine ⟨fun pins s σ H Q I hq => wpAny_Tuple_spliced (thn (h.run pos pins s σ H _ I hq) ?_)⟩
  rintro us s1 ⟨xs, H1, I1, r, z, q⟩
  refine ⟨by rw [← r.length]; exact z, ?_⟩
  have I2 := I1.laid (a := s1.heap.objs.size) (o := .frz _ (.tup xs)) (h' := s1.heap.push { cls := .type "tuple", data := .seq us.toArray }) (t' := s1.toks) (fun b u e => Heap.get?_push_of_some _ e) (Nat.le_refl _)
    ⟨Heap.get?_push_size _ rfl, z, us, r, ⟨_, Heap.get?_push_size _ rfl, rfl, _, rfl⟩⟩
  exact ⟨.ref s1.heap.objs.size, _, I2, rfl, q _ _ (I1.hok.fresh (Nat.le_refl _)) rfl⟩
theorem ct_new {Q : VK} {ds : List D} {us : List V} (m : MemOk G W H M) (h : PR G W H (PV G Q) E (.ok (.ct ds) M)) (r : RpL G W H ds us) : ∀ (q : Addr) (o : Obj), H q = none → o.dict = none → Q (.ref q) (upd H q (.frz o (.tup us))) := fun q o hq ho =>
  h W _ (Fut.laid hq) (m.laid hq) _ ⟨q, us, rfl, ⟨o, upd_same, ho⟩, m.rpL (Fut.laid hq) r⟩
def mTupC (g : FA) : FE := fun env M => (g env M).bind fun ds m => if ds.length ≤ 16777216 then .ok (.ct ds) m else .no
theorem sn_tupC {es : List Expr} {g : FA} {k : Nat} (h : PA X es (tA G E g)) : PE X (.Tuple es k pos) (tE G E (mTupC g)) := pe_imp (pe_tupC h) fun σ H Q ⟨W, env, M, s, p⟩ => by
  refine tA.bind s p fun ds m2 W2 H2 us f2 s2 r2 p2 => ?_
  split at p2
  · rename_i hz
    exact ⟨by rw [r2.len, line_eq]; exact hz, ct_new s2.mem p2 r2⟩
  · exact p2.elim
theorem mTupC_eq (g : FA) {env : Fn.Env} : mTupC g env M = (g env M).bind fun ds m => if ds.length ≤ 16777216 then .ok (.ct ds) m else .no := rfl
end
end Fn
set_option Elab.async false
set_option linter.all false
set_option maxRecDepth 100000
set_option maxHeartbeats 2000000
namespace DcT
open PySem PySem.Spec PyProof.Rows L2
theorem put {X : Cx} {pins : List (Addr × Obj)} {σ : L2.St} {H : Hp} {s : Shared} {E : Value → Shared → Prop} {D b : Addr} {kvs : List (List Key × V)} {k : List Key} {v : V} {r : Value} {Q : Unit → Shared → Prop} (hu : X.A.units < cLine) (I : Inv X pins σ H s) (hD : H D = some (.dT kvs))
    (hz : kvs.length < sizeLine) (eb : H b = some (.tup (k.map kV))) (rv : RelV v r) (go : ∀ s', Inv X pins σ (upd H D (.dT (putK kvs k v))) s' → Q () s') : wpAny (model X.prog X.w) X.A (dictSet D (.ref b) r) Q E s := by
  obtain ⟨z, hd, xs, rel, dd⟩ := dt_of I.hok hD
  have hlen := length_putK kvs k v
  refine wpAny_dictSet_heap (hsz := by rw [← Paired.length rel]; exact z) (show (tupleKind (mixKind X.prog X.w)).room X.A from hu) (key_of I.hok eb) dd fun h' dd' hs => go _ ?_
  obtain ⟨q, es, ep, e1, e2, e3, e4, _, e5⟩ := dd'
  refine d_write I (by rw [hD]; trivial) hs ⟨q, e1⟩ ⟨by omega, hd, _, (rel.put k eb rv).keeps fun c ys ec => ?_, q, es, ep, e1, e2, e3, e4, e5⟩
  exact (upd_ne (ne_of ec hD (fun z => nomatch z))).trans ec
section
variable {X : Cx}
def tDcT (wi : TI) (g : TG) (tt : TT) (tk tv : TE) (vs : List Nat) : TE := fun σ H Q => wi σ H fun J H1 => ∀ D, H1 D = none → ∃ W : Nat → Nat → Hp → Prop, (∃ m, W 0 m (upd H1 D (.dT []))) ∧ ∀ i m H, W i m H → (J.stop i H ∧ Q (.ref D) H) ∨
  (J.go i H ∧ ∃ Nx : Hp → Prop, (∀ H', Nx H' → ∃ m', m' < m ∧ W (i + 1) m' H') ∧ ∀ x H', J.yld i H x H' → g x (wipe σ vs) H' fun σ2 H2 => wipe σ2 vs = wipe σ vs ∧ tt σ2 H2 fun b H3 =>
    if b = true then tk σ2 H3 fun y H4 => tv σ2 H4 fun z H5 => ∃ kvs k a, y = .ref a ∧ H5 a = some (.tup (k.map kV)) ∧ H5 D = some (.dT kvs) ∧ kvs.length < sizeLine ∧ Nx (upd H5 D (.dT (putK kvs k z))) else Nx H3)
theorem run {pins : List (Addr × Obj)} {s : Shared} {σ : L2.St} {H : Hp} {Q : VK} {kx vx tg iter : Expr} {ifs : List Expr} {scope : Scope} {own : List (Str × Nat)} {pos pos' : Pos} {wi : TI} {g : TG} {tt : TT} {tk tv : TE} {use : Option (Value → Sem Unit)} {Qf : Value → Shared → Prop} (hu : X.A.units < cLine) (hc : X.calm = true) (hN : X.N.Nodup) (I : Inv X pins σ H s) (hi : PI X tg iter wi) (ok : BlkOk X.N X.env.scope scope own)
    (hg : ∀ (s : Shared) (H : Hp) (C : Addr) (cl : List (Str × Addr)) (fp : List Addr), PG (X.blk s H scope (compEnvC scope cl C X.env) fp) tg g) (ht : ∀ (s : Shared) (H : Hp) (C : Addr) (cl : List (Str × Addr)) (fp : List Addr), PTs (X.blk s H scope (compEnvC scope cl C X.env) fp) ifs tt) (hk : ∀ (s : Shared) (H : Hp) (C : Addr) (cl : List (Str × Addr)) (fp : List Addr), PE (X.blk s H scope (compEnvC scope cl C X.env) fp) kx tk)
    (he : ∀ (s : Shared) (H : Hp) (C : Addr) (cl : List (Str × Addr)) (fp : List Addr), PE (X.blk s H scope (compEnvC scope cl C X.env) fp) vx tv) (hs : ∀ x, foldedSetIterable iter X.env x = pure x) (h : tDcT wi g tt tk tv (own.map (·.2)) σ H Q)
    (hR : ∀ D C s' m H', Inv X pins σ H' s' → Q (.ref D) H' → s'.heap.Ns C m → FpOk X pins H' C → compPost (model X.prog X.w) X.A X.xe use Qf (.ref D) C (.ok .next) s') :
    wpAny (model X.prog X.w) X.A (comprehension (.DictComp kx vx [⟨tg, iter, ifs, 0⟩] scope pos) scope X.env pos' newDict false (eval iter X.env) use) Qf X.xe s := by
  have hfree : ∀ y ∈ scope.names, y.2 = .free → ∃ c, X.env.cells.lookup y.1 = some c := fun y hy e => (ok.free y hy e).elim (fun k => I.ok.has _ (.inl k)) fun k => I.ok.has _ (.inr k)
  refine wpAny_comprehension_free (use := use) rfl hs (closure_ok hfree) ok.kind (fun y hy e => by rw [ok.uniq y hy, e]) (thn (hi.run pins s σ H _ I h) fun xv s1 hx => thn hx fun itv s2 h2 => ?_)
  obtain ⟨it, fp, tn, J, Hb, rfl, Ib, T, stb, fb, q⟩ := h2
  refine wpAny_newObj_type (newEnv_comp ?_)
  generalize hD : s2.heap.objs.size = D
  have frD : Hb D = none := Ib.hok.fresh (by rw [← hD]; exact Nat.le_refl _)
  obtain ⟨W, ⟨m0, w0⟩, turn⟩ := q D frD
  generalize hsd : ({ s2 with heap := s2.heap.push { cls := .type "dict", data := .dict #[] } } : Shared) = sd
  have Id : Inv X pins σ (upd Hb D (.dT [])) sd := by
    subst hsd hD
    exact Ib.laid (t' := s2.toks) (fun b o e => Heap.get?_push_of_some _ e) (Nat.le_refl _) (dt_empty s2.heap Ib.big)
  have eqd : sd.heap = s2.heap.push { cls := .type "dict", data := .dict #[] } := by rw [← hsd]
  have below : ∀ b ∈ fp, b < s2.heap.objs.size := fun b hb => let ⟨o, e, _⟩ := T.obj _ _ stb b hb; Heap.lt_size e
  have fd : ∀ b ∈ fp, FpOk X pins (upd Hb D (.dT [])) b ∧ b < sd.heap.objs.size := fun b hb => by
    have hlt := below b hb
    have hne : b ≠ D := by rw [← hD]; exact Nat.ne_of_lt hlt
    exact ⟨⟨(upd_ne hne).trans (fb b hb).1, (fb b hb).2⟩, by rw [eqd, Heap.size_push]; exact Nat.lt_succ_of_lt hlt⟩
  have std : tn 0 sd.heap := T.keep _ _ _ stb fun b _ o e => by rw [eqd]; exact Heap.get?_push_of_some _ e
  have Ie := block_start Id ok hN fd
  have P1 := hg sd (upd Hb D (.dT [])) sd.heap.objs.size (cellsFrom (sd.heap.objs.size + 1) scope.names (cloFrom X.env.cells scope.names [])) fp
  have P2 := ht sd (upd Hb D (.dT [])) sd.heap.objs.size (cellsFrom (sd.heap.objs.size + 1) scope.names (cloFrom X.env.cells scope.names [])) fp
  have P3 := hk sd (upd Hb D (.dT [])) sd.heap.objs.size (cellsFrom (sd.heap.objs.size + 1) scope.names (cloFrom X.env.cells scope.names [])) fp
  have P4 := he sd (upd Hb D (.dT [])) sd.heap.objs.size (cellsFrom (sd.heap.objs.size + 1) scope.names (cloFrom X.env.cells scope.names [])) fp
  show codeAny _ _ (.compStart (.DictComp kx vx [⟨tg, iter, ifs, 0⟩] scope pos) 0 (.ref it) (.ref D) (compEnvC scope (cellsFrom (sd.heap.objs.size + 1) scope.names (cloFrom X.env.cells scope.names [])) sd.heap.objs.size X.env)) (compPost (model X.prog X.w) X.A X.xe use Qf (.ref D) sd.heap.objs.size) _
  have nfp : ∀ b ∈ fp, (upd Hb D (.dT [])) b = none := fun b hb => (fd b hb).1.1
  generalize hce : compEnvC scope (cellsFrom (sd.heap.objs.size + 1) scope.names (cloFrom X.env.cells scope.names [])) sd.heap.objs.size X.env = ce at Ie P1 P2 P3 P4 ⊢
  have cL : ce.locals = sd.heap.objs.size := by rw [← hce]; rfl
  generalize hHd : upd Hb D (.dT []) = Hd at Id Ie P1 P2 P3 P4 w0 nfp fd
  generalize hse : ({ sd with heap := pushCells (sd.heap.push { cls := .type "dict", data := .dict #[] }) scope.names } : Shared) = se at Ie ⊢
  have ste : tn 0 se.heap := T.keep _ _ _ std fun b _ o e => by rw [← hse]; exact pushCells_keeps _ _ _ _ (Heap.get?_push_of_some _ e)
  have stat : ∀ {σ' : L2.St} {H' : Hp} {s' : Shared}, Inv (X.blk sd Hd scope ce fp) [] σ' H' s' → (∀ b ∈ fp, H' b = none) → ∀ b ∈ fp, FpOk (X.blk sd Hd scope ce fp) [] H' b := fun {σ' H' s'} I' hn b hb =>
    ⟨hn b hb, (I'.ok.exf b hb).1, I'.ok.exfs b hb, .inl hb, fun x c e => (I'.ok.exf b hb).2 x c e, fun p hp => by simp [Cx.blk] at hp⟩
  refine codeAny_compStart_dict (?_ : codeAny (model X.prog X.w) X.A (.compLoop (.DictComp kx vx [⟨tg, iter, ifs, 0⟩] scope pos) 0 (.ref it) (.ref D) ce) (compPost (model X.prog X.w) X.A X.xe use Qf (.ref D) sd.heap.objs.size) se) ?_
  all_goals
    have loop : codeAny (model X.prog X.w) X.A (.compLoop (.DictComp kx vx [⟨tg, iter, ifs, 0⟩] scope pos) 0 (.ref it) (.ref D) ce) (compPost (model X.prog X.w) X.A X.xe use Qf (.ref D) sd.heap.objs.size) se := by
      refine compLoop_anyD (fun n s' => ∃ i H', Inv (X.blk sd Hd scope ce fp) [] (wipe σ (own.map (·.2))) H' s' ∧ tn i s'.heap ∧ (∀ b ∈ fp, H' b = none) ∧ W i n H') ?_ m0 ⟨0, Hd, Ie, ste, nfp, w0⟩
      rintro n t5 ⟨i, H5, I5, st5, n5, w5⟩
      rcases turn i n H5 w5 with ⟨stop, qq⟩ | ⟨go, Nx, hNx, step⟩
      · refine thnF (T.done (X.blk sd Hd scope ce fp) rfl rfl rfl hc i [] t5 _ H5 (fun _ _ => False) I5 (stat I5 n5) st5 stop) ?_
        rintro r t6 ⟨rfl, I6⟩
        have Iz : Inv X pins σ H5 t6 := Id.call' (ch := fp) I6.os I6.base I6.hok I6.bare fun b hb => let z := (fd b hb).1.2; ⟨z.2.2.1, z.1, z.2.2.2.1, z.2.2.2.2⟩
        obtain ⟨m, hn, _⟩ := I6.loc
        have nC : H5 sd.heap.objs.size = none := cL ▸ (show H5 ce.locals = none from I6.free)
        exact hR D sd.heap.objs.size t6 m H5 Iz qq (cL ▸ (show t6.heap.Ns ce.locals m from hn)) (Id.fpOk (Nat.le_refl _) nC)
      · refine thnF (T.item (X.blk sd Hd scope ce fp) rfl rfl rfl hc i [] t5 _ H5 (fun _ _ => False) I5 (stat I5 n5) st5 go) ?_
        rintro r t6 ⟨u, rfl, h6⟩
        refine thnF h6 ?_
        rintro _ t7 ⟨x, H7, I7, r7, y7, st7, n7⟩
        refine thnF (P1.run _ t7 _ H7 x u _ (I7.pinned (stat I7 n7) (T.obj _ _ st7)) r7 (step x H7 y7)) ?_
        rintro _ t8 ⟨σ8, H8, I8, hw8, q8⟩
        refine thnF (P2.run _ t8 σ8 H8 _ I8 q8) ?_
        rintro b t9 ⟨H9, I9, q9⟩
        have fin : ∀ {s' : Shared} {H' : Hp}, Inv (X.blk sd Hd scope ce fp) ([] ++ pinsAt fp t7.heap) σ8 H' s' → Nx H' → ∃ m, m < n ∧ ∃ i H', Inv (X.blk sd Hd scope ce fp) [] (wipe σ (own.map (·.2))) H' s' ∧ tn i s'.heap ∧ (∀ b ∈ fp, H' b = none) ∧ W i m H' := fun {s' H'} I' nx => by
          obtain ⟨m', hm, w'⟩ := hNx H' nx
          have pn : ∀ b ∈ fp, ∀ o, t7.heap.get? b = some o → s'.heap.get? b = some o ∧ H' b = none := fun b hb o e => let z := I'.pin (b, o) (List.mem_append_right _ (List.mem_append_right _ (mem_pinsAt hb e))); ⟨z.1, z.2.1⟩
          refine ⟨m', hm, i + 1, H', (I'.unpinned (pins := [])).weak (by rw [← hw8, wipe_length]) (fun j v e => (wipe_some (hw8.symm ▸ e)).1), T.keep _ _ _ st7 fun b hb o e => (pn b hb o e).1, fun b hb => ?_, w'⟩
          obtain ⟨o, e, _⟩ := T.obj _ _ st7 b hb
          exact (pn b hb o e).2
        cases b with
        | false => exact fin I9 (by simpa using q9)
        | true =>
          have q9' := if_pos (c := true = true) rfl ▸ q9
          simp only [if_true] at q9 ⊢
          refine thnF (P3.run _ t9 σ8 H9 _ I9 q9) ?_
          rintro z t10 ⟨yk, Ha, Ia, ra, qa⟩
          refine thnF (P4.run _ t10 σ8 Ha _ Ia qa) ?_
          rintro z2 t11 ⟨yv, Hv, Iv, rv, kvs, k, a, rfl, ea, hDv, hzv, nx⟩
          obtain rfl : z = Value.ref a := by first | exact ra | (cases ra; rfl)
          exact put (X := X.blk sd Hd scope ce fp) hu Iv hDv hzv ea rv fun t12 I12 => fin I12 nx
    first | exact loop | exact T.self X.A 0 _ _ _ ste loop
end
end DcT
namespace Fn
open PySem PySem.Spec PyProof.Rows L2 DcT
end Fn
set_option Elab.async false
set_option linter.all false
set_option maxRecDepth 100000
set_option maxHeartbeats 1000000
namespace Fn
open PySem PySem.Spec PyProof.Rows L2
end Fn
set_option Elab.async false
set_option linter.all false
set_option maxRecDepth 100000
set_option maxHeartbeats 1000000
namespace Fn
open PySem PySem.Spec PyProof.Rows L2 L2.DX
end Fn
set_option Elab.async false
set_option linter.all false
set_option maxRecDepth 100000
set_option maxHeartbeats 2000000
namespace Fn
open PySem PySem.Spec PyProof.Rows L2 PySem.Froz L2.DX
end Fn
set_option Elab.async false
set_option linter.all false
set_option maxRecDepth 100000
set_option maxHeartbeats 2000000
namespace Fn
open PySem PySem.Spec PyProof.Rows L2 PySem.Froz L2.DX
end Fn
set_option Elab.async false
set_option linter.all false
set_option maxRecDepth 100000
set_option maxHeartbeats 2000000
namespace Fn
open PySem PySem.Spec PyProof.Rows L2
end Fn
set_option Elab.async false
set_option linter.all false
set_option maxRecDepth 100000
set_option maxHeartbeats 1000000
namespace Fn
open PySem PySem.Spec PyProof.Rows L2
end Fn
set_option Elab.async false
set_option linter.all false
set_option maxRecDepth 100000
set_option maxHeartbeats 4000000
namespace K39
open PySem PySem.Spec PyProof.Rows L2 Fn
def topS (i : Nat) : Stmt := PySem.Challenge.pw_grantchain_k39_the_first_answer_stays.main.body.getD i (.Pass ⟨0, 0, 0, 0⟩)
abbrev s_root_numbers : Stmt := topS 7
theorem sc_root_numbers : FnScope ["plan", "found", "many", "place", "rights", "far", "holder", "parent", "house"] ["plan"] (defScope s_root_numbers) := ⟨rfl, rfl, rfl, by decide +kernel, rfl, by decide +kernel, by decide +kernel⟩
/-- root_numbers(plan); slots: 0 plan, 1 found, 2 many, 3 place, 4 rights, 5 far, 6 holder, 7 parent, 8 house -/
noncomputable def L_root_numbers_0 : FS := (mSeq (mSet 8 (mOp oIxA (mVar 3) (mC (.int 0)))) (mSeq (mExpr (mMeth "list" oAppend (mVar 1) (aCons (mMeth "dict" oGetM (mVar 2) (aCons (mVar 8) (aCons (mC (.int 0)) aNil))) aNil))) (mAsg (mOp (oAdd false) (mMeth "dict" oGetM (mVar 2) (aCons (mVar 8) (aCons (mC (.int 0)) aNil))) (mC (.int 1))) (gIxA (mVar 2) (mVar 8)))))
noncomputable def B_root_numbers : FS := (mSeq (mPar 1 2 (aCons (mLst true aNil) (aCons mDNewK aNil))) (mSeq (mFor (iSq (mOp oIxA (mVar 0) (mC (.int 1)))) (gT 5 (gsCons (gN 3) (gsCons (gN 4) (gsCons (gN 5) (gsCons (gN 6) (gsCons (gN 7) gsNil)))))) L_root_numbers_0) (mRet (mVar 1))))
noncomputable def g_root_numbers : FD := gcB B_root_numbers 9
abbrev s_Table___init__ : Stmt := inClass (topS 12) 0
theorem sc_Table___init__ : FnScope ["self"] ["self"] (defScope s_Table___init__) := ⟨rfl, rfl, rfl, by decide +kernel, rfl, by decide +kernel, by decide +kernel⟩
/-- Table.__init__(self); slots: 0 self -/
noncomputable def B_Table___init__ : FS := (mSeq (mFldSet 0 "used" (mVar 0) (mLst true aNil)) (mSeq (mFldSet 0 "there" (mVar 0) mDNewK) (mFldSet 0 "known" (mVar 0) mDNewT)))
noncomputable def g_Table___init__ : FD := runB B_Table___init__ 1
abbrev s_Table_free_place : Stmt := inClass (topS 12) 2
theorem sc_Table_free_place : FnScope ["self", "place"] ["self"] (defScope s_Table_free_place) := ⟨rfl, rfl, rfl, by decide +kernel, rfl, by decide +kernel, by decide +kernel⟩
/-- Table.free_place(self); slots: 0 self, 1 place -/
noncomputable def T_Table_free_place_0 : FT := (bOf (mOp (oInA false) (mVar 1) (mFld 0 "there" (mVar 0))))
noncomputable def L_Table_free_place_1 : FS := (mAug 1 (oI fun i j => .int (i + j)) (mC (.int 1)))
noncomputable def B_Table_free_place : FS := (mSeq (mSet 1 (mC (.int 0))) (mSeq (mWhile T_Table_free_place_0 L_Table_free_place_1) (mRet (mVar 1))))
noncomputable def g_Table_free_place : FD := runB B_Table_free_place 2
abbrev s_Table_leads : Stmt := inClass (topS 12) 4
theorem sc_Table_leads : FnScope ["self", "handle", "place", "turn"] ["self", "handle"] (defScope s_Table_leads) := ⟨rfl, rfl, rfl, by decide +kernel, rfl, by decide +kernel, by decide +kernel⟩
/-- Table.leads(self, handle); slots: 0 self, 1 handle, 2 place, 3 turn -/
noncomputable def B_Table_leads : FS := (mSeq (mAsg (mVar 1) (gT 2 (gsCons (gN 2) (gsCons (gN 3) gsNil)))) (mSeq (mIfS (tOrM (bOf (mOp (oInA true) (mVar 2) (mFld 0 "there" (mVar 0)))) (bOf (mOp (oEq true) (mOp oIxA (mOp oIxA (mFld 0 "there" (mVar 0)) (mVar 2)) (mC (.int 0))) (mVar 3)))) (mRet (mC .non)) mPass) (mRet (mOp oIxA (mOp oIxA (mFld 0 "there" (mVar 0)) (mVar 2)) (mC (.int 1))))))
noncomputable def g_Table_leads : FD := runB B_Table_leads 4
abbrev s_Table_handles : Stmt := inClass (topS 12) 6
theorem sc_Table_handles : FnScope ["self", "place", "turn", "thing"] ["self"] (defScope s_Table_handles) := ⟨rfl, rfl, rfl, by decide +kernel, rfl, by decide +kernel, by decide +kernel⟩
/-- Table.handles(self); slots: 0 self, 1 place, 2 turn, 3 thing -/
noncomputable def C_Table_handles_0 : FE := (mTup (aCons (mVar 1) (aCons (mVar 2) aNil)))
noncomputable def B_Table_handles : FS := (mRet (mCall (oSorted false) (aCons (mLockE (mFld 0 "there" (mVar 0)) (mLc false [1, 2, 3] (iItemsA (mFld 0 "there" (mVar 0))) (gT 2 (gsCons (gN 1) (gsCons (gT 2 (gsCons (gN 2) (gsCons (gN 3) gsNil))) gsNil))) tsYes C_Table_handles_0)) aNil)))
noncomputable def g_Table_handles : FD := runB B_Table_handles 4
abbrev s_ever : Stmt := topS 19
theorem sc_ever : FnScope ["rows", "being", "row"] ["rows", "being"] (defScope s_ever) := ⟨rfl, rfl, rfl, by decide +kernel, rfl, by decide +kernel, by decide +kernel⟩
/-- ever(rows, being); slots: 0 rows, 1 being, 2 row -/
noncomputable def T_ever_0 : FT := (tAndM (bOf (mOp (oEq false) (mOp oIx (mVar 2) (mC (.int 0))) (mC (.str [112, 117, 116])))) (bOf (mOp (oEq false) (mOp oIx (mVar 2) (mC (.int 2))) (mVar 1))))
noncomputable def C_ever_1 : FE := (mTup (aCons (mOp oIx (mVar 2) (mC (.int 3))) (aCons (mOp oIx (mVar 2) (mC (.int 4))) aNil)))
noncomputable def B_ever : FS := (mRet (mLc false [2] (iSq (mVar 0)) (gN 2) T_ever_0 C_ever_1))
noncomputable def g_ever : FD := runB B_ever 3
abbrev s_asks : Stmt := topS 20
theorem sc_asks : FnScope ["rows", "found", "word", "tick", "parts", "count"] ["rows"] (defScope s_asks) := ⟨rfl, rfl, rfl, by decide +kernel, rfl, by decide +kernel, by decide +kernel⟩
/-- asks(rows); slots: 0 rows, 1 found, 2 word, 3 tick, 4 parts, 5 count -/
noncomputable def L_asks_0 : FS := (mSeq (mIfS (bOf (mOp (oEq false) (mVar 2) (mC (.str [97, 115, 107])))) (mAsg (mTup (aCons (mVar 3) (aCons (mOp oIxA (mVar 4) (mC (.int 1))) (aCons (mC .non) aNil)))) (gIxA (mVar 1) (mOp oIxA (mVar 4) (mC (.int 0))))) mPass) (mIfS (bOf (mOp (oEq false) (mVar 2) (mC (.str [97, 110, 115, 119, 101, 114])))) (mAsg (mOp (oAdd false) (mSl false (mOp oIxA (mVar 1) (mOp oIxA (mVar 4) (mC (.int 0)))) pNone (pSome (mC (.int 2)))) (mTup (aCons (mOp oIxA (mVar 4) (mC (.int 1))) aNil))) (gIxA (mVar 1) (mOp oIxA (mVar 4) (mC (.int 0))))) mPass))
noncomputable def C_asks_1 : FE := (mOp oIxA (mVar 1) (mVar 5))
noncomputable def C_asks_2 : FE := (mVar 5)
noncomputable def B_asks : FS := (mSeq (mSet 1 mDNewK) (mSeq (mFor (iSq (mVar 0)) (gS 3 2 (gsCons (gN 2) (gsCons (gN 3) (gsCons (gN 4) gsNil)))) L_asks_0) (mRet (mDc [5] (iSq (mCall (oSortS false) (aCons (mVar 1) aNil))) (gN 5) tsYes C_asks_2 C_asks_1))))
noncomputable def g_asks : FD := runB B_asks 6
abbrev s_beings : Stmt := topS 33
theorem sc_beings : FnScope ["plan", "found", "name", "persons", "servants", "things", "one", "servant"] ["plan"] (defScope s_beings) := ⟨rfl, rfl, rfl, by decide +kernel, rfl, by decide +kernel, by decide +kernel⟩
/-- beings(plan); slots: 0 plan, 1 found, 2 name, 3 persons, 4 servants, 5 things, 6 one, 7 servant -/
noncomputable def C_beings_0 : FE := (mOp oIx (mVar 7) (mC (.int 0)))
noncomputable def C_beings_1 : FE := (mTup (aCons (mVar 2) (aCons (mVar 6) aNil)))
noncomputable def L_beings_2 : FS := (mExpr (mMeth "list" oExtend (mVar 1) (aCons (mLc false [6] (iSq (mOp (oAdd false) (mCall (oList false) (aCons (mVar 3) aNil)) (mLc false [7] (iSq (mVar 4)) (gN 7) tsYes C_beings_0))) (gN 6) tsYes C_beings_1) aNil)))
noncomputable def B_beings : FS := (mSeq (mSet 1 (mLst true aNil)) (mSeq (mFor (iSq (mOp oIx (mVar 0) (mC (.int 0)))) (gT 4 (gsCons (gN 2) (gsCons (gN 3) (gsCons (gN 4) (gsCons (gN 5) gsNil))))) L_beings_2) (mRet (mCall oTuple (aCons (mVar 1) aNil)))))
noncomputable def g_beings : FD := gcB B_beings 8
abbrev s_servant_at : Stmt := topS 34
theorem sc_servant_at : FnScope ["plan", "place", "name", "persons", "servants", "things", "servant"] ["plan", "place"] (defScope s_servant_at) := ⟨rfl, rfl, rfl, by decide +kernel, rfl, by decide +kernel, by decide +kernel⟩
/-- servant_at(plan, place); slots: 0 plan, 1 place, 2 name, 3 persons, 4 servants, 5 things, 6 servant -/
noncomputable def L_servant_at_0 : FS := (mIfS (bOf (mOp (oEq false) (mTup (aCons (mVar 2) (aCons (mOp oIx (mVar 6) (mC (.int 0))) aNil))) (mVar 1))) (mRet (mVar 6)) mPass)
noncomputable def L_servant_at_1 : FS := (mFor (iSq (mVar 4)) (gN 6) L_servant_at_0)
noncomputable def B_servant_at : FS := (mSeq (mFor (iSq (mOp oIx (mVar 0) (mC (.int 0)))) (gT 4 (gsCons (gN 2) (gsCons (gN 3) (gsCons (gN 4) (gsCons (gN 5) gsNil))))) L_servant_at_1) (mRet (mC .non)))
noncomputable def g_servant_at : FD := runB B_servant_at 7
abbrev s_Stone___init__ : Stmt := inClass (topS 43) 0
theorem sc_Stone___init__ : FnScope ["self", "rows"] ["self", "rows"] (defScope s_Stone___init__) := ⟨rfl, rfl, rfl, by decide +kernel, rfl, by decide +kernel, by decide +kernel⟩
/-- Stone.__init__(self, rows); slots: 0 self, 1 rows -/
noncomputable def B_Stone___init__ : FS := (mSeq (mFldSet 2 "written" (mVar 0) (mCall (oList true) (aCons (mVar 1) aNil))) (mFldSet 2 "firm" (mVar 0) (mCall oLen (aCons (mFld 2 "written" (mVar 0)) aNil))))
noncomputable def g_Stone___init__ : FD := runB B_Stone___init__ 2
abbrev s_Stone_write : Stmt := inClass (topS 43) 2
theorem sc_Stone_write : FnScope ["self", "row"] ["self", "row"] (defScope s_Stone_write) := ⟨rfl, rfl, rfl, by decide +kernel, rfl, by decide +kernel, by decide +kernel⟩
/-- Stone.write(self, row); slots: 0 self, 1 row -/
noncomputable def B_Stone_write : FS := (mExpr (mMeth "list" oAppend (mFld 2 "written" (mVar 0)) (aCons (mVar 1) aNil)))
noncomputable def g_Stone_write : FD := runB B_Stone_write 2
abbrev s_Stone_settle : Stmt := inClass (topS 43) 3
theorem sc_Stone_settle : FnScope ["self"] ["self"] (defScope s_Stone_settle) := ⟨rfl, rfl, rfl, by decide +kernel, rfl, by decide +kernel, by decide +kernel⟩
/-- Stone.settle(self); slots: 0 self -/
noncomputable def B_Stone_settle : FS := (mFldSet 2 "firm" (mVar 0) (mCall oLen (aCons (mFld 2 "written" (mVar 0)) aNil)))
noncomputable def g_Stone_settle : FD := runB B_Stone_settle 1
abbrev s_Stone_rows : Stmt := inClass (topS 43) 6
theorem sc_Stone_rows : FnScope ["self"] ["self"] (defScope s_Stone_rows) := ⟨rfl, rfl, rfl, by decide +kernel, rfl, by decide +kernel, by decide +kernel⟩
/-- Stone.rows(self); slots: 0 self -/
noncomputable def B_Stone_rows : FS := (mRet (mCall oTuple (aCons (mFld 2 "written" (mVar 0)) aNil)))
noncomputable def g_Stone_rows : FD := runB B_Stone_rows 1
abbrev s_law_cell : Stmt := topS 52
theorem sc_law_cell : FnScope ["_law_script", "_law_k", "_law_number"] ["_law_script", "_law_k"] (defScope s_law_cell) := ⟨rfl, rfl, rfl, by decide +kernel, rfl, by decide +kernel, by decide +kernel⟩
/-- _law_cell(_law_script, _law_k); slots: 0 _law_script, 1 _law_k, 2 _law_number -/
noncomputable def B_law_cell : FS := (mSeq (mIfS (bOf (mOp oLt (mVar 1) (mCall oLen (aCons (mVar 0) aNil)))) (mRet (mOp oIx (mVar 0) (mVar 1))) mPass) (mSeq (mSet 2 (mOp (oAdd false) (mOp (oMul false) (mVar 1) (mC (.int 7919))) (mC (.int 5)))) (mSeq (mIfS (bOf (mOp oGt (mCall oLen (aCons (mVar 0) aNil)) (mC (.int 0)))) (mSet 2 (mOp (oAdd false) (mOp (oMul false) (mOp oMod (mOp oIx (mVar 0) (mOp oMod (mOp (oMul false) (mVar 1) (mC (.int 7))) (mCall oLen (aCons (mVar 0) aNil)))) (mC (.int 2147483629))) (mC (.int 48271))) (mOp (oMul false) (mVar 1) (mC (.int 7919))))) mPass) (mRet (mOp (oMul false) (mOp oMod (mVar 2) (mC (.int 2147483647))) (mC (.int 31)))))))
noncomputable def g_law_cell : FD := runB B_law_cell 3
abbrev s_law_draw : Stmt := topS 54
theorem sc_law_draw : FnScope ["_law_flow_here", "_law_many", "_law_digit"] ["_law_flow_here", "_law_many"] (defScope s_law_draw) := ⟨rfl, rfl, rfl, by decide +kernel, rfl, by decide +kernel, by decide +kernel⟩
/-- _law_draw(_law_flow_here, _law_many); slots: 0 _law_flow_here, 1 _law_many, 2 _law_digit -/
noncomputable def B_law_draw : FS := (mSeq (mIfS (bOf (mOp oGt (mOp oIx (mVar 0) (mC (.int 0))) (mC (.int 0)))) (mSeq (mSet 2 (mOp oMod (mOp oIx (mVar 0) (mC (.int 0))) (mVar 1))) (mSeq (mAsg (mOp oDiv (mOp oIx (mVar 0) (mC (.int 0))) (mVar 1)) (gIx (mVar 0) (mC (.int 0)))) (mRet (mVar 2)))) mPass) (mSeq (mAsg (mOp (oAdd false) (mOp oIx (mVar 0) (mC (.int 1))) (mC (.int 1))) (gIx (mVar 0) (mC (.int 1)))) (mSeq (mAsg (mOp oMod (mOp (oAdd false) (mOp (oAdd false) (mOp (oMul false) (mOp oIx (mVar 0) (mC (.int 2))) (mC (.int 48271))) (mC (.int 12820163))) (mOp oIx (mVar 0) (mC (.int 1)))) (mC (.int 2147483647))) (gIx (mVar 0) (mC (.int 2)))) (mRet (mOp oMod (mOp oDiv (mOp oIx (mVar 0) (mC (.int 2))) (mC (.int 31))) (mVar 1))))))
noncomputable def g_law_draw : FD := runB B_law_draw 3
abbrev s_law_handles : Stmt := topS 56
theorem sc_law_handles : FnScope ["_law_rows", "_law_being", "_law_used", "_law_now", "_law_row", "_law_spot"] ["_law_rows", "_law_being"] (defScope s_law_handles) := ⟨rfl, rfl, rfl, by decide +kernel, rfl, by decide +kernel, by decide +kernel⟩
/-- _law_handles(_law_rows, _law_being); slots: 0 _law_rows, 1 _law_being, 2 _law_used, 3 _law_now, 4 _law_row, 5 _law_spot -/
noncomputable def T_law_handles_0 : FT := (bOf (mOp (oInA false) (mVar 5) (mVar 3)))
noncomputable def L_law_handles_1 : FS := (mSet 5 (mOp (oAdd false) (mVar 5) (mC (.int 1))))
noncomputable def L_law_handles_2 : FS := (mSeq (mIfS (tAndM (bOf (mOp (oEq false) (mOp oIxA (mVar 4) (mC (.int 0))) (mC (.str [112, 117, 116])))) (bOf (mOp (oEq false) (mOp oIxA (mVar 4) (mC (.int 2))) (mVar 1)))) (mSeq (mSet 5 (mC (.int 0))) (mSeq (mWhile T_law_handles_0 L_law_handles_1) (mSeq (mAsg (mOp (oAdd false) (mTup (aCons (mTup (aCons (mVar 5) (aCons (mMeth "dict" oGetM (mVar 2) (aCons (mVar 5) (aCons (mC (.int 0)) aNil))) aNil))) aNil)) (mSl false (mVar 4) (pSome (mC (.int 3))) (pSome (mC (.int 8))))) (gIxA (mVar 3) (mVar 5))) (mAsg (mOp (oAdd false) (mMeth "dict" oGetM (mVar 2) (aCons (mVar 5) (aCons (mC (.int 0)) aNil))) (mC (.int 1))) (gIxA (mVar 2) (mVar 5)))))) mPass) (mIfS (tAndM (bOf (mOp (oEq false) (mOp oIxA (mVar 4) (mC (.int 0))) (mC (.str [100, 114, 111, 112])))) (bOf (mOp (oEq false) (mOp oIxA (mVar 4) (mC (.int 2))) (mVar 1)))) (mExpr (mMeth "dict" oPopE (mVar 3) (aCons (mOp oIxA (mVar 4) (mC (.int 3))) aNil))) mPass))
noncomputable def C_law_handles_3 : FE := (mOp oIxA (mVar 3) (mVar 5))
noncomputable def B_law_handles : FS := (mSeq (mAsg (mTup (aCons mDNewK (aCons mDNewK aNil))) (gT 2 (gsCons (gN 2) (gsCons (gN 3) gsNil)))) (mSeq (mFor (iSq (mVar 0)) (gN 4) L_law_handles_2) (mRet (mLc false [5] (iSq (mCall (oSorted false) (aCons (mCall (oListA false) (aCons (mVar 3) aNil)) aNil))) (gN 5) tsYes C_law_handles_3))))
noncomputable def g_law_handles : FD := gcB B_law_handles 6
abbrev s_Table_put : Stmt := inClass (topS 12) 3
theorem sc_Table_put : FnScope ["self", "house", "number", "thing", "place", "turn"] ["self", "house", "number"] (defScope s_Table_put) := ⟨rfl, rfl, rfl, by decide +kernel, rfl, by decide +kernel, by decide +kernel⟩
/-- Table.put(self, house, number); slots: 0 self, 1 house, 2 number, 3 thing, 4 place, 5 turn -/
noncomputable def B_Table_put : FS := (mSeq (mSet 3 (mTup (aCons (mVar 1) (aCons (mVar 2) aNil)))) (mSeq (mIfS (bOf (mOp (oInA false) (mVar 3) (mFld 0 "known" (mVar 0)))) (mRet (mC .non)) mPass) (mSeq (mAsg (mC (.bl true)) (gIxA (mFld 0 "known" (mVar 0)) (mVar 3))) (mSeq (mSet 4 (mMth 0 "free_place" 1 g_Table_free_place [] (mVar 0) aNil)) (mSeq (mIfS (bOf (mOp (oEq false) (mVar 4) (mCall oLenA (aCons (mFld 0 "used" (mVar 0)) aNil)))) (mExpr (mMeth "list" oAppend (mFld 0 "used" (mVar 0)) (aCons (mC (.int 0)) aNil))) mPass) (mSeq (mSet 5 (mOp oIxA (mFld 0 "used" (mVar 0)) (mVar 4))) (mSeq (mAugIx (oI fun i j => .int (i + j)) (mFld 0 "used" (mVar 0)) (mVar 4) (mC (.int 1))) (mSeq (mAsg (mTup (aCons (mVar 5) (aCons (mVar 3) aNil))) (gIxA (mFld 0 "there" (mVar 0)) (mVar 4))) (mRet (mTup (aCons (mVar 4) (aCons (mVar 5) aNil))))))))))))
noncomputable def g_Table_put : FD := runB B_Table_put 6
abbrev s_Table_drop : Stmt := inClass (topS 12) 5
theorem sc_Table_drop : FnScope ["self", "handle"] ["self", "handle"] (defScope s_Table_drop) := ⟨rfl, rfl, rfl, by decide +kernel, rfl, by decide +kernel, by decide +kernel⟩
/-- Table.drop(self, handle); slots: 0 self, 1 handle -/
noncomputable def B_Table_drop : FS := (mSeq (mIfS (bOf (mUn (oIsN false) (mMth 0 "leads" 2 g_Table_leads [] (mVar 0) (aCons (mVar 1) aNil)))) (mRet (mC (.bl false))) mPass) (mSeq (mExpr (mMeth "dict" oPopE (mFld 0 "there" (mVar 0)) (aCons (mOp oIxA (mVar 1) (mC (.int 0))) aNil))) (mRet (mC (.bl true)))))
noncomputable def g_Table_drop : FD := runB B_Table_drop 2
abbrev s_put_row : Stmt := topS 29
theorem sc_put_row : FnScope ["rows", "tick", "house", "what", "word", "ask", "number", "place", "rights", "far", "holder"] ["rows", "tick", "house", "what"] (defScope s_put_row) := ⟨rfl, rfl, rfl, by decide +kernel, rfl, by decide +kernel, by decide +kernel⟩
/-- put_row(rows, tick, house, what); slots: 0 rows, 1 tick, 2 house, 3 what, 4 word, 5 ask, 6 number, 7 place, 8 rights, 9 far, 10 holder -/
noncomputable def B_put_row : FS := (mSeq (mAsg (mVar 3) (gT 7 (gsCons (gN 4) (gsCons (gN 5) (gsCons (gN 6) (gsCons (gN 7) (gsCons (gN 8) (gsCons (gN 9) (gsCons (gN 10) gsNil))))))))) (mSeq (mIfS (bOf (mOp (oInD false) (mTup (aCons (mVar 2) (aCons (mVar 6) aNil))) (mFun 2 g_ever [] (aCons (mVar 0) (aCons (mVar 10) aNil))))) (mRet (mC .non)) mPass) (mRet (mTup (aCons (mC (.str [112, 117, 116])) (aCons (mVar 1) (aCons (mVar 10) (aCons (mVar 2) (aCons (mVar 6) (aCons (mVar 7) (aCons (mVar 8) (aCons (mVar 9) (aCons (mVar 5) aNil)))))))))))))
noncomputable def g_put_row : FD := runB B_put_row 11
abbrev s_first_rows : Stmt := topS 49
theorem sc_first_rows : FnScope ["plan", "house", "numbers", "roots", "found", "at", "place", "rights", "far", "holder", "parent", "above"] ["plan", "house"] (defScope s_first_rows) := ⟨rfl, rfl, rfl, by decide +kernel, rfl, by decide +kernel, by decide +kernel⟩
/-- first_rows(plan, house); slots: 0 plan, 1 house, 2 numbers, 3 roots, 4 found, 5 at, 6 place, 7 rights, 8 far, 9 holder, 10 parent, 11 above -/
noncomputable def L_first_rows_0 : FS := (mSeq (mSet 11 (mIf (bOf (mUn (oIsN false) (mVar 10))) (mC .non) (mOp oIx (mVar 2) (mVar 10)))) (mSeq (mIfS (bOf (mOp (oEq false) (mOp oIx (mVar 6) (mC (.int 0))) (mVar 1))) (mExpr (mMeth "list" oAppend (mVar 3) (aCons (mTup (aCons (mC (.str [114, 111, 111, 116])) (aCons (mC (.int 0)) (aCons (mOp oIx (mVar 2) (mVar 5)) (aCons (mVar 6) (aCons (mVar 7) (aCons (mVar 8) (aCons (mVar 9) (aCons (mVar 11) aNil))))))))) aNil))) mPass) (mIfS (bOf (mOp (oEq false) (mOp oIx (mVar 9) (mC (.int 0))) (mVar 1))) (mExpr (mMeth "list" oAppend (mVar 4) (aCons (mTup (aCons (mC (.str [112, 117, 116])) (aCons (mC (.int 0)) (aCons (mVar 9) (aCons (mOp oIx (mVar 6) (mC (.int 0))) (aCons (mOp oIx (mVar 2) (mVar 5)) (aCons (mVar 6) (aCons (mVar 7) (aCons (mVar 8) (aCons (mC .non) aNil)))))))))) aNil))) mPass)))
noncomputable def B_first_rows : FS := (mSeq (mSet 2 (mFun 1 g_root_numbers [] (aCons (mVar 0) aNil))) (mSeq (mPar 3 4 (aCons (mLst true aNil) (aCons (mLst true aNil) aNil))) (mSeq (mFor (iEnumX (mOp oIx (mVar 0) (mC (.int 1)))) (gT 2 (gsCons (gN 5) (gsCons (gT 5 (gsCons (gN 6) (gsCons (gN 7) (gsCons (gN 8) (gsCons (gN 9) (gsCons (gN 10) gsNil)))))) gsNil))) L_first_rows_0) (mRet (mOp (oAdd false) (mVar 3) (mVar 4))))))
noncomputable def g_first_rows : FD := gcB B_first_rows 12
abbrev s_Kernel_rows : Stmt := inClass (topS 50) 1
theorem sc_Kernel_rows : FnScope ["self"] ["self"] (defScope s_Kernel_rows) := ⟨rfl, rfl, rfl, by decide +kernel, rfl, by decide +kernel, by decide +kernel⟩
/-- Kernel.rows(self); slots: 0 self -/
noncomputable def B_Kernel_rows : FS := (mRet (mMth 2 "rows" 1 g_Stone_rows [] (mFld 3 "stone" (mVar 0)) aNil))
noncomputable def g_Kernel_rows : FD := runB B_Kernel_rows 1
abbrev s_Kernel_wrote : Stmt := inClass (topS 50) 6
theorem sc_Kernel_wrote : FnScope ["self", "row"] ["self", "row"] (defScope s_Kernel_wrote) := ⟨rfl, rfl, rfl, by decide +kernel, rfl, by decide +kernel, by decide +kernel⟩
/-- Kernel.wrote(self, row); slots: 0 self, 1 row -/
noncomputable def B_Kernel_wrote : FS := (mSeq (mExpr (mMth 2 "write" 2 g_Stone_write [] (mFld 3 "stone" (mVar 0)) (aCons (mVar 1) aNil))) (mExpr (mMth 2 "settle" 1 g_Stone_settle [] (mFld 3 "stone" (mVar 0)) aNil)))
noncomputable def g_Kernel_wrote : FD := runB B_Kernel_wrote 2
abbrev s_Kernel_answer : Stmt := inClass (topS 50) 18
theorem sc_Kernel_answer : FnScope ["self", "count", "found"] ["self", "count"] (defScope s_Kernel_answer) := ⟨rfl, rfl, rfl, by decide +kernel, rfl, by decide +kernel, by decide +kernel⟩
/-- Kernel.answer(self, count); slots: 0 self, 1 count, 2 found -/
noncomputable def B_Kernel_answer : FS := (mSeq (mExpr (mMth 2 "settle" 1 g_Stone_settle [] (mFld 3 "stone" (mVar 0)) aNil)) (mSeq (mSet 2 (mFun 1 g_asks [] (aCons (mMth 2 "rows" 1 g_Stone_rows [] (mFld 3 "stone" (mVar 0)) aNil) aNil))) (mRet (mIf (bOf (mOp (oInA false) (mVar 1) (mVar 2))) (mOp oIxA (mOp oIxA (mVar 2) (mVar 1)) (mC (.int 2))) (mC .non)))))
noncomputable def g_Kernel_answer : FD := runB B_Kernel_answer 3
abbrev s_law_flow : Stmt := topS 53
theorem sc_law_flow : FnScope ["_law_script", "_law_k", "_law_cell_here"] ["_law_script", "_law_k"] (defScope s_law_flow) := ⟨rfl, rfl, rfl, by decide +kernel, rfl, by decide +kernel, by decide +kernel⟩
/-- _law_flow(_law_script, _law_k); slots: 0 _law_script, 1 _law_k, 2 _law_cell_here -/
noncomputable def B_law_flow : FS := (mSeq (mSet 2 (mCall oAbs (aCons (mFun 2 g_law_cell [] (aCons (mVar 0) (aCons (mVar 1) aNil))) aNil))) (mRet (mLst true (aCons (mOp (oMul false) (mVar 2) (mCall oInt (aCons (mOp oGe (mVar 2) (mOp oPow (mC (.int 10)) (mC (.int 18)))) aNil))) (aCons (mC (.int 0)) (aCons (mOp (oAdd false) (mOp oMod (mVar 2) (mC (.int 2147483629))) (mOp (oMul false) (mC (.int 40692)) (mVar 1))) aNil))))))
noncomputable def g_law_flow : FD := runB B_law_flow 3
abbrev s_law_names : Stmt := topS 55
theorem sc_law_names : FnScope ["_law_flow_here", "_law_many", "_law_some", "_law_word", "_law_j", "_law_at", "_law_first", "_law_longer", "_law_found", "_law_k", "_law_name"] ["_law_flow_here", "_law_many"] (defScope s_law_names) := ⟨rfl, rfl, rfl, by decide +kernel, rfl, by decide +kernel, by decide +kernel⟩
/-- _law_names(_law_flow_here, _law_many); slots: 0 _law_flow_here, 1 _law_many, 2 _law_some, 3 _law_word, 4 _law_j, 5 _law_at, 6 _law_first, 7 _law_longer, 8 _law_found, 9 _law_k, 10 _law_name -/
noncomputable def C_law_names_0 : FE := (mOp oIx (mVar 2) (mFun 2 g_law_draw [] (aCons (mVar 0) (aCons (mC (.int 26)) aNil))))
noncomputable def L_law_names_1 : FS := (mSeq (mSet 10 (mOp (oAdd false) (mOp (oAdd false) (mSl false (mVar 3) pNone (pSome (mVar 5))) (mOp oIx (mVar 2) (mOp oMod (mOp (oAdd false) (mVar 6) (mOp (oMul false) (mC (.int 7)) (mVar 9))) (mC (.int 26))))) (mSl false (mVar 3) (pSome (mVar 5)) pNone))) (mSeq (mIfS (bOf (mOp oGt (mOp (oMul false) (mVar 7) (mOp oMod (mVar 9) (mC (.int 2)))) (mC (.int 0)))) (mSet 10 (mOp (oAdd false) (mSl false (mOp oIx (mVar 8) (mUn oNeg (mC (.int 1)))) pNone (pSome (mCall oLen (aCons (mVar 10) aNil)))) (mOp oIx (mVar 2) (mOp oMod (mOp (oAdd false) (mVar 6) (mOp (oMul false) (mC (.int 7)) (mVar 9))) (mC (.int 26)))))) mPass) (mExpr (mMeth "list" oAppend (mVar 8) (aCons (mVar 10) aNil)))))
noncomputable def B_law_names : FS := (mSeq (mSet 2 (mC (.str [97, 98, 99, 100, 101, 102, 103, 104, 105, 106, 107, 108, 109, 110, 111, 112, 113, 114, 115, 116, 117, 118, 119, 120, 121, 122]))) (mSeq (mSet 3 (mMeth "str" oJoin (mC (.str [])) (aCons (mLc false [4] (iR1 (aCons (mFun 2 g_law_draw [] (aCons (mVar 0) (aCons (mC (.int 5)) aNil))) aNil)) (gN 4) tsYes C_law_names_0) aNil))) (mSeq (mPar3 5 6 7 (aCons (mFun 2 g_law_draw [] (aCons (mVar 0) (aCons (mOp (oAdd false) (mCall oLen (aCons (mVar 3) aNil)) (mC (.int 1))) aNil))) (aCons (mFun 2 g_law_draw [] (aCons (mVar 0) (aCons (mC (.int 26)) aNil))) (aCons (mFun 2 g_law_draw [] (aCons (mVar 0) (aCons (mC (.int 2)) aNil))) aNil)))) (mSeq (mSet 8 (mLst true aNil)) (mSeq (mFor (iR1 (aCons (mVar 1) aNil)) (gN 9) L_law_names_1) (mRet (mVar 8)))))))
noncomputable def g_law_names : FD := gcB B_law_names 11
abbrev s_law_reply : Stmt := topS 57
theorem sc_law_reply : FnScope ["_law_flow_here", "_law_what", "_law_ask", "_law_lots", "_law_names_here", "_law_fate", "_law_some", "_law_told", "_law_found"] ["_law_flow_here", "_law_what", "_law_ask", "_law_lots"] (defScope s_law_reply) := ⟨rfl, rfl, rfl, by decide +kernel, rfl, by decide +kernel, by decide +kernel⟩
/-- _law_reply(_law_flow_here, _law_what, _law_ask, _law_lots); slots: 0 _law_flow_here, 1 _law_what, 2 _law_ask, 3 _law_lots, 4 _law_names_here, 5 _law_fate, 6 _law_some, 7 _law_told, 8 _law_found -/
noncomputable def B_law_reply : FS := (mSeq (mAsg (mVar 3) (gT 2 (gsCons (gN 4) (gsCons (gN 5) gsNil)))) (mSeq (mIfS (bOf (mOp (oEq false) (mOp oIx (mVar 1) (mC (.int 0))) (mC (.str [104, 97, 110, 100])))) (mSeq (mSet 6 (mLst false (aCons (mTup (aCons (mTup (aCons (mC (.str [110, 111])) (aCons (mVar 2) (aCons (mC (.str [119, 97, 121])) aNil)))) (aCons (mTup (aCons (mC (.str [110, 111])) (aCons (mC (.str [119, 97, 121])) aNil))) aNil))) (aCons (mTup (aCons (mTup (aCons (mC (.str [110, 111])) (aCons (mVar 2) (aCons (mC (.str [103, 111, 110, 101])) aNil)))) (aCons (mTup (aCons (mC (.str [110, 111])) (aCons (mC (.str [103, 111, 110, 101])) aNil))) aNil))) aNil)))) (mSeq (mSet 7 (mTup (aCons (mTup (aCons (mC (.str [116, 97, 107, 101, 110])) (aCons (mVar 2) (aCons (mOp oIx (mVar 4) (mC (.int 0))) (aCons (mOp (oAdd false) (mC (.int 1)) (mOp oIx (mVar 2) (mC (.int 1)))) aNil))))) (aCons (mTup (aCons (mC (.str [116, 97, 107, 101, 110])) (aCons (mOp oIx (mVar 4) (mC (.int 0))) (aCons (mOp (oAdd false) (mC (.int 1)) (mOp oIx (mVar 2) (mC (.int 1)))) aNil)))) aNil)))) (mSeq (mIfS (tAndM (bOf (mOp oGt (mVar 5) (mC (.int 0)))) (bOf (mOp (oEq false) (mFun 2 g_law_draw [] (aCons (mVar 0) (aCons (mC (.int 3)) aNil))) (mC (.int 0))))) (mRet (mTup (aCons (mTup (aCons (mC (.str [111, 112, 101, 110])) (aCons (mVar 2) aNil))) (aCons (mC .non) aNil)))) mPass) (mRet (mOp oIx (mOp (oAdd false) (mVar 6) (mLst false (aCons (mVar 7) (aCons (mVar 7) aNil)))) (mVar 5)))))) mPass) (mSeq (mIfS (bOf (mOp (oEq false) (mOp oIx (mVar 1) (mC (.int 0))) (mC (.str [99, 117, 116])))) (mRet (mOp oIx (mLst false (aCons (mTup (aCons (mTup (aCons (mC (.str [103, 111, 110, 101])) (aCons (mVar 2) aNil))) (aCons (mTup (aCons (mC (.str [103, 111, 110, 101])) aNil)) aNil))) (aCons (mTup (aCons (mTup (aCons (mC (.str [110, 111])) (aCons (mVar 2) (aCons (mC (.str [111, 119, 110])) aNil)))) (aCons (mTup (aCons (mC (.str [110, 111])) (aCons (mC (.str [111, 119, 110])) aNil))) aNil))) aNil))) (mOp oMod (mVar 5) (mC (.int 2))))) mPass) (mSeq (mIfS (bOf (mOp (oEq false) (mOp oIx (mOp oIx (mVar 1) (mC (.int 3))) (mC (.int 1))) (mOp oIx (mVar 4) (mC (.int 7))))) (mRet (mOp oIx (mLst false (aCons (mTup (aCons (mTup (aCons (mC (.str [100, 111, 110, 101])) (aCons (mVar 2) aNil))) (aCons (mTup (aCons (mC (.str [100, 111, 110, 101])) aNil)) aNil))) (aCons (mTup (aCons (mTup (aCons (mC (.str [110, 111])) (aCons (mVar 2) (aCons (mC (.str [111, 119, 110])) aNil)))) (aCons (mTup (aCons (mC (.str [110, 111])) (aCons (mC (.str [111, 119, 110])) aNil))) aNil))) aNil))) (mOp oMod (mVar 5) (mC (.int 2))))) mPass) (mSeq (mSet 8 (mTup (aCons (mC (.str [102, 111, 117, 110, 100])) (aCons (mVar 2) (aCons (mOp (oAdd false) (mC (.int 4)) (mOp oIx (mVar 2) (mC (.int 1)))) (aCons (mTup (aCons (mOp oIx (mVar 4) (mC (.int 1))) (aCons (mOp oIx (mVar 4) (mC (.int 5))) aNil))) (aCons (mTup (aCons (mOp oIx (mVar 4) (mC (.int 6))) aNil)) (aCons (mC (.int 0)) aNil)))))))) (mRet (mOp oIx (mLst false (aCons (mTup (aCons (mVar 8) (aCons (mTup (aCons (mC (.str [102, 111, 117, 110, 100])) (aCons (mOp oIx (mVar 4) (mC (.int 1))) (aCons (mOp (oAdd false) (mC (.int 4)) (mOp oIx (mVar 2) (mC (.int 1)))) aNil)))) aNil))) (aCons (mTup (aCons (mTup (aCons (mC (.str [110, 111])) (aCons (mVar 2) (aCons (mC (.str [115, 104, 101, 108, 102])) aNil)))) (aCons (mTup (aCons (mC (.str [110, 111])) (aCons (mC (.str [115, 104, 101, 108, 102])) aNil))) aNil))) aNil))) (mOp oDiv (mVar 5) (mC (.int 3))))))))))
noncomputable def g_law_reply : FD := runB B_law_reply 9
abbrev s_replayed : Stmt := topS 16
theorem sc_replayed : FnScope ["rows", "being", "found", "things", "word", "tick", "parts", "handle"] ["rows", "being"] (defScope s_replayed) := ⟨rfl, rfl, rfl, by decide +kernel, rfl, by decide +kernel, by decide +kernel⟩
/-- replayed(rows, being); slots: 0 rows, 1 being, 2 found, 3 things, 4 word, 5 tick, 6 parts, 7 handle -/
noncomputable def L_replayed_0 : FS := (mIfS (bOf (mOp (oEq false) (mOp oIxA (mVar 7) (mC (.int 0))) (mOp oIxA (mVar 6) (mC (.int 1))))) (mExpr (mMth 0 "drop" 2 g_Table_drop [] (mVar 2) (aCons (mVar 7) aNil))) mPass)
noncomputable def L_replayed_1 : FS := (mSeq (mIfS (tAndM (bOf (mOp (oEq false) (mVar 4) (mC (.str [112, 117, 116])))) (bOf (mOp (oEq false) (mOp oIxA (mVar 6) (mC (.int 0))) (mVar 1)))) (mSeq (mExpr (mMth 0 "put" 3 g_Table_put [] (mVar 2) (aCons (mOp oIxA (mVar 6) (mC (.int 1))) (aCons (mOp oIxA (mVar 6) (mC (.int 2))) aNil)))) (mAsg (mCall oTuple (aCons (mSl false (mVar 6) (pSome (mC (.int 3))) (pSome (mC (.int 6)))) aNil)) (gIxA (mVar 3) (mTup (aCons (mOp oIxA (mVar 6) (mC (.int 1))) (aCons (mOp oIxA (mVar 6) (mC (.int 2))) aNil)))))) mPass) (mIfS (tAndM (bOf (mOp (oEq false) (mVar 4) (mC (.str [100, 114, 111, 112])))) (bOf (mOp (oEq false) (mOp oIxA (mVar 6) (mC (.int 0))) (mVar 1)))) (mFor (iSq (mMth 0 "handles" 1 g_Table_handles [] (mVar 2) aNil)) (gN 7) L_replayed_0) mPass))
noncomputable def B_replayed : FS := (mSeq (mPar 2 3 (aCons (mMake 0 1 g_Table___init__ [] aNil) (aCons mDNewT aNil))) (mSeq (mFor (iSq (mVar 0)) (gS 3 2 (gsCons (gN 4) (gsCons (gN 5) (gsCons (gN 6) gsNil)))) L_replayed_1) (mRet (mTup (aCons (mVar 2) (aCons (mVar 3) aNil))))))
noncomputable def g_replayed : FD := runB B_replayed 8
abbrev s_Kernel___init__ : Stmt := inClass (topS 50) 0
theorem sc_Kernel___init__ : FnScope ["self", "plan", "house", "lease", "again"] ["self", "plan", "house", "lease", "again"] (defScope s_Kernel___init__) := ⟨rfl, rfl, rfl, by decide +kernel, rfl, by decide +kernel, by decide +kernel⟩
/-- Kernel.__init__(self, plan, house, lease, again); slots: 0 self, 1 plan, 2 house, 3 lease, 4 again -/
noncomputable def B_Kernel___init__ : FS := (mSeq (mFldSet 3 "plan" (mVar 0) (mVar 1)) (mSeq (mFldSet 3 "house" (mVar 0) (mVar 2)) (mSeq (mFldSet 3 "lease" (mVar 0) (mVar 3)) (mSeq (mFldSet 3 "every" (mVar 0) (mVar 4)) (mSeq (mFldSet 3 "stone" (mVar 0) (mMake 2 2 g_Stone___init__ [] (aCons (mFun 2 g_first_rows [] (aCons (mVar 1) (aCons (mVar 2) aNil))) aNil))) (mSeq (mFldSet 3 "letters" (mVar 0) (mLst true aNil)) (mSeq (mFldSet 3 "kept" (mVar 0) mDNewT) (mFldSet 3 "opened" (mVar 0) mDNewK))))))))
noncomputable def g_Kernel___init__ : FD := runB B_Kernel___init__ 5
abbrev s_Kernel_asked : Stmt := inClass (topS 50) 14
theorem sc_Kernel_asked : FnScope ["self", "tick", "what", "count"] ["self", "tick", "what"] (defScope s_Kernel_asked) := ⟨rfl, rfl, rfl, by decide +kernel, rfl, by decide +kernel, by decide +kernel⟩
/-- Kernel.asked(self, tick, what); slots: 0 self, 1 tick, 2 what, 3 count -/
noncomputable def B_Kernel_asked : FS := (mSeq (mSet 3 (mCall oLenA (aCons (mFun 1 g_asks [] (aCons (mMth 2 "rows" 1 g_Stone_rows [] (mFld 3 "stone" (mVar 0)) aNil) aNil)) aNil))) (mSeq (mExpr (mMth 3 "wrote" 2 g_Kernel_wrote [] (mVar 0) (aCons (mTup (aCons (mC (.str [97, 115, 107])) (aCons (mVar 1) (aCons (mVar 3) (aCons (mVar 2) aNil))))) aNil))) (mRet (mVar 3))))
noncomputable def g_Kernel_asked : FD := runB B_Kernel_asked 4
abbrev s_Kernel_take_said : Stmt := inClass (topS 50) 23
theorem sc_Kernel_take_said : FnScope ["self", "sender", "what", "tick", "word", "house", "count", "more", "rows", "found", "answer", "row"] ["self", "sender", "what", "tick"] (defScope s_Kernel_take_said) := ⟨rfl, rfl, rfl, by decide +kernel, rfl, by decide +kernel, by decide +kernel⟩
/-- Kernel.take_said(self, sender, what, tick); slots: 0 self, 1 sender, 2 what, 3 tick, 4 word, 5 house, 6 count, 7 more, 8 rows, 9 found, 10 answer, 11 row -/
noncomputable def B_Kernel_take_said : FS := (mSeq (mAsg (mVar 2) (gS 3 2 (gsCons (gN 4) (gsCons (gT 2 (gsCons (gN 5) (gsCons (gN 6) gsNil))) (gsCons (gN 7) gsNil))))) (mSeq (mSet 8 (mMth 2 "rows" 1 g_Stone_rows [] (mFld 3 "stone" (mVar 0)) aNil)) (mSeq (mSet 9 (mFun 1 g_asks [] (aCons (mVar 8) aNil))) (mSeq (mIfS (tOrM (bOf (mOp (oInA true) (mVar 6) (mVar 9))) (bOf (mUn (oIsN true) (mOp oIxA (mOp oIxA (mVar 9) (mVar 6)) (mC (.int 2)))))) mRetN mPass) (mSeq (mIfS (bOf (mOp (oEq false) (mVar 4) (mC (.str [111, 112, 101, 110])))) (mSeq (mAsg (mMeth "dict" oGetM (mFld 3 "opened" (mVar 0)) (aCons (mVar 6) (aCons (mVar 3) aNil))) (gIxA (mFld 3 "opened" (mVar 0)) (mVar 6))) mRetN) mPass) (mSeq (mSet 10 (mOp (oAdd false) (mTup (aCons (mVar 4) aNil)) (mCall oTuple (aCons (mVar 7) aNil)))) (mSeq (mIfS (bOf (mOp (oEq false) (mVar 4) (mC (.str [102, 111, 117, 110, 100])))) (mSeq (mSet 11 (mFun 4 g_put_row [] (aCons (mVar 8) (aCons (mVar 3) (aCons (mVar 1) (aCons (mOp (oAdd false) (mVar 2) (mTup (aCons (mOp oIxA (mOp oIxA (mOp oIxA (mVar 9) (mVar 6)) (mC (.int 1))) (mC (.int 1))) aNil))) aNil)))))) (mSeq (mIfS (bOf (mUn (oIsN true) (mVar 11))) (mExpr (mMth 2 "write" 2 g_Stone_write [] (mFld 3 "stone" (mVar 0)) (aCons (mVar 11) aNil))) mPass) (mSet 10 (mTup (aCons (mC (.str [102, 111, 117, 110, 100])) (aCons (mVar 1) (aCons (mOp oIxA (mVar 7) (mC (.int 0))) aNil))))))) mPass) (mExpr (mMth 2 "write" 2 g_Stone_write [] (mFld 3 "stone" (mVar 0)) (aCons (mTup (aCons (mC (.str [97, 110, 115, 119, 101, 114])) (aCons (mVar 3) (aCons (mVar 6) (aCons (mVar 10) aNil))))) aNil))))))))))
noncomputable def g_Kernel_take_said : FD := runB B_Kernel_take_said 12
abbrev s_table : Stmt := topS 17
theorem sc_table : FnScope ["rows", "being", "found", "things", "handle"] ["rows", "being"] (defScope s_table) := ⟨rfl, rfl, rfl, by decide +kernel, rfl, by decide +kernel, by decide +kernel⟩
/-- table(rows, being); slots: 0 rows, 1 being, 2 found, 3 things, 4 handle -/
noncomputable def C_table_0 : FE := (mOp (oAdd false) (mOp (oAdd false) (mTup (aCons (mVar 4) aNil)) (mMth 0 "leads" 2 g_Table_leads [] (mVar 2) (aCons (mVar 4) aNil))) (mOp oIxA (mVar 3) (mMth 0 "leads" 2 g_Table_leads [] (mVar 2) (aCons (mVar 4) aNil))))
noncomputable def B_table : FS := (mSeq (mAsg (mFun 2 g_replayed [] (aCons (mVar 0) (aCons (mVar 1) aNil))) (gT 2 (gsCons (gN 2) (gsCons (gN 3) gsNil)))) (mRet (mLc false [4] (iSq (mMth 0 "handles" 1 g_Table_handles [] (mVar 2) aNil)) (gN 4) tsYes C_table_0)))
noncomputable def g_table : FD := gcB B_table 5
abbrev s_Kernel_take : Stmt := inClass (topS 50) 21
theorem sc_Kernel_take : FnScope ["self", "sender", "what", "tick", "grant"] ["self", "sender", "what", "tick"] (defScope s_Kernel_take) := ⟨rfl, rfl, rfl, by decide +kernel, rfl, by decide +kernel, by decide +kernel⟩
/-- Kernel.take(self, sender, what, tick); slots: 0 self, 1 sender, 2 what, 3 tick, 4 grant -/
noncomputable def B_Kernel_take : FS := (mIfS (bOf (mOp (oInF false) (mOp oIx (mVar 2) (mC (.int 0))) (mTup (aCons (mC (.str [111, 102, 102, 101, 114])) (aCons (mC (.str [109, 97, 107, 101])) (aCons (mC (.str [99, 117, 116])) (aCons (mC (.str [99, 97, 108, 108])) (aCons (mC (.str [103, 105, 118, 101, 110])) (aCons (mC (.str [119, 97, 110, 116])) aNil))))))))) mDeadS (mIfS (bOf (mOp (oEq false) (mOp oIx (mVar 2) (mC (.int 0))) (mC (.str [119, 97, 114, 114, 97, 110, 116])))) (mSeq mDeadS mDeadS) (mExpr (mMth 3 "take_said" 4 g_Kernel_take_said [] (mVar 0) (aCons (mVar 1) (aCons (mVar 2) (aCons (mVar 3) aNil)))))))
noncomputable def g_Kernel_take : FD := runB B_Kernel_take 5
abbrev s_Kernel_led : Stmt := inClass (topS 50) 7
theorem sc_Kernel_led : FnScope ["self", "person", "handle", "row"] ["self", "person", "handle"] (defScope s_Kernel_led) := ⟨rfl, rfl, rfl, by decide +kernel, rfl, by decide +kernel, by decide +kernel⟩
/-- Kernel.led(self, person, handle); slots: 0 self, 1 person, 2 handle, 3 row -/
noncomputable def L_Kernel_led_0 : FS := (mIfS (bOf (mOp (oEq false) (mOp oIx (mVar 3) (mC (.int 0))) (mVar 2))) (mRet (mVar 3)) mPass)
noncomputable def B_Kernel_led : FS := (mSeq (mExpr (mMth 2 "settle" 1 g_Stone_settle [] (mFld 3 "stone" (mVar 0)) aNil)) (mSeq (mFor (iSq (mFun 2 g_table [] (aCons (mMth 2 "rows" 1 g_Stone_rows [] (mFld 3 "stone" (mVar 0)) aNil) (aCons (mTup (aCons (mFld 3 "house" (mVar 0)) (aCons (mVar 1) aNil))) aNil)))) (gN 3) L_Kernel_led_0) mDeadS))
noncomputable def g_Kernel_led : FD := runB B_Kernel_led 4
abbrev s_Kernel_table : Stmt := inClass (topS 50) 8
theorem sc_Kernel_table : FnScope ["self", "person"] ["self", "person"] (defScope s_Kernel_table) := ⟨rfl, rfl, rfl, by decide +kernel, rfl, by decide +kernel, by decide +kernel⟩
/-- Kernel.table(self, person); slots: 0 self, 1 person -/
noncomputable def B_Kernel_table : FS := (mSeq (mExpr (mMth 2 "settle" 1 g_Stone_settle [] (mFld 3 "stone" (mVar 0)) aNil)) (mRet (mFun 2 g_table [] (aCons (mMth 2 "rows" 1 g_Stone_rows [] (mFld 3 "stone" (mVar 0)) aNil) (aCons (mTup (aCons (mFld 3 "house" (mVar 0)) (aCons (mVar 1) aNil))) aNil)))))
noncomputable def g_Kernel_table : FD := runB B_Kernel_table 2
abbrev s_Kernel_hand : Stmt := inClass (topS 50) 15
theorem sc_Kernel_hand : FnScope ["self", "person", "handle", "way", "rights", "far", "tick", "found", "house", "number", "place", "own", "most", "other", "away", "road", "receiver", "ways", "length", "right"] ["self", "person", "handle", "way", "rights", "far", "tick"] (defScope s_Kernel_hand) := ⟨rfl, rfl, rfl, by decide +kernel, rfl, by decide +kernel, by decide +kernel⟩
/-- Kernel.hand(self, person, handle, way, rights, far, tick); slots: 0 self, 1 person, 2 handle, 3 way, 4 rights, 5 far, 6 tick, 7 found, 8 house, 9 number, 10 place, 11 own, 12 most, 13 other, 14 away, 15 road, 16 receiver, 17 ways, 18 length, 19 right -/
noncomputable def L_Kernel_hand_0 : FS := (mIfS (bOf (mOp (oInF true) (mVar 19) (mVar 11))) mDeadS mPass)
noncomputable def B_Kernel_hand : FS := (mSeq (mAsg (mMth 3 "led" 3 g_Kernel_led [] (mVar 0) (aCons (mVar 1) (aCons (mVar 2) aNil))) (gT 6 (gsCons (gN 7) (gsCons (gN 8) (gsCons (gN 9) (gsCons (gN 10) (gsCons (gN 11) (gsCons (gN 12) gsNil)))))))) (mSeq (mAsg (mMth 3 "led" 3 g_Kernel_led [] (mVar 0) (aCons (mVar 1) (aCons (mVar 3) aNil))) (gT 6 (gsCons (gN 13) (gsCons (gN 14) (gsCons (gN 15) (gsCons (gN 16) (gsCons (gN 17) (gsCons (gN 18) gsNil)))))))) (mSeq (mIfS (tOrM (bOf (mOp (oInF true) (mC (.str [103, 105, 118, 101])) (mVar 17))) (bOf (mOp (oInD true) (mVar 16) (mFun 1 g_beings [] (aCons (mFld 3 "plan" (mVar 0)) aNil))))) mDeadS mPass) (mSeq (mFor (iSq (mVar 4)) (gN 19) L_Kernel_hand_0) (mSeq (mIfS (bOf (mOp oGe (mVar 5) (mVar 12))) mDeadS mPass) (mRet (mMth 3 "asked" 3 g_Kernel_asked [] (mVar 0) (aCons (mVar 6) (aCons (mTup (aCons (mC (.str [104, 97, 110, 100])) (aCons (mTup (aCons (mFld 3 "house" (mVar 0)) (aCons (mVar 1) aNil))) (aCons (mVar 8) (aCons (mVar 9) (aCons (mVar 4) (aCons (mVar 5) (aCons (mVar 15) (aCons (mVar 16) aNil))))))))) aNil)))))))))
noncomputable def g_Kernel_hand : FD := runB B_Kernel_hand 20
abbrev s_Kernel_cut : Stmt := inClass (topS 50) 16
theorem sc_Kernel_cut : FnScope ["self", "person", "own", "number", "tick", "found", "house", "link", "place", "rights", "far"] ["self", "person", "own", "number", "tick"] (defScope s_Kernel_cut) := ⟨rfl, rfl, rfl, by decide +kernel, rfl, by decide +kernel, by decide +kernel⟩
/-- Kernel.cut(self, person, own, number, tick); slots: 0 self, 1 person, 2 own, 3 number, 4 tick, 5 found, 6 house, 7 link, 8 place, 9 rights, 10 far -/
noncomputable def B_Kernel_cut : FS := (mSeq (mAsg (mMth 3 "led" 3 g_Kernel_led [] (mVar 0) (aCons (mVar 1) (aCons (mVar 2) aNil))) (gT 6 (gsCons (gN 5) (gsCons (gN 6) (gsCons (gN 7) (gsCons (gN 8) (gsCons (gN 9) (gsCons (gN 10) gsNil)))))))) (mRet (mMth 3 "asked" 3 g_Kernel_asked [] (mVar 0) (aCons (mVar 4) (aCons (mTup (aCons (mC (.str [99, 117, 116])) (aCons (mTup (aCons (mFld 3 "house" (mVar 0)) (aCons (mVar 1) aNil))) (aCons (mVar 6) (aCons (mVar 7) (aCons (mVar 3) aNil)))))) aNil)))))
noncomputable def g_Kernel_cut : FD := runB B_Kernel_cut 11
abbrev s_Kernel_call : Stmt := inClass (topS 50) 17
theorem sc_Kernel_call : FnScope ["self", "person", "way", "word", "what", "tick", "found", "house", "number", "place", "rights", "far"] ["self", "person", "way", "word", "what", "tick"] (defScope s_Kernel_call) := ⟨rfl, rfl, rfl, by decide +kernel, rfl, by decide +kernel, by decide +kernel⟩
/-- Kernel.call(self, person, way, word, what, tick); slots: 0 self, 1 person, 2 way, 3 word, 4 what, 5 tick, 6 found, 7 house, 8 number, 9 place, 10 rights, 11 far -/
noncomputable def B_Kernel_call : FS := (mSeq (mAsg (mMth 3 "led" 3 g_Kernel_led [] (mVar 0) (aCons (mVar 1) (aCons (mVar 2) aNil))) (gT 6 (gsCons (gN 6) (gsCons (gN 7) (gsCons (gN 8) (gsCons (gN 9) (gsCons (gN 10) (gsCons (gN 11) gsNil)))))))) (mSeq (mIfS (tOrM (bOf (mOp (oInF true) (mC (.str [99, 97, 108, 108])) (mVar 10))) (bOf (mUn (oIsN false) (mFun 2 g_servant_at [] (aCons (mFld 3 "plan" (mVar 0)) (aCons (mVar 9) aNil)))))) mDeadS mPass) (mRet (mMth 3 "asked" 3 g_Kernel_asked [] (mVar 0) (aCons (mVar 5) (aCons (mTup (aCons (mC (.str [99, 97, 108, 108])) (aCons (mTup (aCons (mFld 3 "house" (mVar 0)) (aCons (mVar 1) aNil))) (aCons (mVar 8) (aCons (mVar 9) (aCons (mVar 3) (aCons (mVar 4) aNil))))))) aNil))))))
noncomputable def g_Kernel_call : FD := runB B_Kernel_call 12
abbrev s_law_said_right : Stmt := topS 58
theorem sc_law_said_right : FnScope ["_law_kernel", "_law_holder", "_law_row", "_law_lots", "_law_sender", "_law_reply_here", "_law_answer", "_law_tick", "_law_rows", "_law_more", "_law_known", "_law_lain", "_law_one", "_law_own"] ["_law_kernel", "_law_holder", "_law_row", "_law_lots"] (defScope s_law_said_right) := ⟨rfl, rfl, rfl, by decide +kernel, rfl, by decide +kernel, by decide +kernel⟩
/-- _law_said_right(_law_kernel, _law_holder, _law_row, _law_lots); slots: 0 _law_kernel, 1 _law_holder, 2 _law_row, 3 _law_lots, 4 _law_sender, 5 _law_reply_here, 6 _law_answer, 7 _law_tick, 8 _law_rows, 9 _law_more, 10 _law_known, 11 _law_lain, 12 _law_one, 13 _law_own -/
noncomputable def T_law_said_right_0 : FT := (tAndM (bOf (mOp (oEq false) (mOp oIx (mVar 12) (mC (.int 0))) (mC (.str [112, 117, 116])))) (bOf (mOp (oEq false) (mSl false (mVar 12) (pSome (mC (.int 3))) (pSome (mC (.int 5)))) (mTup (aCons (mVar 4) (aCons (mOp oIx (mVar 5) (mC (.int 2))) aNil))))))
noncomputable def C_law_said_right_1 : FE := (mVar 12)
noncomputable def B_law_said_right : FS := (mSeq (mAsg (mVar 3) (gT 4 (gsCons (gN 4) (gsCons (gN 5) (gsCons (gN 6) (gsCons (gN 7) gsNil)))))) (mSeq (mPar 8 9 (aCons (mMth 3 "rows" 1 g_Kernel_rows [] (mVar 0) aNil) (aCons (mTup aNil) aNil))) (mSeq (mSet 10 (mMth 3 "answer" 2 g_Kernel_answer [] (mVar 0) (aCons (mOp oIx (mVar 2) (mC (.int 2))) aNil))) (mSeq (mExpr (mMth 3 "take" 4 g_Kernel_take [] (mVar 0) (aCons (mVar 4) (aCons (mVar 5) (aCons (mVar 7) aNil))))) (mSeq (mIfS (tAndM (bOf (mUn (oIsN false) (mVar 10))) (bOf (mUn (oIsN true) (mVar 6)))) (mSeq (mSet 9 (mTup (aCons (mTup (aCons (mC (.str [97, 110, 115, 119, 101, 114])) (aCons (mVar 7) (aCons (mOp oIx (mVar 2) (mC (.int 2))) (aCons (mVar 6) aNil))))) aNil))) (mSeq (mIfS (bOf (mOp (oEq false) (mOp oIx (mVar 5) (mC (.int 0))) (mC (.str [102, 111, 117, 110, 100])))) (mSeq (mSet 11 (mLc false [12] (iSq (mVar 8)) (gN 12) T_law_said_right_0 C_law_said_right_1)) (mSeq (mSet 13 (mOp (oAdd false) (mOp (oAdd false) (mTup (aCons (mC (.str [112, 117, 116])) (aCons (mVar 7) (aCons (mVar 1) (aCons (mVar 4) aNil))))) (mSl false (mVar 5) (pSome (mC (.int 2))) pNone)) (mTup (aCons (mOp oIx (mVar 5) (mC (.int 1))) aNil)))) (mSet 9 (mOp (oAdd false) (mOp oRep01 (mTup (aCons (mVar 13) aNil)) (mCall oInt (aCons (mOp (oEq false) (mVar 11) (mLst false aNil)) aNil))) (mVar 9))))) mPass) (mSet 10 (mVar 6)))) mPass) (mSeq (mIfS (tOrM (bOf (mOp (oEq true) (mCall oRepr (aCons (mMth 3 "rows" 1 g_Kernel_rows [] (mVar 0) aNil) aNil)) (mCall oRepr (aCons (mOp (oAdd false) (mVar 8) (mVar 9)) aNil)))) (bOf (mOp (oEq true) (mCall oRepr (aCons (mMth 3 "answer" 2 g_Kernel_answer [] (mVar 0) (aCons (mOp oIx (mVar 2) (mC (.int 2))) aNil)) aNil)) (mCall oRepr (aCons (mVar 10) aNil))))) (mRet (mC (.bl false))) mPass) (mRet (mOp (oEq false) (mCall oRepr (aCons (mMth 3 "table" 2 g_Kernel_table [] (mVar 0) (aCons (mOp oIx (mVar 1) (mC (.int 1))) aNil)) aNil)) (mCall oRepr (aCons (mFun 2 g_law_handles [] (aCons (mOp (oAdd false) (mVar 8) (mVar 9)) (aCons (mVar 1) aNil))) aNil))))))))))
noncomputable def g_law_said_right : FD := runB B_law_said_right 14
abbrev s_law : Stmt := topS 59
theorem sc_law : FnScope ["_law_script", "_law_k", "_law_flow_here", "_law_names_here", "_law_holder", "_law_servants", "_law_houses", "_law_roots", "_law_shelf", "_law_kernel", "_law_turn", "_law_lots", "_law_row", "_law_fates", "_law_tick", "_law_reply_here", "_law_answer"] ["_law_script"] (defScope s_law) := ⟨rfl, rfl, rfl, by decide +kernel, rfl, by decide +kernel, by decide +kernel⟩
/-- law(_law_script); slots: 0 _law_script, 1 _law_k, 2 _law_flow_here, 3 _law_names_here, 4 _law_holder, 5 _law_servants, 6 _law_houses, 7 _law_roots, 8 _law_shelf, 9 _law_kernel, 10 _law_turn, 11 _law_lots, 12 _law_row, 13 _law_fates, 14 _law_tick, 15 _law_reply_here, 16 _law_answer -/
noncomputable def L_law_0 : FS := (mSeq (mExpr (mMth 3 "hand" 7 g_Kernel_hand [] (mVar 9) (aCons (mOp oIx (mVar 3) (mC (.int 3))) (aCons (mTup (aCons (mC (.int 0)) (aCons (mC (.int 0)) aNil))) (aCons (mTup (aCons (mC (.int 1)) (aCons (mC (.int 0)) aNil))) (aCons (mTup (aCons (mOp oIx (mVar 3) (mC (.int 6))) aNil)) (aCons (mC (.int 0)) (aCons (mC (.int 0)) aNil)))))))) (mSeq (mExpr (mMth 3 "cut" 5 g_Kernel_cut [] (mVar 9) (aCons (mOp oIx (mVar 3) (mC (.int 3))) (aCons (mTup (aCons (mC (.int 1)) (aCons (mC (.int 0)) aNil))) (aCons (mC (.int 0)) (aCons (mC (.int 0)) aNil)))))) (mExpr (mMth 3 "call" 6 g_Kernel_call [] (mVar 9) (aCons (mOp oIx (mVar 3) (mC (.int 3))) (aCons (mTup (aCons (mOp (oAdd false) (mC (.int 2)) (mOp oMod (mVar 10) (mC (.int 2)))) (aCons (mC (.int 0)) aNil))) (aCons (mOp oIx (mVar 3) (mC (.int 8))) (aCons (mC .non) (aCons (mC (.int 0)) aNil)))))))))
noncomputable def T_law_1 : FT := (bOf (mOp (oEq false) (mOp oIx (mVar 12) (mC (.int 0))) (mC (.str [97, 115, 107]))))
noncomputable def C_law_2 : FE := (mVar 12)
noncomputable def C_law_3 : FE := (mFun 2 g_law_draw [] (aCons (mVar 2) (aCons (mC (.int 4)) aNil)))
noncomputable def L_law_4 : FS := (mSeq (mSet 12 (mOp oIx (mVar 11) (mFun 2 g_law_draw [] (aCons (mVar 2) (aCons (mCall oLen (aCons (mVar 11) aNil)) aNil))))) (mSeq (mAsg (mFun 4 g_law_reply [] (aCons (mVar 2) (aCons (mOp oIx (mVar 12) (mC (.int 3))) (aCons (mTup (aCons (mOp oIx (mVar 3) (mC (.int 0))) (aCons (mOp oIx (mVar 12) (mC (.int 2))) aNil))) (aCons (mTup (aCons (mVar 3) (aCons (mOp oIx (mVar 13) (mOp oIx (mVar 12) (mC (.int 2)))) aNil))) aNil))))) (gT 2 (gsCons (gN 15) (gsCons (gN 16) gsNil)))) (mIfS (tNotM (bOf (mFun 4 g_law_said_right [] (aCons (mVar 9) (aCons (mVar 4) (aCons (mVar 12) (aCons (mTup (aCons (mOp oIx (mVar 3) (mC (.int 1))) (aCons (mVar 15) (aCons (mVar 16) (aCons (mVar 14) aNil))))) aNil))))))) (mRet (mC (.bl false))) mPass)))
noncomputable def L_law_5 : FS := (mSeq (mSet 2 (mFun 2 g_law_flow [] (aCons (mVar 0) (aCons (mVar 1) aNil)))) (mSeq (mSet 3 (mFun 2 g_law_names [] (aCons (mVar 2) (aCons (mC (.int 9)) aNil)))) (mSeq (mSet 4 (mTup (aCons (mOp oIx (mVar 3) (mC (.int 0))) (aCons (mOp oIx (mVar 3) (mC (.int 3))) aNil)))) (mSeq (mSet 5 (mTup (aCons (mTup (aCons (mOp oIx (mVar 3) (mC (.int 7))) (aCons (mC (.str [111, 119, 110])) (aCons (mTupC (aCons (mTup (aCons (mOp oIx (mVar 3) (mC (.int 8))) (aCons (mOp oIx (mVar 3) (mC (.int 6))) aNil))) aNil)) aNil)))) (aCons (mTup (aCons (mOp oIx (mVar 3) (mC (.int 2))) (aCons (mC (.str [115, 104, 101, 108, 102])) (aCons (mTupC (aCons (mTup (aCons (mOp oIx (mVar 3) (mC (.int 8))) (aCons (mC (.int 3)) aNil))) aNil)) aNil)))) aNil)))) (mSeq (mSet 6 (mTup (aCons (mTup (aCons (mOp oIx (mVar 3) (mC (.int 0))) (aCons (mTup (aCons (mOp oIx (mVar 3) (mC (.int 3))) aNil)) (aCons (mTup aNil) (aCons (mTup (aCons (mOp oIx (mVar 3) (mC (.int 5))) aNil)) aNil))))) (aCons (mTup (aCons (mOp oIx (mVar 3) (mC (.int 1))) (aCons (mTup (aCons (mOp oIx (mVar 3) (mC (.int 4))) aNil)) (aCons (mVar 5) (aCons (mTup (aCons (mOp oIx (mVar 3) (mC (.int 5))) aNil)) aNil))))) aNil)))) (mSeq (mSet 7 (mTup (aCons (mTup (aCons (mTup (aCons (mOp oIx (mVar 3) (mC (.int 0))) (aCons (mOp oIx (mVar 3) (mC (.int 5))) aNil))) (aCons (mTup (aCons (mOp oIx (mVar 3) (mC (.int 6))) aNil)) (aCons (mC (.int 2)) (aCons (mVar 4) (aCons (mC .non) aNil)))))) aNil))) (mSeq (mSet 7 (mOp (oAdd false) (mVar 7) (mTup (aCons (mTup (aCons (mTup (aCons (mOp oIx (mVar 3) (mC (.int 1))) (aCons (mOp oIx (mVar 3) (mC (.int 4))) aNil))) (aCons (mTup (aCons (mC (.str [103, 105, 118, 101])) aNil)) (aCons (mC (.int 1)) (aCons (mVar 4) (aCons (mC .non) aNil)))))) aNil)))) (mSeq (mSet 7 (mOp (oAdd false) (mVar 7) (mTup (aCons (mTup (aCons (mTup (aCons (mOp oIx (mVar 3) (mC (.int 1))) (aCons (mOp oIx (mVar 3) (mC (.int 7))) aNil))) (aCons (mTup (aCons (mC (.str [99, 97, 108, 108])) aNil)) (aCons (mC (.int 1)) (aCons (mVar 4) (aCons (mC .non) aNil)))))) aNil)))) (mSeq (mSet 8 (mTup (aCons (mOp oIx (mVar 3) (mC (.int 1))) (aCons (mOp oIx (mVar 3) (mC (.int 2))) aNil)))) (mSeq (mSet 7 (mOp (oAdd false) (mVar 7) (mTup (aCons (mTup (aCons (mTup (aCons (mOp oIx (mVar 3) (mC (.int 1))) (aCons (mOp oIx (mVar 3) (mC (.int 5))) aNil))) (aCons (mTup (aCons (mOp oIx (mVar 3) (mC (.int 6))) aNil)) (aCons (mC (.int 1)) (aCons (mVar 8) (aCons (mC .non) aNil)))))) aNil)))) (mSeq (mSet 9 (mMake 3 5 g_Kernel___init__ [.int 6, .int 3] (aCons (mTup (aCons (mVar 6) (aCons (mOp (oAdd false) (mVar 7) (mTup (aCons (mTup (aCons (mVar 8) (aCons (mTup (aCons (mC (.str [99, 97, 108, 108])) aNil)) (aCons (mC (.int 1)) (aCons (mVar 4) (aCons (mC .non) aNil)))))) aNil))) aNil))) (aCons (mOp oIx (mVar 3) (mC (.int 0))) aNil)))) (mSeq (mFor (iR1 (aCons (mOp (oAdd false) (mC (.int 2)) (mFun 2 g_law_draw [] (aCons (mVar 2) (aCons (mC (.int 3)) aNil)))) aNil)) (gN 10) L_law_0) (mSeq (mSet 11 (mLc false [12] (iSq (mMth 3 "rows" 1 g_Kernel_rows [] (mVar 9) aNil)) (gN 12) T_law_1 C_law_2)) (mSeq (mSet 13 (mLc false [12] (iSq (mVar 11)) (gN 12) tsYes C_law_3)) (mSeq (mFor (iR2 (aCons (mC (.int 2)) (aCons (mC (.int 12)) aNil))) (gN 14) L_law_4) (mIfS (tOrM (bOf (mUn (oIsN true) (mMth 3 "answer" 2 g_Kernel_answer [] (mVar 9) (aCons (mCall oLen (aCons (mVar 11) aNil)) aNil)))) (bOf (mUn (oIsN true) (mMth 3 "answer" 2 g_Kernel_answer [] (mVar 9) (aCons (mC (.int 99)) aNil))))) (mRet (mC (.bl false))) mPass))))))))))))))))
noncomputable def B_law : FS := (mSeq (mFor (iR1 (aCons (mCall oMax (aCons (mC (.int 1)) (aCons (mCall oMin (aCons (mC (.int 2)) (aCons (mCall oLen (aCons (mVar 0) aNil)) aNil))) aNil))) aNil)) (gN 1) L_law_5) (mRet (mC (.bl true))))
noncomputable def g_law : FD := runB B_law 17
end K39
set_option Elab.async false
set_option linter.all false
set_option maxRecDepth 100000
set_option maxHeartbeats 4000000
namespace K39
open PySem PySem.Spec PyProof.Rows L2 Fn
local macro_rules | `(tactic| push_cast [$ls:simpLemma,*]) => `(tactic| simp -implicitDefEqProofs only [mSeq_eq, mIfS_eq, mSet_eq, mRet_eq, mRetN_eq, mExpr_eq, mPass_eq, mAsg_eq, mPar_eq, mAug_eq, bOf_eq, tOf_eq, tAndM_eq, tOrM_eq, tNotM_eq, tsYes_eq, mOp_eq, mUn_eq, mVar_eq, mC_eq, mCall_eq, mFun_eq, mFunKw_eq, mMeth_eq, mAnd_eq, mOr_eq, mNot_eq, mIf_eq, mChain_eq, mSl_eq, pNone_eq, pSome_eq, aCons_eq, aNil_eq, mTup_eq, mLst_eq, gN_eq, gT_eq, gsNil_eq, gsCons_eq, mkL_t, mkL_f, R.bind_ok, R.bind_no, R.nox_ok, List.getElem?_cons_zero, List.getElem?_cons_succ, List.set_cons_zero, List.set_cons_succ, List.length_cons, List.length_nil, List.append_nil, List.nil_append, List.cons_append, piApp_on, oLen_fz, oLen_lst, oLen_tup, oLt_int, oLe_int, oGt_int, oGe_int, oAdd_int, oSub_int, oIx_fz, oIx_lst, oIx_tup, oMax_int, oMin_int, oInt_bl, oInt_int, oIsi_bl, oNeg_int, oTuple_lst, oTuple_tup, iR1_eq, iR2_eq, iSq_eq, iStrM_eq, srcOf_tup, srcOf_lst, srcOf_fz, if_true, if_false, Bool.false_eq_true, Bool.true_eq_false, reduceIte, Nat.reduceAdd, Nat.reduceLeDiff, Nat.reduceEqDiff, Bool.not_true, Bool.not_false, decide_true, decide_false, and_self, and_true, true_and, $ls,*])
abbrev Nm := List Nat
def strT (F : List Nm) : D := .tup (F.map .str)
abbrev Pt := Nm × Nm
def ptD (p : Pt) : D := .tup [.str p.1, .str p.2]
def parD : Option Nat → D
  | none => .non
  | some n => .int n
abbrev rootN : Nm := [114, 111, 111, 116]
abbrev grantN : Nm := [103, 114, 97, 110, 116]
abbrev cutN : Nm := [99, 117, 116]
abbrev deedN : Nm := [100, 101, 101, 100]
structure Gr5 where
  num : Nat
  spot : Pt
  acts : List Nm
  far : Nat
  hol : Pt
  par : Option Nat
def gL (g : Gr5) : List D := [.int g.num, ptD g.spot, strT g.acts, .int g.far, ptD g.hol, parD g.par]
def askD (a : Nm × Nat) : D := .tup [.str a.1, .int a.2]
def oPt : Option Pt → D
  | none => .non
  | some p => ptD p
def oAsk : Option (Nm × Nat) → D
  | none => .non
  | some p => askD p
def natsD (l : List Nat) : List D := l.map fun n : Nat => .int n
inductive Rw5 where
  | root (t : Nat) (g : Gr5)
  | grant (t : Nat) (g : Gr5) (ask : Nm × Nat)
  | cut (t n : Nat)
  | deed (t : Nat) (who spot : Pt) (act : Nm) (chain : List Nat) (given stamp : Nat) (by_ : Option Pt) (ask : Option (Nm × Nat))
  | oth (w : Nm) (t : Nat) (ps : List D)
def rwD : Rw5 → D
  | .root t g => .tup (.str rootN :: .int t :: gL g)
  | .grant t g a => .tup (.str grantN :: .int t :: (gL g ++ [askD a]))
  | .cut t n => .tup [.str cutN, .int t, .int n]
  | .deed t who spot act ch gi st b a => .tup [.str deedN, .int t, ptD who, ptD spot, .str act, .tup (natsD ch), .int gi, .int st, oPt b, oAsk a]
  | .oth w t ps => .tup (.str w :: .int t :: ps)
def Rw5.w : Rw5 → Nm
  | .root .. => rootN
  | .grant .. => grantN
  | .cut .. => cutN
  | .deed .. => deedN
  | .oth w _ _ => w
def Rw5.t : Rw5 → Nat
  | .root t _ => t
  | .grant t _ _ => t
  | .cut t _ => t
  | .deed t .. => t
  | .oth _ t _ => t
def othOk (w : Nm) (ps : List D) : Prop := w ≠ rootN ∧ w ≠ grantN ∧ w ≠ cutN ∧ w ≠ deedN ∧ exL ps = true ∧ dpL ps ≤ 5 ∧ ps.length ≤ 20
def RwOk : Rw5 → Prop
  | .oth w _ ps => othOk w ps
  | _ => True
theorem oIx_t0 {a : D} {l : List D} {M : Mem} : oIx (.tup (a :: l)) (.int 0) M = .ok a M := by
  rw [oIx_tup, show (0 : Int) = ((0 : Nat) : Int) from rfl, atI_nat (v := a) rfl]
theorem rw_w (r : Rw5) (M : Mem) : oIx (rwD r) (.int 0) M = .ok (.str r.w) M := by cases r <;> exact oIx_t0
structure Src5 (M : Mem) (d : D) (l : List Rw5) (P : Mem → Prop) : Prop where
  src : ∀ K, srcOf (M ++ K) d = some ⟨l.map rwD, P⟩
  still : ∀ K, P (M ++ K)
theorem Src5.ref {M : Mem} {j : Nat} {l : List Rw5} (h : M[j]? = some (.lst (l.map rwD))) : Src5 M (.ref j) l fun M' => M'[j]? = some (.lst (l.map rwD)) := by
  have g : ∀ K, (M ++ K)[j]? = some (.lst (l.map rwD)) := fun K => by rw [List.getElem?_append_left (lt_of_get h)]; exact h
  exact ⟨fun K => by rw [srcOf_refM, g K], g⟩
theorem Src5.lst (M : Mem) (l : List Rw5) : Src5 M (.lst (l.map rwD)) l fun _ => True := ⟨fun _ => rfl, fun _ => trivial⟩
theorem Src5.tup (M : Mem) (l : List Rw5) : Src5 M (.tup (l.map rwD)) l fun _ => True := ⟨fun _ => rfl, fun _ => trivial⟩
def Rw5.ps : Rw5 → List D
  | .root _ g => gL g
  | .grant _ g a => gL g ++ [askD a]
  | .cut _ n => [.int n]
  | .deed _ who spot act ch gi st b a => [ptD who, ptD spot, .str act, .tup (natsD ch), .int gi, .int st, oPt b, oAsk a]
  | .oth _ _ ps => ps
theorem rwD_ps (r : Rw5) : rwD r = .tup (.str r.w :: .int r.t :: r.ps) := by cases r <;> rfl
theorem ps_len {r : Rw5} (h : RwOk r) : r.ps.length ≤ 20 := by
  cases r with
  | oth w t ps => exact h.2.2.2.2.2.2
  | _ => simp [Rw5.ps, gL]
theorem natsD_pl (l : List Nat) : PlL 0 (natsD l) := fun d hd => by obtain ⟨k, _, rfl⟩ := List.mem_map.mp hd; exact Pl.int _
theorem gA_put {κ : Type} [DecidableEq κ] (kvs : List (κ × D)) (k k' : κ) (v : D) : gA (pA kvs k v) k' = if k' = k then some v else gA kvs k' := by
  have hm : ∀ l : List (κ × D), gA (l.map fun kv => if kv.1 = k then (kv.1, v) else kv) k' = if k' = k then (if (l.any fun kv => decide (kv.1 = k)) = true then some v else none) else gA l k' := by
    intro l
    induction l with
    | nil => unfold gA; simp
    | cons e r ih =>
      unfold gA at ih ⊢
      rw [List.map_cons, List.find?_cons, List.find?_cons, List.any_cons]
      by_cases h1 : e.1 = k
      · simp only [if_pos h1]
        by_cases h2 : k' = k
        · subst h2; simp [h1]
        · have h3 : ¬ e.1 = k' := fun z => h2 (by rw [← z, h1])
          simp only [decide_eq_false h3, if_neg h2]
          rw [ih, if_neg h2]
      · simp only [if_neg h1]
        by_cases h2 : e.1 = k'
        · have h3 : ¬ k' = k := fun z => h1 (by rw [h2, z])
          rw [if_neg h3]
          simp only [decide_eq_true h2]
        · simp only [decide_eq_false h2, decide_eq_false h1, Bool.false_or]
          exact ih
  unfold pA
  by_cases h : (kvs.any fun kv => decide (kv.1 = k)) = true
  · rw [if_pos h, hm kvs, if_pos h]
  · rw [if_neg h]
    have hn : kvs.find? (fun kv => decide (kv.1 = k)) = none := by
      rw [List.find?_eq_none]
      intro x hx hd
      exact h (List.any_eq_true.mpr ⟨x, hx, hd⟩)
    unfold gA
    rw [List.find?_append]
    by_cases h2 : k' = k
    · subst h2
      rw [hn, if_pos rfl]; simp
    · rw [if_neg h2]
      have : ([(k, v)] : List (κ × D)).find? (fun kv => decide (kv.1 = k')) = none := by simp [Ne.symm h2]
      rw [this]; simp
theorem pA_len {κ : Type} [DecidableEq κ] (kvs : List (κ × D)) (k : κ) (v : D) : (pA kvs k v).length ≤ kvs.length + 1 := by
  unfold pA; split <;> simp
theorem str_eq (a b : List Nat) (M : Mem) : oEq false (.str a) (.str b) M = .ok (.bl (decide (a = b))) M := by
  by_cases q : a = b
  · rw [decide_eq_true q, q]; exact oEq_exT rfl (Nat.zero_le _)
  · rw [decide_eq_false q]; exact oEq_exF rfl rfl (Nat.zero_le _) (fun z => q (by injection z))
theorem sortOk_nats (l : List Nat) : sortOk (natsD l) := by
  refine ⟨fun d hd => ?_, fun d hd d' hd' => ?_, .inr fun d hd => ?_⟩
  · obtain ⟨n, _, rfl⟩ := List.mem_map.mp hd
    refine ⟨rfl, ?_⟩
    show (PyData.int (n : Int)).depth ≤ 60
    simp [PyData.depth]
  · obtain ⟨n, _, rfl⟩ := List.mem_map.mp hd
    obtain ⟨n', _, rfl⟩ := List.mem_map.mp hd'
    rfl
  · obtain ⟨n, _, rfl⟩ := List.mem_map.mp hd
    rfl
abbrev noN : Nm := [110, 111]
abbrev putN : Nm := [112, 117, 116]
abbrev Ak := Nm × Nat
theorem askD_inj {a b : Ak} (h : askD a = askD b) : a = b := by
  unfold askD at h
  simp only [D.tup.injEq, List.cons.injEq, D.str.injEq, D.int.injEq, and_true] at h
  exact Prod.ext h.1 (by omega)
theorem oAddTT {c : Bool} (a b : List D) (M : Mem) (h : a.length + b.length ≤ 16777216) : oAdd c (.tup a) (.tup b) M = .ok (.tup (a ++ b)) M := by
  have e : oAdd c (.tup a) (.tup b) M = oAddT (.tup a) (.tup b) M := rfl
  rw [e]
  simp only [oAddT, h, if_true]
def knF (x0 x1 x2 x3 x4 x5 x6 x7 : D) : List (Str × D) := [("plan", x0), ("house", x1), ("lease", x2), ("every", x3), ("stone", x4), ("letters", x5), ("kept", x6), ("opened", x7)]
theorem kn_house_plan : (("house" : Str) == "plan") = false := by decide +kernel
theorem kn_stone_plan : (("stone" : Str) == "plan") = false := by decide +kernel
theorem kn_stone_house : (("stone" : Str) == "house") = false := by decide +kernel
theorem kn_stone_lease : (("stone" : Str) == "lease") = false := by decide +kernel
theorem kn_stone_every : (("stone" : Str) == "every") = false := by decide +kernel
theorem kn_opened_plan : (("opened" : Str) == "plan") = false := by decide +kernel
theorem kn_opened_house : (("opened" : Str) == "house") = false := by decide +kernel
theorem kn_opened_lease : (("opened" : Str) == "lease") = false := by decide +kernel
theorem kn_opened_every : (("opened" : Str) == "every") = false := by decide +kernel
theorem kn_opened_stone : (("opened" : Str) == "stone") = false := by decide +kernel
theorem kn_opened_letters : (("opened" : Str) == "letters") = false := by decide +kernel
theorem kn_opened_kept : (("opened" : Str) == "kept") = false := by decide +kernel
theorem kn_nplan_house : ¬ (("plan" : Str) = "house") := by decide +kernel
theorem kn_nplan_lease : ¬ (("plan" : Str) = "lease") := by decide +kernel
theorem kn_nplan_every : ¬ (("plan" : Str) = "every") := by decide +kernel
theorem kn_nplan_stone : ¬ (("plan" : Str) = "stone") := by decide +kernel
theorem kn_nplan_letters : ¬ (("plan" : Str) = "letters") := by decide +kernel
theorem kn_nplan_kept : ¬ (("plan" : Str) = "kept") := by decide +kernel
theorem kn_nplan_opened : ¬ (("plan" : Str) = "opened") := by decide +kernel
theorem kn_nhouse_lease : ¬ (("house" : Str) = "lease") := by decide +kernel
theorem kn_nhouse_every : ¬ (("house" : Str) = "every") := by decide +kernel
theorem kn_nhouse_stone : ¬ (("house" : Str) = "stone") := by decide +kernel
theorem kn_nhouse_letters : ¬ (("house" : Str) = "letters") := by decide +kernel
theorem kn_nhouse_kept : ¬ (("house" : Str) = "kept") := by decide +kernel
theorem kn_nhouse_opened : ¬ (("house" : Str) = "opened") := by decide +kernel
theorem kn_nlease_every : ¬ (("lease" : Str) = "every") := by decide +kernel
theorem kn_nlease_stone : ¬ (("lease" : Str) = "stone") := by decide +kernel
theorem kn_nlease_letters : ¬ (("lease" : Str) = "letters") := by decide +kernel
theorem kn_nlease_kept : ¬ (("lease" : Str) = "kept") := by decide +kernel
theorem kn_nlease_opened : ¬ (("lease" : Str) = "opened") := by decide +kernel
theorem kn_nevery_stone : ¬ (("every" : Str) = "stone") := by decide +kernel
theorem kn_nevery_letters : ¬ (("every" : Str) = "letters") := by decide +kernel
theorem kn_nevery_kept : ¬ (("every" : Str) = "kept") := by decide +kernel
theorem kn_nevery_opened : ¬ (("every" : Str) = "opened") := by decide +kernel
theorem kn_nstone_letters : ¬ (("stone" : Str) = "letters") := by decide +kernel
theorem kn_nstone_kept : ¬ (("stone" : Str) = "kept") := by decide +kernel
theorem kn_nstone_opened : ¬ (("stone" : Str) = "opened") := by decide +kernel
theorem kn_nletters_kept : ¬ (("letters" : Str) = "kept") := by decide +kernel
theorem kn_nletters_opened : ¬ (("letters" : Str) = "opened") := by decide +kernel
theorem kn_nkept_opened : ¬ (("kept" : Str) = "opened") := by decide +kernel
section
variable (x0 x1 x2 x3 x4 x5 x6 x7 : D)
theorem lk_kn_plan : (knF x0 x1 x2 x3 x4 x5 x6 x7).lookup ("plan" : Str) = some x0 := by simp only [knF, List.lookup, beq_self_eq_true]
theorem lk_kn_house : (knF x0 x1 x2 x3 x4 x5 x6 x7).lookup ("house" : Str) = some x1 := by simp only [knF, List.lookup, kn_house_plan, beq_self_eq_true]
theorem lk_kn_stone : (knF x0 x1 x2 x3 x4 x5 x6 x7).lookup ("stone" : Str) = some x4 := by simp only [knF, List.lookup, kn_stone_plan, kn_stone_house, kn_stone_lease, kn_stone_every, beq_self_eq_true]
theorem lk_kn_opened : (knF x0 x1 x2 x3 x4 x5 x6 x7).lookup ("opened" : Str) = some x7 := by simp only [knF, List.lookup, kn_opened_plan, kn_opened_house, kn_opened_lease, kn_opened_every, kn_opened_stone, kn_opened_letters, kn_opened_kept, beq_self_eq_true]
theorem lk_kn_rows : (knF x0 x1 x2 x3 x4 x5 x6 x7).lookup ("rows" : Str) = none := by simp only [knF, List.lookup, show (("rows" : Str) == "plan") = false from by decide +kernel, show (("rows" : Str) == "house") = false from by decide +kernel, show (("rows" : Str) == "lease") = false from by decide +kernel, show (("rows" : Str) == "every") = false from by decide +kernel, show (("rows" : Str) == "stone") = false from by decide +kernel, show (("rows" : Str) == "letters") = false from by decide +kernel, show (("rows" : Str) == "kept") = false from by decide +kernel, show (("rows" : Str) == "opened") = false from by decide +kernel]
theorem lk_kn_take : (knF x0 x1 x2 x3 x4 x5 x6 x7).lookup ("take" : Str) = none := by simp only [knF, List.lookup, show (("take" : Str) == "plan") = false from by decide +kernel, show (("take" : Str) == "house") = false from by decide +kernel, show (("take" : Str) == "lease") = false from by decide +kernel, show (("take" : Str) == "every") = false from by decide +kernel, show (("take" : Str) == "stone") = false from by decide +kernel, show (("take" : Str) == "letters") = false from by decide +kernel, show (("take" : Str) == "kept") = false from by decide +kernel, show (("take" : Str) == "opened") = false from by decide +kernel]
end
def snF (x0 x1 : D) : List (Str × D) := [("written", x0), ("firm", x1)]
theorem sn_nwritten_firm : ¬ (("written" : Str) = "firm") := by decide +kernel
section
variable (x0 x1 : D)
theorem snF_len : ((snF x0 x1).length < 1000) = True := by simp [snF]
theorem lk_sn_written : (snF x0 x1).lookup ("written" : Str) = some x0 := by simp only [snF, List.lookup, beq_self_eq_true]
theorem put_sn_firm (v : D) : putD "firm" v (snF x0 x1) = snF x0 v := by simp only [snF, putD, sn_nwritten_firm, if_false, if_true]
theorem lk_sn_settle : (snF x0 x1).lookup ("settle" : Str) = none := by simp only [snF, List.lookup, show (("settle" : Str) == "written") = false from by decide +kernel, show (("settle" : Str) == "firm") = false from by decide +kernel]
theorem lk_sn_rows : (snF x0 x1).lookup ("rows" : Str) = none := by simp only [snF, List.lookup, show (("rows" : Str) == "written") = false from by decide +kernel, show (("rows" : Str) == "firm") = false from by decide +kernel]
end
theorem pt_inj {a b : Pt} (h : ptD a = ptD b) : a = b := by
  unfold ptD at h
  simp only [D.tup.injEq, List.cons.injEq, D.str.injEq, and_true] at h
  exact Prod.ext h.1 h.2
theorem pt_eqD (ne : Bool) (a b : Pt) (M : Mem) : oEq ne (ptD a) (ptD b) M = .ok (.bl (ne != decide (a = b))) M := by
  by_cases e : a = b
  · subst e
    rw [oEq_exT (a := ptD a) rfl (show (1 : Nat) ≤ 60 by omega), decide_eq_true rfl]
    cases ne <;> rfl
  · rw [oEq_exF (a := ptD a) (b := ptD b) rfl rfl (show (1 : Nat) ≤ 60 by omega) (fun z => e (pt_inj z)), decide_eq_false e]
    cases ne <;> rfl
theorem map_inj {α β : Type} {f : α → β} (hf : ∀ a b, f a = f b → a = b) : ∀ {l m : List α}, l.map f = m.map f → l = m
  | [], [], _ => rfl
  | [], _ :: _, h => by cases h
  | _ :: _, [], h => by cases h
  | a :: l, b :: m, h => by
    simp only [List.map_cons, List.cons.injEq] at h
    rw [hf _ _ h.1, map_inj hf h.2]
abbrev Th := List Nat × Int
def thD (x : Th) : D := .tup [.str x.1, .int x.2]
def tkk (x : Th) : List KK := [.inr x.1, .inl x.2]
theorem keyT_th (x : Th) : keyT (thD x) = some (tkk x) := rfl
theorem tkk_inj {x y : Th} (h : tkk x = tkk y) : x = y := by
  unfold tkk at h
  injection h with h1 h2
  injection h2 with h2 _
  injection h1 with h1
  injection h2 with h2
  exact Prod.ext h1 h2
/-- a place in use: its turn, its thing -/
structure En where
  p : Nat
  t : Nat
  x : Th
def En.kv (e : En) : KK × D := (.inl e.p, .tup [.int e.t, thD e.x])
structure Tab where
  used : List Nat
  there : List En
  known : List Th
def usedD (l : List Nat) : List D := l.map fun n : Nat => .int n
def thereK (l : List En) : List (KK × D) := l.map En.kv
def knownK (l : List Th) : List (List KK × D) := l.map fun x => (tkk x, .bl true)
def tabF (u t k : Nat) : List (Str × D) := [("used", .ref u), ("there", .ref t), ("known", .ref k)]
section
variable (u t k : Nat)
theorem tn1 : (("there" : Str) == "used") = false := by decide +kernel
theorem tn2 : (("known" : Str) == "used") = false := by decide +kernel
theorem tn3 : (("known" : Str) == "there") = false := by decide +kernel
theorem lk_used : (tabF u t k).lookup ("used" : Str) = some (.ref u) := by simp only [tabF, List.lookup, beq_self_eq_true]
theorem lk_there : (tabF u t k).lookup ("there" : Str) = some (.ref t) := by simp only [tabF, List.lookup, tn1, beq_self_eq_true]
theorem lk_known : (tabF u t k).lookup ("known" : Str) = some (.ref k) := by simp only [tabF, List.lookup, tn2, tn3, beq_self_eq_true]
theorem lk_m (m : Str) (h1 : (m == "used") = false) (h2 : (m == "there") = false) (h3 : (m == "known") = false) : (tabF u t k).lookup m = none := by simp only [tabF, List.lookup, h1, h2, h3]
theorem lk_leads : (tabF u t k).lookup ("leads" : Str) = none := lk_m u t k _ (by decide +kernel) (by decide +kernel) (by decide +kernel)
theorem lk_put : (tabF u t k).lookup ("put" : Str) = none := lk_m u t k _ (by decide +kernel) (by decide +kernel) (by decide +kernel)
theorem lk_handles : (tabF u t k).lookup ("handles" : Str) = none := lk_m u t k _ (by decide +kernel) (by decide +kernel) (by decide +kernel)
theorem lk_free : (tabF u t k).lookup ("free_place" : Str) = none := lk_m u t k _ (by decide +kernel) (by decide +kernel) (by decide +kernel)
end
structure TabAt (M : Mem) (i u t k : Nat) (T : Tab) : Prop where
  ins : M[i]? = some (.ins 0 (tabF u t k))
  us : M[u]? = some (.lst (usedD T.used))
  th : M[t]? = some (.dk false (thereK T.there))
  kn : M[k]? = some (.dt false (knownK T.known))
  iu : i ≠ u
  it : i ≠ t
  ik : i ≠ k
  ut : u ≠ t
  uk : u ≠ k
  tk : t ≠ k
theorem gA_there (l : List En) (p : Nat) : gA (thereK l) (.inl (p : Int)) = (l.find? fun e => decide (e.p = p)).map fun e => .tup [.int e.t, thD e.x] := by
  unfold gA thereK
  induction l with
  | nil => rfl
  | cons e r ih =>
    simp only [List.map_cons, List.find?_cons]
    by_cases h : e.p = p
    · have h' : (En.kv e).1 = .inl (p : Int) := by show (Sum.inl (e.p : Int) : KK) = .inl (p : Int); rw [h]
      rw [decide_eq_true h', decide_eq_true h]; rfl
    · have h' : ¬ (En.kv e).1 = .inl (p : Int) := fun z => h (by have z : (Sum.inl (e.p : Int) : KK) = .inl (p : Int) := z; injection z with z; omega)
      rw [decide_eq_false h', decide_eq_false h]; exact ih
theorem gA_known (l : List Th) (x : Th) : (gA (knownK l) (tkk x)).isSome = decide (x ∈ l) := by
  unfold gA knownK
  induction l with
  | nil => rfl
  | cons y r ih =>
    simp only [List.map_cons, List.find?_cons]
    by_cases h : y = x
    · subst h; rw [decide_eq_true rfl]; simp
    · have h' : ¬ tkk y = tkk x := fun z => h (tkk_inj z)
      rw [decide_eq_false h']
      simp only
      rw [ih]
      have : ¬ x = y := fun z => h z.symm
      simp [this]
/-- what a handle leads to -/
def Tab.leads (T : Tab) (p t : Nat) : Option Th := match T.there.find? fun e => decide (e.p = p) with
  | some e => if e.t = t then some e.x else none
  | none => none
def optD : Option Th → D
  | none => .non
  | some x => thD x
theorem leads_eq {M : Mem} {i u t k : Nat} {T : Tab} (h : TabAt M i u t k T) (p n : Nat) : g_Table_leads [.ref i, .tup [.int p, .int n]] M = .ok (optD (T.leads p n)) M := by
  refine runB_rt (N := 4) ?_
  show B_Table_leads [some (.ref i), some (.tup [.int p, .int n]), none, none] M = _
  have g := gA_there T.there p
  unfold Tab.leads
  cases hf : T.there.find? fun e => decide (e.p = p) with
  | none =>
    rw [hf] at g
    have e1 : oInA true (.int p) (.ref t) M = .ok (.bl true) M := by rw [oInA_dk h.th, g]; rfl
    simp -implicitDefEqProofs (disch := first | assumption | omega | (simp only [List.length_cons, List.length_nil, List.length_append, List.length_map, List.length_take, List.length_drop, rngItems_len]; omega)) only [mSeq_eq, mIfS_eq, mSet_eq, mRet_eq, mRetN_eq, mExpr_eq, mPass_eq, mAsg_eq, mPar_eq, mAug_eq, bOf_eq, tOf_eq, tAndM_eq, tOrM_eq, tNotM_eq, tsYes_eq, mOp_eq, mUn_eq, mVar_eq, mC_eq, mCall_eq, mFun_eq, mFunKw_eq, mMeth_eq, mAnd_eq, mOr_eq, mNot_eq, mIf_eq, mChain_eq, mSl_eq, pNone_eq, pSome_eq, aCons_eq, aNil_eq, mTup_eq, mLst_eq, gN_eq, gT_eq, gsNil_eq, gsCons_eq, mkL_t, mkL_f, R.bind_ok, R.bind_no, R.nox_ok, List.getElem?_cons_zero, List.getElem?_cons_succ, List.set_cons_zero, List.set_cons_succ, List.length_cons, List.length_nil, List.append_nil, List.nil_append, List.cons_append, piApp_on, oLen_fz, oLen_lst, oLen_tup, oLt_int, oLe_int, oGt_int, oGe_int, oAdd_int, oSub_int, oIx_fz, oIx_lst, oIx_tup, oMax_int, oMin_int, oInt_bl, oInt_int, oIsi_bl, oNeg_int, oTuple_lst, oTuple_tup, iR1_eq, iR2_eq, iSq_eq, iStrM_eq, srcOf_tup, srcOf_lst, srcOf_fz, if_true, if_false, Bool.false_eq_true, Bool.true_eq_false, reduceIte, Nat.reduceAdd, Nat.reduceLeDiff, Nat.reduceEqDiff, Bool.not_true, Bool.not_false, decide_true, decide_false, and_self, and_true, true_and, oMod_int, oMul_r, oMul_l, oLen_str, oAdd_str, oSl_str, oSl_tup, oSl_lst, oSl_fz, rngOk_of, oEq_int, oEq_bl, beq_self_eq_true, Int.toNat_natCast, mFor_eq, mLc_eq, app_get0, app_get1, app_set0, app_set1, tyOk, oTuple_ref, oList_ref, oLen_refM, oIx_refM, oAppM, oExtM, srcOf_refM, ifLt24, ifLe24, B_Table_leads, mFld_eq, insOf_at h.ins, lk_there, e1]
    rfl
  | some e =>
    rw [hf] at g
    have g : gA (thereK T.there) (.inl (p : Int)) = some (.tup [.int e.t, thD e.x]) := g
    have e1 : oInA true (.int p) (.ref t) M = .ok (.bl false) M := by rw [oInA_dk h.th, g]; rfl
    have e2 := oIxA_dk h.th g
    have e3 : oIxA (.tup [.int e.t, thD e.x]) (.int 0) M = .ok (.int e.t) M := rfl
    have e4 : oIxA (.tup [.int e.t, thD e.x]) (.int 1) M = .ok (thD e.x) M := rfl
    by_cases hc : e.t = n
    · have e5 : oEq true (.int e.t) (.int n) M = .ok (.bl false) M := by rw [hc]; exact oEq_exT rfl (Nat.zero_le _)
      simp -implicitDefEqProofs (disch := first | assumption | omega | (simp only [List.length_cons, List.length_nil, List.length_append, List.length_map, List.length_take, List.length_drop, rngItems_len]; omega)) only [mSeq_eq, mIfS_eq, mSet_eq, mRet_eq, mRetN_eq, mExpr_eq, mPass_eq, mAsg_eq, mPar_eq, mAug_eq, bOf_eq, tOf_eq, tAndM_eq, tOrM_eq, tNotM_eq, tsYes_eq, mOp_eq, mUn_eq, mVar_eq, mC_eq, mCall_eq, mFun_eq, mFunKw_eq, mMeth_eq, mAnd_eq, mOr_eq, mNot_eq, mIf_eq, mChain_eq, mSl_eq, pNone_eq, pSome_eq, aCons_eq, aNil_eq, mTup_eq, mLst_eq, gN_eq, gT_eq, gsNil_eq, gsCons_eq, mkL_t, mkL_f, R.bind_ok, R.bind_no, R.nox_ok, List.getElem?_cons_zero, List.getElem?_cons_succ, List.set_cons_zero, List.set_cons_succ, List.length_cons, List.length_nil, List.append_nil, List.nil_append, List.cons_append, piApp_on, oLen_fz, oLen_lst, oLen_tup, oLt_int, oLe_int, oGt_int, oGe_int, oAdd_int, oSub_int, oIx_fz, oIx_lst, oIx_tup, oMax_int, oMin_int, oInt_bl, oInt_int, oIsi_bl, oNeg_int, oTuple_lst, oTuple_tup, iR1_eq, iR2_eq, iSq_eq, iStrM_eq, srcOf_tup, srcOf_lst, srcOf_fz, if_true, if_false, Bool.false_eq_true, Bool.true_eq_false, reduceIte, Nat.reduceAdd, Nat.reduceLeDiff, Nat.reduceEqDiff, Bool.not_true, Bool.not_false, decide_true, decide_false, and_self, and_true, true_and, oMod_int, oMul_r, oMul_l, oLen_str, oAdd_str, oSl_str, oSl_tup, oSl_lst, oSl_fz, rngOk_of, oEq_int, oEq_bl, beq_self_eq_true, Int.toNat_natCast, mFor_eq, mLc_eq, app_get0, app_get1, app_set0, app_set1, tyOk, oTuple_ref, oList_ref, oLen_refM, oIx_refM, oAppM, oExtM, srcOf_refM, ifLt24, ifLe24, B_Table_leads, mFld_eq, insOf_at h.ins, lk_there, e1, e2, e3, e4, e5, if_pos hc]
      all_goals rfl
    · have e5 : oEq true (.int e.t) (.int n) M = .ok (.bl true) M := oEq_exF rfl rfl (Nat.zero_le _) (fun z => hc (by injection z with z; omega))
      simp -implicitDefEqProofs (disch := first | assumption | omega | (simp only [List.length_cons, List.length_nil, List.length_append, List.length_map, List.length_take, List.length_drop, rngItems_len]; omega)) only [mSeq_eq, mIfS_eq, mSet_eq, mRet_eq, mRetN_eq, mExpr_eq, mPass_eq, mAsg_eq, mPar_eq, mAug_eq, bOf_eq, tOf_eq, tAndM_eq, tOrM_eq, tNotM_eq, tsYes_eq, mOp_eq, mUn_eq, mVar_eq, mC_eq, mCall_eq, mFun_eq, mFunKw_eq, mMeth_eq, mAnd_eq, mOr_eq, mNot_eq, mIf_eq, mChain_eq, mSl_eq, pNone_eq, pSome_eq, aCons_eq, aNil_eq, mTup_eq, mLst_eq, gN_eq, gT_eq, gsNil_eq, gsCons_eq, mkL_t, mkL_f, R.bind_ok, R.bind_no, R.nox_ok, List.getElem?_cons_zero, List.getElem?_cons_succ, List.set_cons_zero, List.set_cons_succ, List.length_cons, List.length_nil, List.append_nil, List.nil_append, List.cons_append, piApp_on, oLen_fz, oLen_lst, oLen_tup, oLt_int, oLe_int, oGt_int, oGe_int, oAdd_int, oSub_int, oIx_fz, oIx_lst, oIx_tup, oMax_int, oMin_int, oInt_bl, oInt_int, oIsi_bl, oNeg_int, oTuple_lst, oTuple_tup, iR1_eq, iR2_eq, iSq_eq, iStrM_eq, srcOf_tup, srcOf_lst, srcOf_fz, if_true, if_false, Bool.false_eq_true, Bool.true_eq_false, reduceIte, Nat.reduceAdd, Nat.reduceLeDiff, Nat.reduceEqDiff, Bool.not_true, Bool.not_false, decide_true, decide_false, and_self, and_true, true_and, oMod_int, oMul_r, oMul_l, oLen_str, oAdd_str, oSl_str, oSl_tup, oSl_lst, oSl_fz, rngOk_of, oEq_int, oEq_bl, beq_self_eq_true, Int.toNat_natCast, mFor_eq, mLc_eq, app_get0, app_get1, app_set0, app_set1, tyOk, oTuple_ref, oList_ref, oLen_refM, oIx_refM, oAppM, oExtM, srcOf_refM, ifLt24, ifLe24, B_Table_leads, mFld_eq, insOf_at h.ins, lk_there, e1, e2, e3, e4, e5, if_neg hc]
      all_goals rfl
theorem TabAt.lt {M : Mem} {i u t k : Nat} {T : Tab} (h : TabAt M i u t k T) : i < M.length ∧ u < M.length ∧ t < M.length ∧ k < M.length :=
  ⟨(List.getElem?_eq_some_iff.mp h.ins).1, (List.getElem?_eq_some_iff.mp h.us).1, (List.getElem?_eq_some_iff.mp h.th).1, (List.getElem?_eq_some_iff.mp h.kn).1⟩
theorem TabAt.setU {M : Mem} {i u t k : Nat} {T : Tab} (h : TabAt M i u t k T) (l : List Nat) : TabAt (M.set u (.lst (usedD l))) i u t k { T with used := l } := by
  obtain ⟨l1, l2, l3, l4⟩ := h.lt
  have := h.iu; have := h.ut; have := h.uk
  exact ⟨by rw [List.getElem?_set_ne (by omega)]; exact h.ins, List.getElem?_set_self l2, by rw [List.getElem?_set_ne (by omega)]; exact h.th, by rw [List.getElem?_set_ne (by omega)]; exact h.kn, h.iu, h.it, h.ik, h.ut, h.uk, h.tk⟩
theorem TabAt.setT {M : Mem} {i u t k : Nat} {T : Tab} (h : TabAt M i u t k T) (l : List En) : TabAt (M.set t (.dk false (thereK l))) i u t k { T with there := l } := by
  obtain ⟨l1, l2, l3, l4⟩ := h.lt
  have := h.it; have := h.ut; have := h.tk
  exact ⟨by rw [List.getElem?_set_ne (by omega)]; exact h.ins, by rw [List.getElem?_set_ne (by omega)]; exact h.us, List.getElem?_set_self l3, by rw [List.getElem?_set_ne (by omega)]; exact h.kn, h.iu, h.it, h.ik, h.ut, h.uk, h.tk⟩
theorem TabAt.setK {M : Mem} {i u t k : Nat} {T : Tab} (h : TabAt M i u t k T) (l : List Th) : TabAt (M.set k (.dt false (knownK l))) i u t k { T with known := l } := by
  obtain ⟨l1, l2, l3, l4⟩ := h.lt
  have := h.ik; have := h.uk; have := h.tk
  exact ⟨by rw [List.getElem?_set_ne (by omega)]; exact h.ins, by rw [List.getElem?_set_ne (by omega)]; exact h.us, by rw [List.getElem?_set_ne (by omega)]; exact h.th, List.getElem?_set_self l4, h.iu, h.it, h.ik, h.ut, h.uk, h.tk⟩
def Tab.has (T : Tab) (p : Nat) : Bool := (T.there.find? fun e => decide (e.p = p)).isSome
theorem in_there {M : Mem} {i u t k : Nat} {T : Tab} (h : TabAt M i u t k T) (neg : Bool) (p : Nat) : oInA neg (.int p) (.ref t) M = .ok (.bl (neg != T.has p)) M := by
  rw [oInA_dk h.th, gA_there]
  unfold Tab.has
  rw [Option.isSome_map]
theorem free_loop {M : Mem} {i u t k : Nat} {T : Tab} (h : TabAt M i u t k T) : ∀ (n fuel p : Nat), n < fuel → (∀ q, q < p + n → T.has q = true) → T.has (p + n) = false →
    whileM T_Table_free_place_0 L_Table_free_place_1 fuel [some (.ref i), some (.int p)] M = .ok (.nx [some (.ref i), some (.int (p + n : Nat))]) M
  | n, 0, _, hf, _, _ => absurd hf (by omega)
  | 0, fuel + 1, p, hf, h1, h2 => by
    have e : oInA false (.int p) (.ref t) M = .ok (.bl false) M := by rw [in_there h, show T.has p = false from h2]; rfl
    have c : T_Table_free_place_0 [some (.ref i), some (.int p)] M = .ok false M := by push_cast [T_Table_free_place_0, mFld_eq, insOf_at h.ins, lk_there, e]
    simp only [whileM, c, R.bind_ok, Bool.false_eq_true, if_false, Nat.add_zero]
  | n + 1, fuel + 1, p, hf, h1, h2 => by
    have e : oInA false (.int p) (.ref t) M = .ok (.bl true) M := by rw [in_there h, h1 p (by omega)]; rfl
    have c : T_Table_free_place_0 [some (.ref i), some (.int p)] M = .ok true M := by push_cast [T_Table_free_place_0, mFld_eq, insOf_at h.ins, lk_there, e]
    have b : L_Table_free_place_1 [some (.ref i), some (.int p)] M = .ok (.nx [some (.ref i), some (.int (p + 1 : Nat))]) M := rfl
    have ih := free_loop h n fuel (p + 1) (by omega) (fun q hq => h1 q (by omega)) (by rw [show p + 1 + n = p + (n + 1) by omega]; exact h2)
    rw [show p + 1 + n = p + (n + 1) by omega] at ih
    simp only [whileM, c, R.bind_ok, if_true, b, ih]
theorem free_eq {M : Mem} {i u t k : Nat} {T : Tab} (h : TabAt M i u t k T) (hl : T.there.length < 1000000) {f : Nat} (h0 : f ≤ T.there.length) (h1 : ∀ q, q < f → T.has q = true) (h2 : T.has f = false) : g_Table_free_place [.ref i] M = .ok (.int f) M := by
  refine runB_rt (N := 2) ?_
  show B_Table_free_place [some (.ref i), none] M = _
  have e := fun fuel hf => free_loop h f fuel 0 hf (by simpa using h1) (by simpa using h2)
  simp only [Nat.zero_add] at e
  have e' : mWhile T_Table_free_place_0 L_Table_free_place_1 [some (.ref i), some (.int 0)] M = .ok (.nx [some (.ref i), some (.int f)]) M := e _ (by omega)
  simp -implicitDefEqProofs (disch := first | assumption | omega | (simp only [List.length_cons, List.length_nil, List.length_append, List.length_map, List.length_take, List.length_drop, rngItems_len]; omega)) only [mSeq_eq, mIfS_eq, mSet_eq, mRet_eq, mRetN_eq, mExpr_eq, mPass_eq, mAsg_eq, mPar_eq, mAug_eq, bOf_eq, tOf_eq, tAndM_eq, tOrM_eq, tNotM_eq, tsYes_eq, mOp_eq, mUn_eq, mVar_eq, mC_eq, mCall_eq, mFun_eq, mFunKw_eq, mMeth_eq, mAnd_eq, mOr_eq, mNot_eq, mIf_eq, mChain_eq, mSl_eq, pNone_eq, pSome_eq, aCons_eq, aNil_eq, mTup_eq, mLst_eq, gN_eq, gT_eq, gsNil_eq, gsCons_eq, mkL_t, mkL_f, R.bind_ok, R.bind_no, R.nox_ok, List.getElem?_cons_zero, List.getElem?_cons_succ, List.set_cons_zero, List.set_cons_succ, List.length_cons, List.length_nil, List.append_nil, List.nil_append, List.cons_append, piApp_on, oLen_fz, oLen_lst, oLen_tup, oLt_int, oLe_int, oGt_int, oGe_int, oAdd_int, oSub_int, oIx_fz, oIx_lst, oIx_tup, oMax_int, oMin_int, oInt_bl, oInt_int, oIsi_bl, oNeg_int, oTuple_lst, oTuple_tup, iR1_eq, iR2_eq, iSq_eq, iStrM_eq, srcOf_tup, srcOf_lst, srcOf_fz, if_true, if_false, Bool.false_eq_true, Bool.true_eq_false, reduceIte, Nat.reduceAdd, Nat.reduceLeDiff, Nat.reduceEqDiff, Bool.not_true, Bool.not_false, decide_true, decide_false, and_self, and_true, true_and, oMod_int, oMul_r, oMul_l, oLen_str, oAdd_str, oSl_str, oSl_tup, oSl_lst, oSl_fz, rngOk_of, oEq_int, oEq_bl, beq_self_eq_true, Int.toNat_natCast, mFor_eq, mLc_eq, app_get0, app_get1, app_set0, app_set1, tyOk, oTuple_ref, oList_ref, oLen_refM, oIx_refM, oAppM, oExtM, srcOf_refM, ifLt24, ifLe24, B_Table_free_place, e']
theorem pA_new_there (l : List En) (e : En) (h : (l.find? fun e' => decide (e'.p = e.p)) = none) : pA (thereK l) (.inl (e.p : Int)) (.tup [.int e.t, thD e.x]) = thereK (l ++ [e]) := by
  unfold pA
  have : ((thereK l).any fun kv => decide (kv.1 = .inl (e.p : Int))) = false := by
    rw [List.any_eq_false]
    intro kv hkv
    unfold thereK at hkv
    obtain ⟨e', he', rfl⟩ := List.mem_map.mp hkv
    have := List.find?_eq_none.mp h e' he'
    simp only [decide_eq_true_eq] at this ⊢
    intro z
    have z : (Sum.inl (e'.p : Int) : KK) = .inl (e.p : Int) := z
    injection z with z
    exact this (by omega)
  rw [this, if_neg Bool.false_ne_true]
  unfold thereK
  rw [List.map_append]
  rfl
theorem pA_new_known (l : List Th) (x : Th) (h : ¬ x ∈ l) : pA (knownK l) (tkk x) (.bl true) = knownK (l ++ [x]) := by
  unfold pA
  have : ((knownK l).any fun kv => decide (kv.1 = tkk x)) = false := by
    rw [List.any_eq_false]
    intro kv hkv
    unfold knownK at hkv
    obtain ⟨y, hy, rfl⟩ := List.mem_map.mp hkv
    simp only [decide_eq_true_eq]
    intro z
    exact h (by rw [← tkk_inj z]; exact hy)
  rw [this, if_neg Bool.false_ne_true]
  unfold knownK
  rw [List.map_append]
  rfl
/-- a new thing at the place f: the table behind it; how often the place was used ahead -/
def Tab.us (T : Tab) (f : Nat) : List Nat := if f = T.used.length then T.used ++ [0] else T.used
def Tab.putAt (T : Tab) (f : Nat) (x : Th) : Tab := ⟨(T.us f).set f ((T.us f).getD f 0 + 1), T.there ++ [⟨f, (T.us f).getD f 0, x⟩], T.known ++ [x]⟩
theorem put_new {M : Mem} {i u t k : Nat} {T : Tab} (h : TabAt M i u t k T) (x : Th) (hx : ¬ x ∈ T.known) (hl : T.there.length < 1000000) (hu : T.used.length < 1000000) (hk : T.known.length < 1000000) {f : Nat} (h0 : f ≤ T.there.length) (h1 : ∀ q, q < f → T.has q = true) (h2 : T.has f = false) (hf : f ≤ T.used.length) :
    ∃ M', g_Table_put [.ref i, .str x.1, .int x.2] M = .ok (.tup [.int f, .int ((T.us f).getD f 0 : Nat)]) M' ∧ TabAt M' i u t k (T.putAt f x) ∧ M'.length = M.length ∧ ∀ j, j ≠ u → j ≠ t → j ≠ k → M'[j]? = M[j]? := by
  have e0 : oInA false (thD x) (.ref k) M = .ok (.bl false) M := by rw [oInA_dt h.kn (keyT_th x), gA_known, decide_eq_false hx]; rfl
  have e1 : oInA false (.tup [.str x.1, .int x.2]) (.ref k) M = .ok (.bl false) M := e0
  have lk : (knownK T.known).length < 16777216 := by unfold knownK; rw [List.length_map]; omega
  have e20 : sPut M (.ref k) (thD x) (.bl true) = some (M.set k (.dt false (knownK (T.known ++ [x])))) := by rw [sPut_dt h.kn (keyT_th x) lk, pA_new_known _ _ hx]
  have e2 : sPut M (.ref k) (.tup [.str x.1, .int x.2]) (.bl true) = some (M.set k (.dt false (knownK (T.known ++ [x])))) := e20
  have A1 := h.setK (T.known ++ [x])
  obtain ⟨M1, hM1⟩ : ∃ M1, M.set k (.dt false (knownK (T.known ++ [x]))) = M1 := ⟨_, rfl⟩
  rw [hM1] at e2 A1
  have e3 := free_eq A1 hl h0 h1 h2
  have i1 := insOf_at A1.ins
  have lu : (usedD T.used).length = T.used.length := by unfold usedD; rw [List.length_map]
  have e4 : oLenA [.ref u] M1 = .ok (.int T.used.length) M1 := by rw [oLenA_ref A1.us, oLen_ref A1.us, lu]
  -- what is noted of uses
  obtain ⟨M2, hM2⟩ : ∃ M2 : Mem, (if f = T.used.length then M1.set u (.lst (usedD (T.used ++ [0]))) else M1) = M2 := ⟨_, rfl⟩
  have A2 : TabAt M2 i u t k { T with known := T.known ++ [x], used := T.us f } := by
    unfold Tab.us
    by_cases hc : f = T.used.length
    · rw [if_pos hc] at hM2 ⊢; rw [← hM2]; exact A1.setU _
    · rw [if_neg hc] at hM2 ⊢; rw [← hM2]; exact A1
  have i2 := insOf_at A2.ins
  have fu : f < (T.us f).length := by
    unfold Tab.us
    split
    · simp; omega
    · omega
  obtain ⟨n, hn⟩ : ∃ n, (T.us f).getD f 0 = n := ⟨_, rfl⟩
  have at_ : L2.atI (usedD (T.us f)) (f : Int) = some (.int n) := atI_nat (by
    unfold usedD
    rw [List.getElem?_map, List.getElem?_eq_getElem fu, ← hn]
    simp [List.getD, List.getElem?_eq_getElem fu])
  have e5 : oIxA (.ref u) (.int f) M2 = .ok (.int n) M2 := by rw [oIxA_ref A2.us, oIx_refM, A2.us]; simp only [at_]
  have e6 := lGet_lst A2.us at_
  have ixf : ixN (usedD (T.us f)).length (f : Int) = some f := ixN_nat (by unfold usedD; rw [List.length_map]; exact fu)
  have us' : (usedD (T.us f)).set f (.int ((n : Int) + 1)) = usedD ((T.us f).set f (n + 1)) := by
    unfold usedD
    rw [List.map_set]
    rfl
  have e7 : sPut M2 (.ref u) (.int f) (.int ((n : Int) + 1)) = some (M2.set u (.lst (usedD ((T.us f).set f (n + 1))))) := by rw [sPut_lst A2.us ixf, us']
  have A3 := A2.setU ((T.us f).set f (n + 1))
  obtain ⟨M3, hM3⟩ : ∃ M3, M2.set u (.lst (usedD ((T.us f).set f (n + 1)))) = M3 := ⟨_, rfl⟩
  rw [hM3] at e7 A3
  have i3 := insOf_at A3.ins
  have lt : (thereK T.there).length < 16777216 := by unfold thereK; rw [List.length_map]; omega
  have hnone : (T.there.find? fun e' => decide (e'.p = f)) = none := by
    unfold Tab.has at h2
    cases hq : T.there.find? fun e' => decide (e'.p = f) with
    | none => rfl
    | some e => rw [hq] at h2; cases h2
  have e8 : sPut M3 (.ref t) (.int f) (.tup [.int n, .tup [.str x.1, .int x.2]]) = some (M3.set t (.dk false (thereK (T.there ++ [⟨f, n, x⟩])))) := by
    rw [sPut_dk A3.th lt]
    have := pA_new_there T.there ⟨f, n, x⟩ hnone
    exact congrArg (fun l => some (M3.set t (.dk false l))) this
  have A4 := A3.setT (T.there ++ [⟨f, n, x⟩])
  have oi : ∀ (a b : Int) (M : Mem), oI (fun i j => .int (i + j)) (.int a) (.int b) M = .ok (.int (a + b)) M := fun _ _ _ => rfl
  refine ⟨_, runB_rt (N := 6) ?_, by unfold Tab.putAt; rw [hn]; exact A4, ?_, fun j j1 j2 j3 => ?_⟩
  · show B_Table_put [some (.ref i), some (.str x.1), some (.int x.2), none, none, none] M = _
    rw [hn]
    by_cases hc : f = T.used.length
    · have b : ((f : Int) == (T.used.length : Int)) = true := by rw [beq_iff_eq]; omega
      rw [if_pos hc] at hM2
      have ap : (usedD T.used) ++ [.int 0] = usedD (T.used ++ [0]) := by unfold usedD; rw [List.map_append]; rfl
      have lu' : (usedD T.used).length < 16777216 := by omega
      have hap : oAppend (.ref u) [.int 0] M1 = .ok .non M2 := by rw [oAppend_at A1.us lu', ap, hM2]
      simp -implicitDefEqProofs (disch := first | assumption | omega | (simp only [List.length_cons, List.length_nil, List.length_append, List.length_map, List.length_take, List.length_drop, rngItems_len]; omega)) only [mSeq_eq, mIfS_eq, mSet_eq, mRet_eq, mRetN_eq, mExpr_eq, mPass_eq, mAsg_eq, mPar_eq, mAug_eq, bOf_eq, tOf_eq, tAndM_eq, tOrM_eq, tNotM_eq, tsYes_eq, mOp_eq, mUn_eq, mVar_eq, mC_eq, mCall_eq, mFun_eq, mFunKw_eq, mMeth_eq, mAnd_eq, mOr_eq, mNot_eq, mIf_eq, mChain_eq, mSl_eq, pNone_eq, pSome_eq, aCons_eq, aNil_eq, mTup_eq, mLst_eq, gN_eq, gT_eq, gsNil_eq, gsCons_eq, mkL_t, mkL_f, R.bind_ok, R.bind_no, R.nox_ok, List.getElem?_cons_zero, List.getElem?_cons_succ, List.set_cons_zero, List.set_cons_succ, List.length_cons, List.length_nil, List.append_nil, List.nil_append, List.cons_append, piApp_on, oLen_fz, oLen_lst, oLen_tup, oLt_int, oLe_int, oGt_int, oGe_int, oAdd_int, oSub_int, oIx_fz, oIx_lst, oIx_tup, oMax_int, oMin_int, oInt_bl, oInt_int, oIsi_bl, oNeg_int, oTuple_lst, oTuple_tup, iR1_eq, iR2_eq, iSq_eq, iStrM_eq, srcOf_tup, srcOf_lst, srcOf_fz, if_true, if_false, Bool.false_eq_true, Bool.true_eq_false, reduceIte, Nat.reduceAdd, Nat.reduceLeDiff, Nat.reduceEqDiff, Bool.not_true, Bool.not_false, decide_true, decide_false, and_self, and_true, true_and, oMod_int, oMul_r, oMul_l, oLen_str, oAdd_str, oSl_str, oSl_tup, oSl_lst, oSl_fz, rngOk_of, oEq_int, oEq_bl, beq_self_eq_true, Int.toNat_natCast, mFor_eq, mLc_eq, app_get0, app_get1, app_set0, app_set1, tyOk, oTuple_ref, oList_ref, oLen_refM, oIx_refM, oAppM, oExtM, srcOf_refM, ifLt24, ifLe24, B_Table_put, mFld_eq, insOf_at h.ins, lk_known, e1, gIxA_eq, e2, mMth_eq, i1, lk_free, e3, lk_used, e4, b, A1.us, hap, i2, e5, mAugIx_eq, e6, oi, e7, i3, lk_there, e8]
    · have b : ((f : Int) == (T.used.length : Int)) = false := by rw [beq_eq_false_iff_ne]; omega
      rw [if_neg hc] at hM2
      subst hM2
      simp -implicitDefEqProofs (disch := first | assumption | omega | (simp only [List.length_cons, List.length_nil, List.length_append, List.length_map, List.length_take, List.length_drop, rngItems_len]; omega)) only [mSeq_eq, mIfS_eq, mSet_eq, mRet_eq, mRetN_eq, mExpr_eq, mPass_eq, mAsg_eq, mPar_eq, mAug_eq, bOf_eq, tOf_eq, tAndM_eq, tOrM_eq, tNotM_eq, tsYes_eq, mOp_eq, mUn_eq, mVar_eq, mC_eq, mCall_eq, mFun_eq, mFunKw_eq, mMeth_eq, mAnd_eq, mOr_eq, mNot_eq, mIf_eq, mChain_eq, mSl_eq, pNone_eq, pSome_eq, aCons_eq, aNil_eq, mTup_eq, mLst_eq, gN_eq, gT_eq, gsNil_eq, gsCons_eq, mkL_t, mkL_f, R.bind_ok, R.bind_no, R.nox_ok, List.getElem?_cons_zero, List.getElem?_cons_succ, List.set_cons_zero, List.set_cons_succ, List.length_cons, List.length_nil, List.append_nil, List.nil_append, List.cons_append, piApp_on, oLen_fz, oLen_lst, oLen_tup, oLt_int, oLe_int, oGt_int, oGe_int, oAdd_int, oSub_int, oIx_fz, oIx_lst, oIx_tup, oMax_int, oMin_int, oInt_bl, oInt_int, oIsi_bl, oNeg_int, oTuple_lst, oTuple_tup, iR1_eq, iR2_eq, iSq_eq, iStrM_eq, srcOf_tup, srcOf_lst, srcOf_fz, if_true, if_false, Bool.false_eq_true, Bool.true_eq_false, reduceIte, Nat.reduceAdd, Nat.reduceLeDiff, Nat.reduceEqDiff, Bool.not_true, Bool.not_false, decide_true, decide_false, and_self, and_true, true_and, oMod_int, oMul_r, oMul_l, oLen_str, oAdd_str, oSl_str, oSl_tup, oSl_lst, oSl_fz, rngOk_of, oEq_int, oEq_bl, beq_self_eq_true, Int.toNat_natCast, mFor_eq, mLc_eq, app_get0, app_get1, app_set0, app_set1, tyOk, oTuple_ref, oList_ref, oLen_refM, oIx_refM, oAppM, oExtM, srcOf_refM, ifLt24, ifLe24, B_Table_put, mFld_eq, insOf_at h.ins, lk_known, e1, gIxA_eq, e2, mMth_eq, i1, lk_free, e3, lk_used, e4, b, i2, e5, mAugIx_eq, e6, oi, e7, i3, lk_there, e8]
  · rw [← hM3, ← hM2, ← hM1]
    split <;> simp
  · rw [← hM3, ← hM2, ← hM1]
    split <;> simp [List.getElem?_set_ne, Ne.symm j1, Ne.symm j2, Ne.symm j3]
def hD (e : En) : D := .tup [.int e.p, .int e.t]
def pairsOk (l : List D) : Prop := ∀ d ∈ l, ∃ a b : Int, d = .tup [.int a, .int b]
theorem sortOk_pairs {l : List D} (h : pairsOk l) : sortOk l := by
  refine ⟨fun d hd => ?_, fun d hd d' hd' => ?_, .inl fun d hd => ?_⟩
  · obtain ⟨a, b, rfl⟩ := h d hd
    refine ⟨rfl, ?_⟩
    show (PyData.tuple [.int a, .int b]).depth ≤ 60
    simp [PyData.depth, PyData.depthAll]
  · obtain ⟨a, b, rfl⟩ := h d hd
    obtain ⟨a', b', rfl⟩ := h d' hd'
    rfl
  · obtain ⟨a, b, rfl⟩ := h d hd
    rfl
theorem sorted_pairs {l : List D} {M : Mem} (h : pairsOk l) : oSorted false [.lst l] M = .ok (.lst (sortD l)) M := by
  simp only [oSorted, lstOf, if_pos (sortOk_pairs h), mkL_f]
theorem set_back {M : Mem} {t : Nat} {c d : Cell} (h : M[t]? = some c) : (M.set t d).set t c = M := by
  rw [List.set_set]
  obtain ⟨h1, h2⟩ := List.getElem?_eq_some_iff.mp h
  rw [← h2, List.set_getElem_self]
theorem handles_eq {M : Mem} {i u t k : Nat} {T : Tab} (h : TabAt M i u t k T) (hl : T.there.length < 1000000) : g_Table_handles [.ref i] M = .ok (.lst (sortD (T.there.map hD))) M := by
  refine runB_rt (N := 4) ?_
  show B_Table_handles [some (.ref i), none, none, none] M = _
  have hi := insOf_at h.ins
  have ht : t < M.length := h.lt.2.2.1
  have hit := h.it
  have fd : (mFld 0 "there" (mVar 0)) [some (.ref i), none, none, none] M = .ok (.ref t) M := by push_cast [mFld_eq, hi, lk_there]
  obtain ⟨M', hM'⟩ : ∃ M', M.set t (.dk true (thereK T.there)) = M' := ⟨_, rfl⟩
  have hi' : insOf 0 M' (.ref i) = some (i, tabF u t k) := insOf_at (by rw [← hM', List.getElem?_set_ne (Ne.symm hit)]; exact h.ins)
  have hlk : M'[t]? = some (.dk true (thereK T.there)) := by rw [← hM']; exact List.getElem?_set_self ht
  have c := compL_m (P := fun _ => True) (M := M') trivial (g := gT 2 (gsCons (gN 1) (gsCons (gT 2 (gsCons (gN 2) (gsCons (gN 3) gsNil))) gsNil))) (f := C_Table_handles_0) (env := wipeE [some (.ref i), none, none, none] [1, 2, 3]) (fun e : En => .tup [keyD (En.kv e).1, (En.kv e).2]) hD T.there fun e _ =>
    ⟨[some (.ref i), some (.int e.p), some (.int e.t), some (thD e.x)], rfl, rfl⟩
  have hs : ((thereK T.there).map fun kv => D.tup [keyD kv.1, kv.2]) = T.there.map fun e : En => .tup [keyD (En.kv e).1, (En.kv e).2] := by unfold thereK; rw [List.map_map]; rfl
  have fi : iItemsA (mFld 0 "there" (mVar 0)) [some (.ref i), none, none, none] M' = .ok ⟨T.there.map fun e : En => .tup [keyD (En.kv e).1, (En.kv e).2], fun _ => True⟩ M' := by
    have fd' : (mFld 0 "there" (mVar 0)) [some (.ref i), none, none, none] M' = .ok (.ref t) M' := by push_cast [mFld_eq, hi', lk_there]
    simp only [iItemsA, fd', R.bind_ok, hlk, hs]
  have hlen : (T.there.map fun e : En => D.tup [keyD (En.kv e).1, (En.kv e).2]).length < 16777216 := by rw [List.length_map]; omega
  have e1 : (mLc false [1, 2, 3] (iItemsA (mFld 0 "there" (mVar 0))) (gT 2 (gsCons (gN 1) (gsCons (gT 2 (gsCons (gN 2) (gsCons (gN 3) gsNil))) gsNil))) tsYes C_Table_handles_0) [some (.ref i), none, none, none] M' = .ok (.lst (T.there.map hD)) M' := by
    simp only [mLc_eq, fi, R.bind_ok, hlen, if_true, c, R.nox_ok, mkL_f]
  have e2 := lock_dk (f := mLc false [1, 2, 3] (iItemsA (mFld 0 "there" (mVar 0))) (gT 2 (gsCons (gN 1) (gsCons (gT 2 (gsCons (gN 2) (gsCons (gN 3) gsNil))) gsNil))) tsYes C_Table_handles_0) fd h.th (by rw [hM']; exact e1) hlk
  rw [← hM', set_back h.th] at e2
  have e3 : mLockE (mFld 0 "there" (mVar 0)) (mLc false [1, 2, 3] (iItemsA (mFld 0 "there" (mVar 0))) (gT 2 (gsCons (gN 1) (gsCons (gT 2 (gsCons (gN 2) (gsCons (gN 3) gsNil))) gsNil))) tsYes C_Table_handles_0) [some (.ref i), none, none, none] M = .ok (.lst (T.there.map hD)) M := e2
  have e4 : oSorted false [.lst (T.there.map hD)] M = .ok (.lst (sortD (T.there.map hD))) M := sorted_pairs fun d hd => by obtain ⟨e, _, rfl⟩ := List.mem_map.mp hd; exact ⟨_, _, rfl⟩
  simp -implicitDefEqProofs (disch := first | assumption | omega | (simp only [List.length_cons, List.length_nil, List.length_append, List.length_map, List.length_take, List.length_drop, rngItems_len]; omega)) only [mSeq_eq, mIfS_eq, mSet_eq, mRet_eq, mRetN_eq, mExpr_eq, mPass_eq, mAsg_eq, mPar_eq, mAug_eq, bOf_eq, tOf_eq, tAndM_eq, tOrM_eq, tNotM_eq, tsYes_eq, mOp_eq, mUn_eq, mVar_eq, mC_eq, mCall_eq, mFun_eq, mFunKw_eq, mMeth_eq, mAnd_eq, mOr_eq, mNot_eq, mIf_eq, mChain_eq, mSl_eq, pNone_eq, pSome_eq, aCons_eq, aNil_eq, mTup_eq, mLst_eq, gN_eq, gT_eq, gsNil_eq, gsCons_eq, mkL_t, mkL_f, R.bind_ok, R.bind_no, R.nox_ok, List.getElem?_cons_zero, List.getElem?_cons_succ, List.set_cons_zero, List.set_cons_succ, List.length_cons, List.length_nil, List.append_nil, List.nil_append, List.cons_append, piApp_on, oLen_fz, oLen_lst, oLen_tup, oLt_int, oLe_int, oGt_int, oGe_int, oAdd_int, oSub_int, oIx_fz, oIx_lst, oIx_tup, oMax_int, oMin_int, oInt_bl, oInt_int, oIsi_bl, oNeg_int, oTuple_lst, oTuple_tup, iR1_eq, iR2_eq, iSq_eq, iStrM_eq, srcOf_tup, srcOf_lst, srcOf_fz, if_true, if_false, Bool.false_eq_true, Bool.true_eq_false, reduceIte, Nat.reduceAdd, Nat.reduceLeDiff, Nat.reduceEqDiff, Bool.not_true, Bool.not_false, decide_true, decide_false, and_self, and_true, true_and, oMod_int, oMul_r, oMul_l, oLen_str, oAdd_str, oSl_str, oSl_tup, oSl_lst, oSl_fz, rngOk_of, oEq_int, oEq_bl, beq_self_eq_true, Int.toNat_natCast, mFor_eq, mLc_eq, app_get0, app_get1, app_set0, app_set1, tyOk, oTuple_ref, oList_ref, oLen_refM, oIx_refM, oAppM, oExtM, srcOf_refM, ifLt24, ifLe24, B_Table_handles, e3, e4]
theorem init_eq (M : Mem) : g_Table___init__ [.ref M.length] (M ++ [.ins 0 []]) = .ok .non (M ++ [.ins 0 (tabF (M.length + 1) (M.length + 2) (M.length + 3)), .lst [], .dk false [], .dt false []]) := by
  have hg : ∀ {c : Cell} {B : Mem}, (M ++ c :: B)[M.length]? = some c := fun {c B} => app_get0 rfl
  have hs : ∀ {c d : Cell} {B : Mem}, (M ++ c :: B).set M.length d = M ++ d :: B := fun {c d B} => app_set0 rfl
  have n1 : ¬ (("used" : Str) = "there") := by decide +kernel
  have n2 : ¬ (("used" : Str) = "known") := by decide +kernel
  have n3 : ¬ (("there" : Str) = "known") := by decide +kernel
  have k0 : (0 < 1000) = True := by simp
  have k1 : (1 < 1000) = True := by simp
  have k2 : (2 < 1000) = True := by simp
  have e1 : putD "used" (.ref (M.length + 1)) [] = ([("used", .ref (M.length + 1))] : List (Str × D)) := rfl
  have e2 : putD "there" (.ref (M.length + 2)) ([("used", .ref (M.length + 1))] : List (Str × D)) = ([("used", .ref (M.length + 1)), ("there", .ref (M.length + 2))] : List (Str × D)) := by simp only [putD, n1, if_false]
  have e3 : putD "known" (.ref (M.length + 3)) ([("used", .ref (M.length + 1)), ("there", .ref (M.length + 2))] : List (Str × D)) = tabF (M.length + 1) (M.length + 2) (M.length + 3) := by simp only [putD, tabF, n2, n3, if_false]
  refine runB_nx (N := 1) (env := [some (.ref M.length)]) ?_
  show B_Table___init__ [some (.ref M.length)] (M ++ [.ins 0 []]) = _
  push_cast [B_Table___init__, mFldSet_eq, insOf_at hg, hs, e1, e2, e3, mDNewK_eq, mDNewT_eq, List.length_append, List.append_assoc, k0, k1, k2]
def le2 (x y : Int × Int) : Bool := decide (x.1 < y.1 ∨ (x.1 = y.1 ∧ x.2 ≤ y.2))
def prD2 (x : Int × Int) : D := .tup [.int x.1, .int x.2]
theorem leD_pairs (a b : Int × Int) : leD (prD2 a) (prD2 b) = le2 a b := by
  have h := congrFun (congrFun (PySem.W.dataLe_ii (β := Int × Int) (fun x => x.1) (fun x => x.2)) a) b
  show PySem.W.dataLe false (fun x : Int × Int => .tuple [.int x.1, .int x.2]) a b = _
  rw [h]
  rfl
theorem sortD_pairs (l : List (Int × Int)) : sortD (l.map prD2) = (l.mergeSort le2).map prD2 := by
  unfold sortD
  symm
  apply List.map_mergeSort
  intro a _ b _
  exact (leD_pairs a b).symm
def enF (o : Nat) : List Th → List En
  | [] => []
  | x :: r => ⟨o, 0, x⟩ :: enF (o + 1) r
theorem enF_app : ∀ (o : Nat) (a b : List Th), enF o (a ++ b) = enF o a ++ enF (o + a.length) b
  | _, [], _ => rfl
  | o, x :: r, b => by
    simp only [List.cons_append, enF, enF_app (o + 1) r b, List.length_cons]
    rw [show o + 1 + r.length = o + (r.length + 1) by omega]
theorem enF_len : ∀ (o : Nat) (a : List Th), (enF o a).length = a.length
  | _, [] => rfl
  | o, x :: r => by simp [enF, enF_len (o + 1) r]
theorem enF_find : ∀ (o : Nat) (a : List Th) (p : Nat), (enF o a).find? (fun e => decide (e.p = o + p)) = (a[p]?).map fun x => ⟨o + p, 0, x⟩
  | _, [], p => by simp [enF]
  | o, x :: r, 0 => by simp [enF]
  | o, x :: r, p + 1 => by
    rw [enF, List.find?_cons, List.getElem?_cons_succ]
    have : decide (o = o + (p + 1)) = false := decide_eq_false (by omega)
    simp only [this]
    have ih := enF_find (o + 1) r p
    rw [show o + 1 + p = o + (p + 1) by omega] at ih
    exact ih
def tabN (xs : List Th) : Tab := ⟨List.replicate xs.length 1, enF 0 xs, xs⟩
theorem tabN_find (xs : List Th) (p : Nat) : (tabN xs).there.find? (fun e => decide (e.p = p)) = (xs[p]?).map fun x => ⟨p, 0, x⟩ := by
  have := enF_find 0 xs p
  rw [Nat.zero_add] at this
  exact this
theorem tabN_has (xs : List Th) (p : Nat) : (tabN xs).has p = decide (p < xs.length) := by
  unfold Tab.has
  rw [tabN_find, Option.isSome_map]
  by_cases h : p < xs.length
  · rw [List.getElem?_eq_getElem h, decide_eq_true h]; rfl
  · rw [List.getElem?_eq_none (by omega), decide_eq_false h]; rfl
theorem tabN_leads {xs : List Th} {p : Nat} {x : Th} (h : xs[p]? = some x) : (tabN xs).leads p 0 = some x := by
  unfold Tab.leads
  rw [tabN_find, h]
  rfl
theorem tabN_put (xs : List Th) (x : Th) : (tabN xs).putAt xs.length x = tabN (xs ++ [x]) := by
  have hu : (tabN xs).us xs.length = List.replicate xs.length 1 ++ [0] := by
    unfold Tab.us
    rw [if_pos (by unfold tabN; simp)]; rfl
  have hg : (List.replicate xs.length 1 ++ [0]).getD xs.length 0 = 0 := by
    rw [List.getD_eq_getElem?_getD, List.getElem?_append_right (by simp)]
    simp
  unfold Tab.putAt
  rw [hu, hg]
  unfold tabN
  rw [enF_app]
  congr 1
  · rw [List.set_append_right _ _ (by simp), List.length_append, List.length_replicate, Nat.sub_self]
    simp [List.replicate_succ']
  · simp [enF]
theorem put_step {M : Mem} {i u t k : Nat} {xs : List Th} (h : TabAt M i u t k (tabN xs)) (x : Th) (hx : ¬ x ∈ xs) (hl : xs.length < 1000) :
    ∃ M' d, g_Table_put [.ref i, .str x.1, .int x.2] M = .ok d M' ∧ TabAt M' i u t k (tabN (xs ++ [x])) ∧ M'.length = M.length ∧ ∀ j, j ≠ u → j ≠ t → j ≠ k → M'[j]? = M[j]? := by
  obtain ⟨M', e, h1, h2, h3⟩ := put_new h x hx (by unfold tabN; rw [enF_len]; omega) (by unfold tabN; rw [List.length_replicate]; omega) (by unfold tabN; show xs.length < _; omega) (f := xs.length) (by unfold tabN; rw [enF_len]; exact Nat.le_refl _) (fun q hq => by rw [tabN_has, decide_eq_true hq]) (by rw [tabN_has, decide_eq_false (by omega)]) (by unfold tabN; rw [List.length_replicate]; exact Nat.le_refl _)
  rw [tabN_put] at h1
  exact ⟨M', _, e, h1, h2, h3⟩
theorem TabAt.same {M M' : Mem} {i u t k : Nat} {T : Tab} (h : TabAt M i u t k T) (hi : M'[i]? = M[i]?) (hu : M'[u]? = M[u]?) (ht : M'[t]? = M[t]?) (hk : M'[k]? = M[k]?) : TabAt M' i u t k T :=
  ⟨by rw [hi]; exact h.ins, by rw [hu]; exact h.us, by rw [ht]; exact h.th, by rw [hk]; exact h.kn, h.iu, h.it, h.ik, h.ut, h.uk, h.tk⟩
theorem enF_hD : ∀ (o : Nat) (xs : List Th), (enF o xs).map hD = ((List.range' o xs.length).map fun p : Nat => ((p : Int), (0 : Int))).map prD2
  | _, [] => rfl
  | o, x :: r => by
    rw [enF, List.map_cons, enF_hD (o + 1) r, List.length_cons, List.range'_succ, List.map_cons, List.map_cons]
    rfl
theorem sort_enF (xs : List Th) : sortD ((enF 0 xs).map hD) = (enF 0 xs).map hD := by
  rw [enF_hD, sortD_pairs]
  congr 1
  apply List.mergeSort_of_pairwise
  rw [List.pairwise_map]
  refine (List.pairwise_lt_range' (s := 0) (n := xs.length)).imp fun {a b} hab => ?_
  unfold le2
  exact decide_eq_true (.inl (by show (a : Int) < (b : Int); omega))
theorem hands_eq {M : Mem} {i u t k : Nat} {xs : List Th} (h : TabAt M i u t k (tabN xs)) (hl : xs.length < 1000) : g_Table_handles [.ref i] M = .ok (.lst ((enF 0 xs).map hD)) M := by
  rw [handles_eq h (by unfold tabN; rw [enF_len]; omega)]
  rw [show (tabN xs).there = enF 0 xs from rfl, sort_enF]
structure Pu where
  h : Nm
  n : Nat
  pl : Pt
  rs : List Nm
  far : Nat
  a : Option Ak
def puL (ho : Pt) (x : Pu) : List D := [ptD ho, .str x.h, .int x.n, ptD x.pl, strT x.rs, .int x.far, oAsk x.a]
theorem strT_inj {a b : List Nm} (h : strT a = strT b) : a = b := by
  unfold strT at h
  injection h with h
  exact map_inj (fun a b e => by injection e) h
theorem oAsk_inj {a b : Option Ak} (h : oAsk a = oAsk b) : a = b := by
  cases a <;> cases b
  · rfl
  · cases h
  · cases h
  · rw [askD_inj h]
theorem puL_inj {a b : Pt} {x y : Pu} (h : puL a x = puL b y) : a = b ∧ x = y := by
  unfold puL at h
  simp only [List.cons.injEq, D.str.injEq, D.int.injEq, and_true] at h
  obtain ⟨h1, h2, h3, h4, h5, h6, h7⟩ := h
  refine ⟨pt_inj h1, ?_⟩
  cases x; cases y
  simp only [Pu.mk.injEq]
  exact ⟨h2, Int.ofNat_inj.mp h3, pt_inj h4, strT_inj h5, Int.ofNat_inj.mp h6, oAsk_inj h7⟩
abbrev dropN : Nm := [100, 114, 111, 112]
def PutOk : Rw5 → Prop
  | .oth w _ ps => w ≠ dropN ∧ (w = putN → ∃ ho x, ps = puL ho x)
  | _ => True
open Classical in
noncomputable def putOf (b : Pt) : Rw5 → Option Pu
  | .oth w _ ps => if h : w = putN ∧ ∃ x, ps = puL b x then some h.2.choose else none
  | _ => none
open Classical in
theorem putOf_put (b : Pt) (t : Nat) (x : Pu) : putOf b (.oth putN t (puL b x)) = some x := by
  have h : putN = putN ∧ ∃ y, puL b x = puL b y := ⟨rfl, x, rfl⟩
  show (if h : putN = putN ∧ ∃ y, puL b x = puL b y then some h.2.choose else none) = some x
  rw [dif_pos h]
  exact congrArg some (puL_inj h.2.choose_spec).2.symm
open Classical in
theorem putOf_other {b c : Pt} (t : Nat) (x : Pu) (h : c ≠ b) : putOf b (.oth putN t (puL c x)) = none := by
  show (if h : putN = putN ∧ ∃ y, puL c x = puL b y then some h.2.choose else none) = none
  exact dif_neg (fun z => by obtain ⟨y, hy⟩ := z.2; exact h (puL_inj hy).1)
open Classical in
theorem putOf_no {b : Pt} {w : Nm} (t : Nat) (ps : List D) (h : w ≠ putN) : putOf b (.oth w t ps) = none := by
  show (if h : w = putN ∧ ∃ y, ps = puL b y then some h.2.choose else none) = none
  exact dif_neg (fun z => h z.1)
noncomputable def putsOf (l : List Rw5) (b : Pt) : List Pu := l.filterMap (putOf b)
def puT (x : Pu) : Th := (x.h, (x.n : Int))
def vPu (x : Pu) : D := .tup [ptD x.pl, strT x.rs, .int x.far]
def thgK (E : List Pu) : List (List KK × D) := E.map fun x => (tkk (puT x), vPu x)
theorem gA_thg : ∀ {E : List Pu}, (E.map puT).Nodup → ∀ {x : Pu}, x ∈ E → gA (thgK E) (tkk (puT x)) = some (vPu x)
  | [], _, x, h => by cases h
  | y :: r, nd, x, h => by
    have nd' := List.pairwise_cons.mp (show (puT y :: r.map puT).Pairwise (· ≠ ·) from nd)
    unfold gA thgK
    rw [List.map_cons, List.find?_cons]
    by_cases c : puT y = puT x
    · have hxy : x = y := by
        rcases List.mem_cons.mp h with q | q
        · exact q
        · exact absurd c (nd'.1 _ (List.mem_map.mpr ⟨x, q, rfl⟩))
      subst hxy
      simp
    · have hx : x ∈ r := by
        rcases List.mem_cons.mp h with q | q
        · subst q; exact absurd rfl c
        · exact q
      have : decide (tkk (puT y) = tkk (puT x)) = false := decide_eq_false fun z => c (tkk_inj z)
      simp only [this]
      exact gA_thg nd'.2 hx
theorem pA_thg {E : List Pu} {x : Pu} (h : ¬ puT x ∈ E.map puT) : pA (thgK E) (tkk (puT x)) (vPu x) = thgK (E ++ [x]) := by
  unfold pA
  have : ((thgK E).any fun kv => decide (kv.1 = tkk (puT x))) = false := by
    rw [List.any_eq_false]
    intro kv hkv
    obtain ⟨y, hy, rfl⟩ := List.mem_map.mp hkv
    simp only [decide_eq_true_eq]
    intro z
    exact h (by rw [← tkk_inj z]; exact List.mem_map.mpr ⟨y, hy, rfl⟩)
  rw [this, if_neg Bool.false_ne_true]
  unfold thgK
  rw [List.map_append]; rfl
/-- the memory while it is replayed -/
structure RepAt (M0 m : Mem) (E : List Pu) : Prop where
  tab : TabAt m M0.length (M0.length + 1) (M0.length + 2) (M0.length + 3) (tabN (E.map puT))
  thg : m[M0.length + 4]? = some (.dt false (thgK E))
  len : m.length = M0.length + 5
  old : ∀ j, j < M0.length → m[j]? = M0[j]?
theorem rep_put {M0 m : Mem} {E : List Pu} (h : RepAt M0 m E) {b : Pt} {x : Pu} (hx : ¬ puT x ∈ E.map puT) (hl : E.length < 900) (x0 x5 x7 : Option D) :
    ∃ m', RepAt M0 m' (E ++ [x]) ∧ L_replayed_1 [x0, some (ptD b), some (.ref M0.length), some (.ref (M0.length + 4)), some (.str putN), x5, some (.lst (puL b x)), x7] m = .ok (.nx [x0, some (ptD b), some (.ref M0.length), some (.ref (M0.length + 4)), some (.str putN), x5, some (.lst (puL b x)), x7]) m' := by
  obtain ⟨M', d, e1, t1, l1, o1⟩ := put_step h.tab (puT x) hx (by rw [List.length_map]; omega)
  have e1 : g_Table_put [.ref M0.length, .str x.h, .int (x.n : Int)] m = .ok d M' := e1
  have hth : M'[M0.length + 4]? = some (.dt false (thgK E)) := by rw [o1 _ (by omega) (by omega) (by omega)]; exact h.thg
  have lK : (thgK E).length < 16777216 := by unfold thgK; rw [List.length_map]; omega
  have sp0 := sPut_dt (v := vPu x) hth (keyT_th (puT x)) lK
  rw [pA_thg hx] at sp0
  have sp : sPut M' (.ref (M0.length + 4)) (.tup [.str x.h, .int (x.n : Int)]) (.tup [ptD x.pl, strT x.rs, .int x.far]) = some (M'.set (M0.length + 4) (.dt false (thgK (E ++ [x])))) := sp0
  have ne : ∀ j, j ≠ M0.length + 4 → (M'.set (M0.length + 4) (.dt false (thgK (E ++ [x]))))[j]? = M'[j]? := fun j hj => List.getElem?_set_ne (Ne.symm hj)
  refine ⟨M'.set (M0.length + 4) (.dt false (thgK (E ++ [x]))), ⟨by rw [List.map_append]; exact t1.same (ne _ (by omega)) (ne _ (by omega)) (ne _ (by omega)) (ne _ (by omega)), List.getElem?_set_self (by rw [l1, h.len]; omega), by rw [List.length_set, l1, h.len], fun j hj => ?_⟩, ?_⟩
  · rw [ne j (by omega), o1 j (by omega) (by omega) (by omega)]; exact h.old j hj
  have hi := insOf_at h.tab.ins
  have q1 : ∀ M, oEq false (.str putN) (.str [112, 117, 116]) M = .ok (.bl true) M := fun M => oEq_exT rfl (Nat.zero_le _)
  have q2 : ∀ M, oEq false (.str putN) (.str [100, 114, 111, 112]) M = .ok (.bl false) M := fun M => by rw [str_eq]; rfl
  have q3 : ∀ M, oEq false (ptD b) (ptD b) M = .ok (.bl true) M := fun M => by rw [pt_eqD, decide_eq_true rfl]; rfl
  obtain ⟨PD, hPD⟩ : ∃ P, D.lst (puL b x) = P := ⟨_, rfl⟩
  have j0 : ∀ M, oIxA PD (.int 0) M = .ok (ptD b) M := fun M => by rw [← hPD]; rfl
  have j1 : ∀ M, oIxA PD (.int 1) M = .ok (.str x.h) M := fun M => by rw [← hPD]; rfl
  have j2 : ∀ M, oIxA PD (.int 2) M = .ok (.int (x.n : Int)) M := fun M => by rw [← hPD]; rfl
  have j3 : ∀ M, oSl false PD (some 3) (some 6) M = .ok (.lst [ptD x.pl, strT x.rs, .int x.far]) M := fun M => by rw [← hPD]; rfl
  rw [hPD]
  push_cast [L_replayed_1, q1, j0, q3, mMth_eq, hi, lk_put, j1, j2, e1, j3, gIxA_eq, sp, q2]
theorem rep_no {m : Mem} (w : Nm) (b : Pt) (ps : List D) (hd : w ≠ dropN) (hw : w ≠ putN ∨ ∃ c x, ps = puL c x ∧ c ≠ b) (x0 x2 x3 x5 x7 : Option D) :
    L_replayed_1 [x0, some (ptD b), x2, x3, some (.str w), x5, some (.lst ps), x7] m = .ok (.nx [x0, some (ptD b), x2, x3, some (.str w), x5, some (.lst ps), x7]) m := by
  have q1 : ∀ M, oEq false (.str w) (.str [112, 117, 116]) M = .ok (.bl (decide (w = putN))) M := fun M => str_eq _ _ M
  have q2 : ∀ M, oEq false (.str w) (.str [100, 114, 111, 112]) M = .ok (.bl (decide (w = dropN))) M := fun M => str_eq _ _ M
  rw [decide_eq_false hd] at q2
  by_cases hp : w = putN
  · rcases hw with h | ⟨c, x, rfl, hc⟩
    · exact absurd hp h
    · rw [decide_eq_true hp] at q1
      have q3 : ∀ M, oEq false (ptD c) (ptD b) M = .ok (.bl false) M := fun M => by rw [pt_eqD, decide_eq_false hc]; rfl
      obtain ⟨PD, hPD⟩ : ∃ P, D.lst (puL c x) = P := ⟨_, rfl⟩
      have j0 : ∀ M, oIxA PD (.int 0) M = .ok (ptD c) M := fun M => by rw [← hPD]; rfl
      rw [hPD]
      push_cast [L_replayed_1, q1, j0, q3, q2]
  · rw [decide_eq_false hp] at q1
    push_cast [L_replayed_1, q1, q2]
theorem rep_tgt {r : Rw5} (ok : RwOk r) (x0 x1 x2 x3 x4 x5 x6 x7 : Option D) (M : Mem) : (gS 3 2 (gsCons (gN 4) (gsCons (gN 5) (gsCons (gN 6) gsNil)))) (rwD r) [x0, x1, x2, x3, x4, x5, x6, x7] M = .ok [x0, x1, x2, x3, some (.str r.w), some (.int r.t), some (.lst r.ps), x7] M := by
  have pl := ps_len ok
  have d1 : (3 ≤ (D.str r.w :: D.int r.t :: r.ps).length + 1 ∧ (D.str r.w :: D.int r.t :: r.ps).length ≤ 16384) := by simp; omega
  have tk : (List.drop 2 (D.str r.w :: D.int r.t :: r.ps)).take ((D.str r.w :: D.int r.t :: r.ps).length + 1 - 3) = r.ps := List.take_of_length_le (by simp)
  have dr : (List.drop 2 (D.str r.w :: D.int r.t :: r.ps)).drop ((D.str r.w :: D.int r.t :: r.ps).length + 1 - 3) = [] := List.drop_of_length_le (by simp)
  have t2 : (D.str r.w :: D.int r.t :: r.ps).take 2 = [D.str r.w, D.int r.t] := rfl
  rw [rwD_ps, gS_eq, if_pos d1, tk, dr, t2]
  rfl
theorem rep_turn {M0 m : Mem} {E : List Pu} (h : RepAt M0 m E) {b : Pt} {r : Rw5} (ok : RwOk r) (po : PutOk r) (hx : ∀ x, putOf b r = some x → ¬ puT x ∈ E.map puT) (hl : E.length < 900) (x0 x7 : Option D) :
    ∃ m', RepAt M0 m' (E ++ (putOf b r).toList) ∧ L_replayed_1 [x0, some (ptD b), some (.ref M0.length), some (.ref (M0.length + 4)), some (.str r.w), some (.int r.t), some (.lst r.ps), x7] m = .ok (.nx [x0, some (ptD b), some (.ref M0.length), some (.ref (M0.length + 4)), some (.str r.w), some (.int r.t), some (.lst r.ps), x7]) m' := by
  have no : ∀ {w : Nm} {ps : List D} (t : D), w ≠ dropN → (w ≠ putN ∨ ∃ c x, ps = puL c x ∧ c ≠ b) → ∃ m', RepAt M0 m' (E ++ []) ∧ L_replayed_1 [x0, some (ptD b), some (.ref M0.length), some (.ref (M0.length + 4)), some (.str w), some t, some (.lst ps), x7] m = .ok (.nx [x0, some (ptD b), some (.ref M0.length), some (.ref (M0.length + 4)), some (.str w), some t, some (.lst ps), x7]) m' := fun {w ps} t h1 h2 =>
    ⟨m, by rw [List.append_nil]; exact h, rep_no w b ps h1 h2 _ _ _ _ _⟩
  cases r with
  | root t g => exact no (w := rootN) _ (by decide) (.inl (by decide))
  | grant t g a => exact no (w := grantN) _ (by decide) (.inl (by decide))
  | cut t n => exact no (w := cutN) _ (by decide) (.inl (by decide))
  | deed t a b c d e5 f g h => exact no (w := deedN) _ (by decide) (.inl (by decide))
  | oth w t ps =>
    obtain ⟨p1, p2⟩ := po
    by_cases hp : w = putN
    · subst hp
      obtain ⟨c, x, rfl⟩ := p2 rfl
      by_cases hc : c = b
      · subst hc
        rw [putOf_put] at hx ⊢
        exact rep_put h (hx x rfl) hl _ _ _
      · rw [putOf_other t x hc]
        exact no _ p1 (.inr ⟨c, x, rfl, hc⟩)
    · rw [putOf_no t ps hp]
      exact no _ p1 (.inl hp)
theorem putsOf_cons (r : Rw5) (l : List Rw5) (b : Pt) : putsOf (r :: l) b = (putOf b r).toList ++ putsOf l b := by
  unfold putsOf
  cases h : putOf b r with
  | none => rw [List.filterMap_cons_none h]; rfl
  | some x => rw [List.filterMap_cons_some h]; rfl
theorem rep_loop {M0 : Mem} {b : Pt} (x0 x7 : Option D) : ∀ (l : List Rw5) (E : List Pu) (m : Mem) (x4 x5 x6 : Option D), (∀ r ∈ l, RwOk r) → (∀ r ∈ l, PutOk r) → RepAt M0 m E → ((E ++ putsOf l b).map puT).Nodup → (E ++ putsOf l b).length ≤ 800 →
    ∃ m' y4 y5 y6, RepAt M0 m' (E ++ putsOf l b) ∧ forL (fun _ => True) (gS 3 2 (gsCons (gN 4) (gsCons (gN 5) (gsCons (gN 6) gsNil)))) L_replayed_1 (l.map rwD) [x0, some (ptD b), some (.ref M0.length), some (.ref (M0.length + 4)), x4, x5, x6, x7] m = .ok (.nx [x0, some (ptD b), some (.ref M0.length), some (.ref (M0.length + 4)), y4, y5, y6, x7]) m'
  | [], E, m, x4, x5, x6, _, _, h, _, _ => ⟨m, x4, x5, x6, by show RepAt M0 m (E ++ []); rw [List.append_nil]; exact h, forL_nil⟩
  | r :: l, E, m, x4, x5, x6, ok, po, h, nd, hl => by
    rw [putsOf_cons, ← List.append_assoc] at nd hl
    obtain ⟨m1, h1, e1⟩ := rep_turn (b := b) h (ok r (List.mem_cons_self ..)) (po r (List.mem_cons_self ..)) (fun x hx hm => by
      rw [hx, Option.toList_some, List.append_assoc, List.map_append] at nd
      have := (List.nodup_append.mp nd).2.2 _ hm (puT x) (by simp)
      exact this rfl) (by simp at hl; omega) x0 x7
    obtain ⟨m2, y4, y5, y6, h2, e2⟩ := rep_loop x0 x7 l _ m1 (some (.str r.w)) (some (.int r.t)) (some (.lst r.ps)) (fun q hq => ok q (List.mem_cons_of_mem _ hq)) (fun q hq => po q (List.mem_cons_of_mem _ hq)) h1 nd hl
    refine ⟨m2, y4, y5, y6, by rw [putsOf_cons, ← List.append_assoc]; exact h2, ?_⟩
    rw [List.map_cons, forL_cons, rep_tgt (ok r (List.mem_cons_self ..)), R.bind_ok, e1, R.bind_ok]
    exact e2
theorem rep_start (M : Mem) : RepAt M (M ++ [.ins 0 (tabF (M.length + 1) (M.length + 2) (M.length + 3)), .lst [], .dk false [], .dt false [], .dt false []]) [] := by
  refine ⟨⟨by simp, ?_, ?_, ?_, by omega, by omega, by omega, by omega, by omega, by omega⟩, ?_, by simp, fun j hj => by rw [List.getElem?_append_left hj]⟩
  · rw [List.getElem?_append_right (by omega), show M.length + 1 - M.length = 1 by omega]; rfl
  · rw [List.getElem?_append_right (by omega), show M.length + 2 - M.length = 2 by omega]; rfl
  · rw [List.getElem?_append_right (by omega), show M.length + 3 - M.length = 3 by omega]; rfl
  · rw [List.getElem?_append_right (by omega), show M.length + 4 - M.length = 4 by omega]; rfl
theorem replayed_eq {M : Mem} {l : List Rw5} {b : Pt} (ok : ∀ r ∈ l, RwOk r) (po : ∀ r ∈ l, PutOk r) (nd : ((putsOf l b).map puT).Nodup) (hl : (putsOf l b).length ≤ 800) :
    ∃ m, RepAt M m (putsOf l b) ∧ g_replayed [.tup (l.map rwD), ptD b] M = .ok (.tup [.ref M.length, .ref (M.length + 4)]) m := by
  obtain ⟨m, y4, y5, y6, h, e⟩ := rep_loop (b := b) (some (.tup (l.map rwD))) none l [] _ none none none ok po (rep_start M) (by rw [List.nil_append]; exact nd) (by rw [List.nil_append]; exact hl)
  rw [List.nil_append] at h
  refine ⟨m, h, runB_rt (N := 8) (?_ : B_replayed [some (.tup (l.map rwD)), some (ptD b), none, none, none, none, none, none] M = _)⟩
  have ie := init_eq M
  have e4 : (M ++ [Cell.ins 0 (tabF (M.length + 1) (M.length + 2) (M.length + 3)), .lst [], .dk false [], .dt false []]).length = M.length + 4 := by simp
  have ea : (M ++ [Cell.ins 0 (tabF (M.length + 1) (M.length + 2) (M.length + 3)), .lst [], .dk false [], .dt false []]) ++ [Cell.dt false []] = M ++ [.ins 0 (tabF (M.length + 1) (M.length + 2) (M.length + 3)), .lst [], .dk false [], .dt false [], .dt false []] := by simp
  obtain ⟨RD, hRD⟩ : ∃ X, l.map rwD = X := ⟨_, rfl⟩
  rw [hRD] at e ⊢
  obtain ⟨BD, hBD⟩ : ∃ X, ptD b = X := ⟨_, rfl⟩
  rw [hBD] at e ⊢
  unfold B_replayed
  push_cast [mMake_eq, ie, mDNewT_eq, e4, ea, mFor_eq, e]
def tblR (x : Pu × Nat) : D := .tup [.tup [.int (x.2 : Int), .int 0], .str x.1.h, .int x.1.n, ptD x.1.pl, strT x.1.rs, .int x.1.far]
theorem enF_zip : ∀ (o : Nat) (E : List Pu), (enF o (E.map puT)).map hD = (E.zipIdx o).map fun x => D.tup [.int (x.2 : Int), .int 0]
  | _, [] => rfl
  | o, x :: r => by
    rw [List.map_cons, enF, List.map_cons, enF_zip (o + 1) r, List.zipIdx_cons, List.map_cons]
    rfl
theorem tblR_pl (E : List Pu) : PlL 3 (E.zipIdx.map tblR) := fun d hd => by
  obtain ⟨x, _, rfl⟩ := List.mem_map.mp hd
  have pp : ∀ p : Pt, Pl 1 (ptD p) := fun p => Pl.tup (PlL.cons (Pl.str _) (PlL.cons (Pl.str _) PlL.nil))
  exact Pl.tup (PlL.cons (Pl.mono (Pl.tup (n := 0) (PlL.cons (Pl.int _) (PlL.cons (Pl.int _) PlL.nil))) (by omega)) (PlL.cons (Pl.str _) (PlL.cons (Pl.int _) (PlL.cons ((pp _).mono (by omega)) (PlL.cons ((Pl.tup (n := 1) (plL_str _)).mono (by omega)) (PlL.cons (Pl.int _) PlL.nil))))))
theorem table_eq {M : Mem} {l : List Rw5} {b : Pt} (ok : ∀ r ∈ l, RwOk r) (po : ∀ r ∈ l, PutOk r) (nd : ((putsOf l b).map puT).Nodup) (hl : (putsOf l b).length ≤ 800) :
    g_table [.tup (l.map rwD), ptD b] M = .ok (.lst ((putsOf l b).zipIdx.map tblR)) M := by
  obtain ⟨m, h, e⟩ := replayed_eq (M := M) ok po nd hl
  generalize hE : putsOf l b = E at *
  have he := hands_eq h.tab (by rw [List.length_map]; omega)
  rw [enF_zip] at he
  obtain ⟨J, hJ⟩ : ∃ J, m = M ++ J := by
    refine ⟨m.drop M.length, ?_⟩
    have : m.take M.length = M := by
      apply List.ext_getElem?
      intro j
      by_cases hj : j < M.length
      · rw [List.getElem?_take_of_lt hj, h.old j hj]
      · rw [List.getElem?_eq_none (by rw [List.length_take]; omega), List.getElem?_eq_none (by omega)]
    have t := List.take_append_drop M.length m
    rw [this] at t
    exact t.symm
  have cl : compL (fun _ => True) (gN 4) tsYes C_table_0 [some (.tup (l.map rwD)), some (ptD b), some (.ref M.length), some (.ref (M.length + 4)), none] ((E.zipIdx).map fun x => D.tup [.int (x.2 : Int), .int 0]) m = .ok (E.zipIdx.map tblR) m := by
    refine compL_m (P := fun _ => True) trivial (fun x : Pu × Nat => D.tup [.int (x.2 : Int), .int 0]) tblR _ fun x hx => ⟨[some (.tup (l.map rwD)), some (ptD b), some (.ref M.length), some (.ref (M.length + 4)), some (D.tup [.int (x.2 : Int), .int 0])], rfl, ?_⟩
    have hx2 : E[x.2]? = some x.1 := List.mem_zipIdx_iff_getElem?.mp hx
    have le := leads_eq h.tab x.2 0
    rw [tabN_leads (by rw [List.getElem?_map, hx2]; rfl)] at le
    have le : g_Table_leads [.ref M.length, .tup [.int (x.2 : Int), .int 0]] m = .ok (.tup [.str x.1.h, .int x.1.n]) m := le
    have gt := gA_thg nd (List.mem_of_getElem? hx2)
    have ix := oIxA_dt h.thg (keyT_th (puT x.1)) gt
    have ix : oIxA (.ref (M.length + 4)) (.tup [.str x.1.h, .int x.1.n]) m = .ok (vPu x.1) m := ix
    have hi := insOf_at h.tab.ins
    have a1 := fun m => oAddTT (c := false) [D.tup [.int (x.2 : Int), .int 0]] [.str x.1.h, .int x.1.n] m (by simp)
    have a2 := fun m => oAddTT (c := false) ([D.tup [.int (x.2 : Int), .int 0]] ++ [.str x.1.h, .int x.1.n]) [ptD x.1.pl, strT x.1.rs, .int x.1.far] m (by simp)
    have vp : vPu x.1 = .tup [ptD x.1.pl, strT x.1.rs, .int x.1.far] := rfl
    rw [vp] at ix
    push_cast [C_table_0, mMth_eq, hi, lk_leads, le, ix, a1, a2]
    rfl
  subst hJ
  obtain ⟨p, hp, _⟩ := Pl.lst (tblR_pl E)
  refine gc_val0 (junk := J) (runB_rt (N := 5) (?_ : B_table [some (.tup (l.map rwD)), some (ptD b), none, none, none] M = _)) hp
  have hi := insOf_at h.tab.ins
  have ll : ((E.zipIdx).map fun x => D.tup [.int (x.2 : Int), .int 0]).length < 16777216 := by simp; omega
  have wp : ∀ a b c d : Option D, wipeE [a, b, c, d, none] [4] = [a, b, c, d, none] := fun a b c d => rfl
  obtain ⟨RD, hRD⟩ : ∃ X, l.map rwD = X := ⟨_, rfl⟩
  rw [hRD] at e cl ⊢
  obtain ⟨BD, hBD⟩ : ∃ X, ptD b = X := ⟨_, rfl⟩
  rw [hBD] at e cl ⊢
  obtain ⟨HD, hHD⟩ : ∃ X, ((E.zipIdx).map fun x => D.tup [.int (x.2 : Int), .int 0]) = X := ⟨_, rfl⟩
  rw [hHD] at he cl ll
  obtain ⟨ED, hED⟩ : ∃ X, E.zipIdx.map tblR = X := ⟨_, rfl⟩
  rw [hED] at cl ⊢
  have ix0 : mkL false ED (M ++ J) = .ok (.lst ED) (M ++ J) := rfl
  unfold B_table
  push_cast [e, mMth_eq, hi, lk_handles, he, mLc_eq, if_pos ll, wp, cl, R.nox_ok]
structure Sv where
  nm : Nm
  how : Nm
  ws : List (Nm × D)
structure Hu where
  nm : Nm
  ps : List Nm
  sv : List Sv
  th : List Nm
structure Rt where
  pl : Pt
  rs : List Nm
  far : Nat
  ho : Pt
  pa : Option Nat
def wsD (s : Sv) : D := .ct (s.ws.map fun x => D.tup [.str x.1, x.2])
def sv3 (s : Sv) : D := .tup [.str s.nm, .str s.how, wsD s]
def huD (h : Hu) : D := .tup [.str h.nm, strT h.ps, .tup (h.sv.map sv3), strT h.th]
def rtD (r : Rt) : D := .tup [ptD r.pl, strT r.rs, .int r.far, ptD r.ho, parD r.pa]
def planD (H : List Hu) (Q : List Rt) : D := .tup [.tup (H.map huD), .tup (Q.map rtD)]
theorem pl0 (H : List Hu) (Q : List Rt) (M : Mem) : oIx (planD H Q) (.int 0) M = .ok (.tup (H.map huD)) M := rfl
theorem pl1 (H : List Hu) (Q : List Rt) (M : Mem) : oIx (planD H Q) (.int 1) M = .ok (.tup (Q.map rtD)) M := rfl
def servIn (h : Hu) (p : Pt) : Option Sv := h.sv.find? fun s => decide ((h.nm, s.nm) = p)
def servAt (H : List Hu) (p : Pt) : Option Sv := H.findSome? fun h => servIn h p
theorem sa_inner {M : Mem} (p : Pt) (h : Hu) (x0 x3 x4 x5 : Option D) : ∀ (l : List Sv) (x6 : Option D), ∃ y6,
    forL (fun _ => True) (gN 6) L_servant_at_0 (l.map sv3) [x0, some (ptD p), some (.str h.nm), x3, x4, x5, x6] M = .ok (match l.find? (fun s => decide ((h.nm, s.nm) = p)) with | some s => .rt (sv3 s) | none => .nx [x0, some (ptD p), some (.str h.nm), x3, x4, x5, y6]) M
  | [], x6 => ⟨x6, forL_nil⟩
  | s :: l, x6 => by
    obtain ⟨y6, e⟩ := sa_inner p h x0 x3 x4 x5 l (some (sv3 s))
    refine ⟨y6, ?_⟩
    rw [List.map_cons, forL_cons, gN_eq, R.bind_ok]
    have se : ([x0, some (ptD p), some (.str h.nm), x3, x4, x5, x6] : Fn.Env).set 6 (some (sv3 s)) = [x0, some (ptD p), some (.str h.nm), x3, x4, x5, some (sv3 s)] := rfl
    rw [se]
    have i0 : ∀ M, oIx (sv3 s) (.int 0) M = .ok (.str s.nm) M := fun _ => rfl
    have q := pt_eqD false (h.nm, s.nm) p M
    have q : oEq false (.tup [.str h.nm, .str s.nm]) (ptD p) M = _ := q
    cases hc : decide ((h.nm, s.nm) = p) with
    | true =>
      rw [hc] at q
      have b : L_servant_at_0 [x0, some (ptD p), some (.str h.nm), x3, x4, x5, some (sv3 s)] M = .ok (.rt (sv3 s)) M := by
        obtain ⟨SD, hSD⟩ : ∃ X, sv3 s = X := ⟨_, rfl⟩
        rw [hSD] at i0 ⊢
        push_cast [L_servant_at_0, i0, q, Bool.false_bne]
      rw [b, R.bind_ok]
      simp only [List.find?_cons, hc]
    | false =>
      rw [hc] at q
      have b : L_servant_at_0 [x0, some (ptD p), some (.str h.nm), x3, x4, x5, some (sv3 s)] M = .ok (.nx [x0, some (ptD p), some (.str h.nm), x3, x4, x5, some (sv3 s)]) M := by
        obtain ⟨SD, hSD⟩ : ∃ X, sv3 s = X := ⟨_, rfl⟩
        rw [hSD] at i0 ⊢
        push_cast [L_servant_at_0, i0, q, Bool.false_bne]
      rw [b, R.bind_ok]
      simp only [List.find?_cons, hc]
      exact e
theorem hu_tgt (g : FGs) (h : Hu) (env : Fn.Env) (M : Mem) : gT 4 g (huD h) env M = g [.str h.nm, strT h.ps, .tup (h.sv.map sv3), strT h.th] env M := rfl
theorem sa_outer {M : Mem} (p : Pt) (x0 : Option D) : ∀ (H : List Hu) (x2 x3 x4 x5 x6 : Option D), ∃ y2 y3 y4 y5 y6,
    forL (fun _ => True) (gT 4 (gsCons (gN 2) (gsCons (gN 3) (gsCons (gN 4) (gsCons (gN 5) gsNil))))) L_servant_at_1 (H.map huD) [x0, some (ptD p), x2, x3, x4, x5, x6] M = .ok (match servAt H p with | some s => .rt (sv3 s) | none => .nx [x0, some (ptD p), y2, y3, y4, y5, y6]) M
  | [], x2, x3, x4, x5, x6 => ⟨x2, x3, x4, x5, x6, forL_nil⟩
  | h :: H, x2, x3, x4, x5, x6 => by
    obtain ⟨z6, ei⟩ := sa_inner (M := M) p h x0 (some (strT h.ps)) (some (.tup (h.sv.map sv3))) (some (strT h.th)) h.sv x6
    obtain ⟨y2, y3, y4, y5, y6, e⟩ := sa_outer p x0 H (some (.str h.nm)) (some (strT h.ps)) (some (.tup (h.sv.map sv3))) (some (strT h.th)) z6
    refine ⟨y2, y3, y4, y5, y6, ?_⟩
    rw [List.map_cons, forL_cons, hu_tgt]
    have tg : gsCons (gN 2) (gsCons (gN 3) (gsCons (gN 4) (gsCons (gN 5) gsNil))) [.str h.nm, strT h.ps, .tup (h.sv.map sv3), strT h.th] [x0, some (ptD p), x2, x3, x4, x5, x6] M = .ok [x0, some (ptD p), some (.str h.nm), some (strT h.ps), some (.tup (h.sv.map sv3)), some (strT h.th), x6] M := rfl
    rw [tg, R.bind_ok]
    have fe : servIn h p = h.sv.find? (fun s => decide ((h.nm, s.nm) = p)) := rfl
    rw [← fe] at ei
    have b : L_servant_at_1 [x0, some (ptD p), some (.str h.nm), some (strT h.ps), some (.tup (h.sv.map sv3)), some (strT h.th), x6] M = .ok (match servIn h p with | some s => .rt (sv3 s) | none => .nx [x0, some (ptD p), some (.str h.nm), some (strT h.ps), some (.tup (h.sv.map sv3)), some (strT h.th), z6]) M := by
      obtain ⟨SL, hSL⟩ : ∃ X, h.sv.map sv3 = X := ⟨_, rfl⟩
      rw [hSL] at ei ⊢
      unfold L_servant_at_1
      push_cast [mFor_eq, ei]
    rw [b, R.bind_ok]
    unfold servAt
    cases hs : servIn h p with
    | none =>
      rw [List.findSome?_cons_of_isNone (by rw [hs]; rfl)]
      exact e
    | some s => rw [List.findSome?_cons_of_isSome (by rw [hs]; rfl), hs]
theorem servant_at_eq (H : List Hu) (Q : List Rt) (p : Pt) (M : Mem) : g_servant_at [planD H Q, ptD p] M = .ok (match servAt H p with | some s => sv3 s | none => .non) M := by
  obtain ⟨y2, y3, y4, y5, y6, e⟩ := sa_outer (M := M) p (some (planD H Q)) H none none none none none
  refine runB_rt (N := 7) (?_ : B_servant_at [some (planD H Q), some (ptD p), none, none, none, none, none] M = _)
  have p0 := pl0 H Q
  obtain ⟨PD, hPD⟩ : ∃ X, planD H Q = X := ⟨_, rfl⟩
  rw [hPD] at e p0 ⊢
  obtain ⟨HD, hHD⟩ : ∃ X, H.map huD = X := ⟨_, rfl⟩
  rw [hHD] at e p0
  unfold B_servant_at
  cases hs : servAt H p with
  | none =>
    rw [hs] at e
    push_cast [p0, mFor_eq, e]
  | some s =>
    rw [hs] at e
    push_cast [p0, mFor_eq, e]
def numO (h : Nm) (L : List Rt) : Nat := (L.filter fun g => decide (g.pl.1 = h)).length
def nmA (Q : List Rt) (i : Nat) : Nat := match Q[i]? with
  | some g => numO g.pl.1 (Q.take i)
  | none => 0
def numsK (Q : List Rt) (k : Nat) : List Nat := (List.range k).map (nmA Q)
theorem numsK_succ (Q : List Rt) (k : Nat) : numsK Q (k + 1) = numsK Q k ++ [nmA Q k] := by
  unfold numsK; rw [List.range_succ, List.map_append]; rfl
theorem numsK_len (Q : List Rt) (k : Nat) : (numsK Q k).length = k := by unfold numsK; simp
theorem numsK_get (Q : List Rt) {k i : Nat} (h : i < k) : (numsK Q k)[i]? = some (nmA Q i) := by
  unfold numsK; rw [List.getElem?_map, List.getElem?_range h]; rfl
theorem take_more {α : Type} {l : List α} {k : Nat} {x : α} (h : l[k]? = some x) : l.take (k + 1) = l.take k ++ [x] := by
  rw [List.take_succ, h]; rfl
theorem numO_more {h : Nm} {Q : List Rt} {k : Nat} {g : Rt} (hg : Q[k]? = some g) : numO h (Q.take (k + 1)) = numO h (Q.take k) + if g.pl.1 = h then 1 else 0 := by
  unfold numO
  rw [take_more hg, List.filter_append, List.length_append]
  congr 1
  by_cases q : g.pl.1 = h
  · rw [if_pos q, List.filter_cons_of_pos (by simpa using q)]; rfl
  · rw [if_neg q, List.filter_cons_of_neg (by simpa using q)]; rfl
theorem nmA_of {Q : List Rt} {k : Nat} {g : Rt} (h : Q[k]? = some g) : nmA Q k = numO g.pl.1 (Q.take k) := by unfold nmA; rw [h]
theorem oGetM_s2 {M : Mem} {i : Nat} {lk : Bool} {kvs : List (KK × D)} {x : List Nat} {z : D} (h : M[i]? = some (.dk lk kvs)) : oGetM (.ref i) [.str x, z] M = .ok ((gA kvs (.inr x)).getD z) M := by
  simp only [oGetM, dFind_dk h, keyK, Option.map_some]
  cases gA kvs (.inr x) <;> rfl
theorem ptA0 (x : Pt) (M : Mem) : oIxA (ptD x) (.int 0) M = .ok (.str x.1) M := rfl
theorem pt0 (x : Pt) (M : Mem) : oIx (ptD x) (.int 0) M = .ok (.str x.1) M := rfl
theorem natsD_len (l : List Nat) : (natsD l).length = l.length := by unfold natsD; rw [List.length_map]
theorem numbers_eq {Q : List Rt} (hl : Q.length < 1000) (H : List Hu) (M : Mem) : g_root_numbers [planD H Q] M = .ok (.lst (natsD (numsK Q Q.length))) M := by
  obtain ⟨env', m', e, kvs, y3, y4, y5, y6, y7, y8, rfl, rfl, hk, hkl⟩ := forL_inv (g := gT 5 (gsCons (gN 3) (gsCons (gN 4) (gsCons (gN 5) (gsCons (gN 6) (gsCons (gN 7) gsNil)))))) (body := L_root_numbers_0) (fun k env m => ∃ (kvs : List (KK × D)) (y3 y4 y5 y6 y7 y8 : Option D), env = [some (planD H Q), some (.ref M.length), some (.ref (M.length + 1)), y3, y4, y5, y6, y7, y8] ∧ m = M ++ [.lst (natsD (numsK Q k)), .dk false kvs] ∧ (∀ h, (gA kvs (.inr h)).getD (.int 0) = .int (numO h (Q.take k) : Int)) ∧ kvs.length ≤ k) (Q.map rtD) 0 [some (planD H Q), some (.ref M.length), some (.ref (M.length + 1)), none, none, none, none, none, none] (M ++ [.lst [], .dk false []])
    ⟨[], _, _, _, _, _, _, rfl, rfl, fun h => rfl, Nat.le_refl _⟩ (by
      rintro k d env m hk ⟨kvs, y3, y4, y5, y6, y7, y8, rfl, rfl, hv, hkl⟩
      rw [List.getElem?_map] at hk
      obtain ⟨g, hg, rfl⟩ := Option.map_eq_some_iff.mp hk
      have hkq : k < Q.length := (List.getElem?_eq_some_iff.mp hg).1
      rw [Nat.zero_add] at hv hkl ⊢
      have gL : ∀ C B, (M ++ [Cell.lst C, B])[M.length]? = some (.lst C) := fun C B => app_get0 rfl
      have gD2 : ∀ C k2, (M ++ [C, Cell.dk false k2])[M.length + 1]? = some (.dk false k2) := fun C k2 => app_get1 rfl
      have sL : ∀ C B E, (M ++ [Cell.lst C, B]).set M.length (.lst E) = M ++ [.lst E, B] := fun C B E => app_set0 rfl
      have sD : ∀ C k2 k3, (M ++ [C, Cell.dk false k2]).set (M.length + 1) (.dk false k3) = M ++ [C, .dk false k3] := fun C k2 k3 => app_set1 rfl
      have gm : ∀ C, oGetM (.ref (M.length + 1)) [.str g.pl.1, .int 0] (M ++ [C, .dk false kvs]) = .ok (.int (numO g.pl.1 (Q.take k) : Int)) (M ++ [C, .dk false kvs]) := fun C => by rw [oGetM_s2 (gD2 _ _), hv]
      have il : (natsD (numsK Q k)).length < 16777216 := by rw [natsD_len, numsK_len]; omega
      have ap : natsD (numsK Q k) ++ [.int (numO g.pl.1 (Q.take k) : Int)] = natsD (numsK Q (k + 1)) := by
        rw [numsK_succ, nmA_of hg]; unfold natsD; rw [List.map_append]; rfl
      have sp : ∀ C, sPut (M ++ [C, Cell.dk false kvs]) (.ref (M.length + 1)) (.str g.pl.1) (.int ((numO g.pl.1 (Q.take k) : Int) + 1)) = some (M ++ [C, .dk false (pA kvs (.inr g.pl.1) (.int ((numO g.pl.1 (Q.take k) : Int) + 1)))]) := fun C => by
        rw [sPut_dkS (gD2 _ _) (by omega), sD]
      refine ⟨[some (planD H Q), some (.ref M.length), some (.ref (M.length + 1)), some (ptD g.pl), some (strT g.rs), some (.int g.far), some (ptD g.ho), some (parD g.pa), some (.str g.pl.1)], M ++ [.lst (natsD (numsK Q (k + 1))), .dk false (pA kvs (.inr g.pl.1) (.int ((numO g.pl.1 (Q.take k) : Int) + 1)))], ?_, pA kvs (.inr g.pl.1) (.int ((numO g.pl.1 (Q.take k) : Int) + 1)), _, _, _, _, _, _, rfl, rfl, fun h => ?_, Nat.le_trans (pA_len _ _ _) (by omega)⟩
      · obtain ⟨PD, hPD⟩ : ∃ PD, planD H Q = PD := ⟨_, rfl⟩
        rw [hPD]
        have tyd : ∀ C k2, tyOk "dict" (M ++ [C, Cell.dk false k2]) (.ref (M.length + 1)) = true := fun C k2 => tyOk_dk (gD2 _ _)
        have tyl : ∀ C B, tyOk "list" (M ++ [Cell.lst C, B]) (.ref M.length) = true := fun C B => by simp only [tyOk, gL]; rfl
        have ea : ∀ B, oAppend (.ref M.length) [.int (numO g.pl.1 (Q.take k) : Int)] (M ++ [Cell.lst (natsD (numsK Q k)), B]) = .ok .non (M ++ [.lst (natsD (numsK Q (k + 1))), B]) := fun B => by rw [oAppend_at (gL _ _) il, sL, ap]
        show ((gT 5 (gsCons (gN 3) (gsCons (gN 4) (gsCons (gN 5) (gsCons (gN 6) (gsCons (gN 7) gsNil)))))) (.tup [ptD g.pl, strT g.rs, .int g.far, ptD g.ho, parD g.pa]) _ _).bind _ = _
        push_cast [L_root_numbers_0, ptA0, tyl, tyd, gm, ea, gIxA_eq, sp]
      · rw [gA_put, numO_more hg]
        by_cases q : g.pl.1 = h
        · subst q
          rw [if_pos rfl, if_pos rfl]
          show D.int _ = D.int _
          congr 1
        · rw [if_neg (fun z => q (by injection z with z; exact z.symm)), if_neg q, Nat.add_zero]; exact hv h)
  rw [List.length_map, Nat.zero_add] at e
  have hB : B_root_numbers [some (planD H Q), none, none, none, none, none, none, none, none] M = .ok (.rt (.ref M.length)) (M ++ [.lst (natsD (numsK Q Q.length)), .dk false kvs]) := by
    have p1 : ∀ M, oIxA (planD H Q) (.int 1) M = .ok (.tup (Q.map rtD)) M := fun M => rfl
    obtain ⟨PD, hPD⟩ : ∃ PD, planD H Q = PD := ⟨_, rfl⟩
    rw [hPD] at e p1 ⊢
    obtain ⟨QD, hQD⟩ : ∃ QD, Q.map rtD = QD := ⟨_, rfl⟩
    rw [hQD] at e p1
    have ml : (M ++ [Cell.lst []]).length = M.length + 1 := by simp
    have ma : (M ++ [Cell.lst []]) ++ [Cell.dk false []] = M ++ [.lst [], .dk false []] := by simp
    simp -implicitDefEqProofs (disch := first | assumption | omega | (simp only [List.length_cons, List.length_nil, List.length_append, List.length_map, List.length_take, List.length_drop, rngItems_len]; omega)) only [mSeq_eq, mIfS_eq, mSet_eq, mRet_eq, mRetN_eq, mExpr_eq, mPass_eq, mAsg_eq, mPar_eq, mAug_eq, bOf_eq, tOf_eq, tAndM_eq, tOrM_eq, tNotM_eq, tsYes_eq, mOp_eq, mUn_eq, mVar_eq, mC_eq, mCall_eq, mFun_eq, mFunKw_eq, mMeth_eq, mAnd_eq, mOr_eq, mNot_eq, mIf_eq, mChain_eq, mSl_eq, pNone_eq, pSome_eq, aCons_eq, aNil_eq, mTup_eq, mLst_eq, gN_eq, gT_eq, gsNil_eq, gsCons_eq, mkL_t, mkL_f, R.bind_ok, R.bind_no, R.nox_ok, List.getElem?_cons_zero, List.getElem?_cons_succ, List.set_cons_zero, List.set_cons_succ, List.length_cons, List.length_nil, List.append_nil, List.nil_append, List.cons_append, piApp_on, oLen_fz, oLen_lst, oLen_tup, oLt_int, oLe_int, oGt_int, oGe_int, oAdd_int, oSub_int, oIx_fz, oIx_lst, oIx_tup, oMax_int, oMin_int, oInt_bl, oInt_int, oIsi_bl, oNeg_int, oTuple_lst, oTuple_tup, iR1_eq, iR2_eq, iSq_eq, iStrM_eq, srcOf_tup, srcOf_lst, srcOf_fz, if_true, if_false, Bool.false_eq_true, Bool.true_eq_false, reduceIte, Nat.reduceAdd, Nat.reduceLeDiff, Nat.reduceEqDiff, Bool.not_true, Bool.not_false, decide_true, decide_false, and_self, and_true, true_and, oMod_int, oMul_r, oMul_l, oLen_str, oAdd_str, oSl_str, oSl_tup, oSl_lst, oSl_fz, rngOk_of, oEq_int, oEq_bl, beq_self_eq_true, Int.toNat_natCast, mFor_eq, mLc_eq, app_get0, app_get1, app_set0, app_set1, tyOk, oTuple_ref, oList_ref, oLen_refM, oIx_refM, oAppM, oExtM, srcOf_refM, ifLt24, ifLe24, B_root_numbers, mDNewK_eq, ml, ma, p1, e]
  obtain ⟨ps, hps, _⟩ := (natsD_pl (numsK Q Q.length)).py
  exact gc_ref0 (junk := [.dk false kvs]) (runB_rt (N := 9) hB) hps
theorem exL_natsD (l : List Nat) : exL (natsD l) = true := by
  have := exL_ints (l.map fun n : Nat => (n : Int))
  rw [List.map_map] at this
  exact this
theorem dpL_natsD (l : List Nat) : dpL (natsD l) = 0 := by
  have : dpL (natsD l) ≤ 0 := dpL_le fun d hd => by obtain ⟨n, _, rfl⟩ := List.mem_map.mp hd; exact Nat.le_refl _
  omega
theorem ex_oPt (p : Option Pt) : exD (oPt p) = true ∧ dpD (oPt p) ≤ 1 := by cases p <;> exact ⟨rfl, by simp [oPt, ptD, dpD, dpL]⟩
theorem ex_oAsk (p : Option Ak) : exD (oAsk p) = true ∧ dpD (oAsk p) ≤ 1 := by cases p <;> exact ⟨rfl, by simp [oAsk, askD, dpD, dpL]⟩
theorem ex_par (p : Option Nat) : exD (parD p) = true ∧ dpD (parD p) = 0 := by cases p <;> exact ⟨rfl, rfl⟩
theorem ex_rw {r : Rw5} (ok : RwOk r) : exD (rwD r) = true ∧ dpD (rwD r) ≤ 8 := by
  cases r with
  | root t g =>
    have h1 := ex_par g.par
    refine ⟨by simp [rwD, gL, exD, exL, ptD, strT, exL_strs, h1.1], ?_⟩
    simp only [rwD, gL, dpD, dpL, ptD, strT, dpL_strs, h1.2]; omega
  | grant t g a =>
    have h1 := ex_par g.par
    refine ⟨by simp [rwD, gL, exD, exL, ptD, strT, exL_strs, h1.1, askD], ?_⟩
    simp only [rwD, gL, List.cons_append, List.nil_append, dpD, dpL, ptD, strT, dpL_strs, h1.2, askD]; omega
  | cut t n => exact ⟨rfl, by simp only [rwD, dpD, dpL]; omega⟩
  | deed t a b c d e5 f g h =>
    have h1 := ex_oPt g
    have h2 := ex_oAsk h
    refine ⟨by simp [rwD, exD, exL, ptD, exL_natsD, h1.1, h2.1], ?_⟩
    simp only [rwD, dpD, dpL, ptD, dpL_natsD]; omega
  | oth w t ps =>
    obtain ⟨_, _, _, _, h5, h6, _⟩ := ok
    refine ⟨by simp [rwD, exD, exL, h5], ?_⟩
    simp only [rwD, dpD, dpL]; omega
structure KAt (M : Mem) (k st w lt : Nat) (plan : D) (house : Nm) (l : List Rw5) (firm : Nat) (L : List D) : Prop where
  ker : ∃ kp op : D, M[k]? = some (.ins 3 (knF plan (.str house) (.int 6) (.int 3) (.ref st) (.ref lt) kp op))
  sto : M[st]? = some (.ins 2 (snF (.ref w) (.int (firm : Int))))
  wri : M[w]? = some (.lst (l.map rwD))
  let_ : M[lt]? = some (.lst L)
  ne : w ≠ lt
section
variable {M : Mem} {k st w lt : Nat} {plan : D} {house : Nm} {l : List Rw5} {firm : Nat} {L : List D}
theorem KAt.lts (h : KAt M k st w lt plan house l firm L) : k < M.length ∧ st < M.length ∧ w < M.length ∧ lt < M.length := by
  obtain ⟨kp, op, h1⟩ := h.ker
  exact ⟨lt_of_get h1, lt_of_get h.sto, lt_of_get h.wri, lt_of_get h.let_⟩
theorem KAt.nes (h : KAt M k st w lt plan house l firm L) : k ≠ st ∧ k ≠ w ∧ k ≠ lt ∧ st ≠ w ∧ st ≠ lt := by
  obtain ⟨kp, op, h1⟩ := h.ker
  refine ⟨fun e => ?_, fun e => ?_, fun e => ?_, fun e => ?_, fun e => ?_⟩
  · rw [e, h.sto] at h1; cases h1
  · rw [e, h.wri] at h1; cases h1
  · rw [e, h.let_] at h1; cases h1
  · have := h.sto; rw [e, h.wri] at this; cases this
  · have := h.sto; rw [e, h.let_] at this; cases this
theorem KAt.write (h : KAt M k st w lt plan house l firm L) (r : Rw5) : KAt (M.set w (.lst (l.map rwD ++ [rwD r]))) k st w lt plan house (l ++ [r]) firm L := by
  obtain ⟨n1, n2, n3, n4, n5⟩ := h.nes
  obtain ⟨kp, op, h1⟩ := h.ker
  refine ⟨⟨kp, op, ?_⟩, ?_, ?_, ?_, h.ne⟩
  · rw [List.getElem?_set_ne (Ne.symm n2)]; exact h1
  · rw [List.getElem?_set_ne (Ne.symm n4)]; exact h.sto
  · rw [List.getElem?_set_self h.lts.2.2.1, List.map_append]; rfl
  · rw [List.getElem?_set_ne h.ne]; exact h.let_
theorem KAt.same {M' : Mem} (h : KAt M k st w lt plan house l firm L) (h1 : M'[k]? = M[k]?) (h2 : M'[st]? = M[st]?) (h3 : M'[w]? = M[w]?) (h4 : M'[lt]? = M[lt]?) : KAt M' k st w lt plan house l firm L := by
  obtain ⟨kp, op, q⟩ := h.ker
  exact ⟨⟨kp, op, by rw [h1]; exact q⟩, by rw [h2]; exact h.sto, by rw [h3]; exact h.wri, by rw [h4]; exact h.let_, h.ne⟩
theorem KAt.app (h : KAt M k st w lt plan house l firm L) (B : Mem) : KAt (M ++ B) k st w lt plan house l firm L := by
  obtain ⟨l1, l2, l3, l4⟩ := h.lts
  exact h.same (List.getElem?_append_left l1) (List.getElem?_append_left l2) (List.getElem?_append_left l3) (List.getElem?_append_left l4)
theorem stone_rows_eq (h : KAt M k st w lt plan house l firm L) : g_Stone_rows [.ref st] M = .ok (.tup (l.map rwD)) M := by
  refine runB_rt (N := 1) (?_ : B_Stone_rows [some (.ref st)] M = _)
  have ot : oTuple [.ref w] M = .ok (.tup (l.map rwD)) M := by rw [oTuple_ref, h.wri]
  push_cast [B_Stone_rows, mFld_eq, insOf_at h.sto, lk_sn_written, ot]
theorem stone_write_eq (h : KAt M k st w lt plan house l firm L) (hl : l.length ≤ 5000) (r : Rw5) : g_Stone_write [.ref st, rwD r] M = .ok .non (M.set w (.lst (l.map rwD ++ [rwD r]))) := by
  refine runB_nx (N := 2) (env := [some (.ref st), some (rwD r)]) ?_
  show B_Stone_write [some (.ref st), some (rwD r)] M = _
  push_cast [B_Stone_write, mFld_eq, insOf_at h.sto, lk_sn_written, tyOk_at h.wri, oAppend_at h.wri (show (l.map rwD).length < 16777216 by rw [List.length_map]; omega)]
theorem rows_eq (h : KAt M k st w lt plan house l firm L) : g_Kernel_rows [.ref k] M = .ok (.tup (l.map rwD)) M := by
  obtain ⟨kp, op, h1⟩ := h.ker
  have sr := stone_rows_eq h
  refine runB_rt (N := 1) (?_ : B_Kernel_rows [some (.ref k)] M = _)
  push_cast [B_Kernel_rows, mMth_eq, mFld_eq, insOf_at h1, lk_kn_stone, insOf_at h.sto, lk_sn_rows, sr]
end
open Classical in
theorem any_ex : ∀ {l : List D} {ps : List PyData} {a : D} {p : PyData}, exL l = true → exD a = true → pyL l = some ps → pyD a = some p → (ps.any fun z => PyData.eqv z p) = decide (a ∈ l)
  | [], ps, a, p, _, _, h, _ => by cases h; simp
  | d :: r, ps, a, p, hl, ha, h, hp => by
    simp only [exL, Bool.and_eq_true] at hl
    simp only [pyL] at h
    split at h
    · rename_i x xs k1 k2
      cases h
      have h1 := eqv_ex d a x p hl.1 ha k1 hp
      have h2 := any_ex (a := a) (p := p) hl.2 ha k2 hp
      rw [List.any_cons, h2, Bool.eq_iff_iff]
      simp only [Bool.or_eq_true, decide_eq_true_eq, h1, List.mem_cons]
      constructor
      · rintro (h | h)
        · exact .inl h.symm
        · exact .inr h
      · rintro (h | h)
        · exact .inl h.symm
        · exact .inr h
    · cases h
open Classical in
theorem oInD_tup {neg : Bool} {a : D} {l : List D} {M : Mem} (hl : exL l = true) (ha : exD a = true) (hd : dpD a ≤ 60) : oInD neg a (.tup l) M = .ok (.bl (neg != decide (a ∈ l))) M := by
  obtain ⟨p, p1, p2⟩ := ex_py a ha
  obtain ⟨ps, q1, q2⟩ := ex_pyL l hl
  have k1 : pyM M a = some p := pyGo_of p1
  have k2 : pyM M (.tup l) = some (.tuple ps) := by
    show pyGo (kN M 4) (.tup l) = _
    simp only [pyGo, pyGoL_of q1, Option.map_some]
  simp only [oInD, k1, k2]
  rw [if_pos (by omega), any_ex hl ha q1 p1]
  cases neg <;> simp
theorem rows_pl {l : List Rw5} (ok : ∀ r ∈ l, RwOk r) : PlL 8 (l.map rwD) := fun d hd => by
  obtain ⟨r, hr, rfl⟩ := List.mem_map.mp hd
  obtain ⟨p, h1, h2⟩ := ex_pl (ex_rw (ok r hr)).1
  exact ⟨p, h1, Nat.le_trans h2 (ex_rw (ok r hr)).2⟩
def RowH : Rw5 → Prop
  | .deed _ _ _ _ _ _ _ _ a => a ≠ none
  | .oth w _ ps => (w = putN ∧ ∃ ho x, ps = puL ho x) ∨ (w = noN ∧ ∃ (a : Ak) (x : Nm), ps = [askD a, .str x])
  | _ => True
theorem ex_puL (ho : Pt) (x : Pu) : exL (puL ho x) = true ∧ dpL (puL ho x) ≤ 2 := by
  have h2 := ex_oAsk x.a
  refine ⟨by simp [puL, exL, exD, ptD, strT, exL_strs, h2.1], ?_⟩
  simp only [puL, dpD, dpL, ptD, strT, dpL_strs]; omega
theorem rowh_ok {r : Rw5} (h : RowH r) : RwOk r := by
  cases r with
  | root => trivial
  | grant => trivial
  | cut => trivial
  | deed => trivial
  | oth w t ps =>
    rcases h with ⟨rfl, ho, x, rfl⟩ | ⟨rfl, a, x, rfl⟩
    · have := ex_puL ho x
      exact ⟨by decide, by decide, by decide, by decide, this.1, by omega, by simp [puL]⟩
    · exact ⟨by decide, by decide, by decide, by decide, rfl, by simp [dpL, dpD, askD], by simp⟩
theorem rowh_po {r : Rw5} (h : RowH r) : PutOk r := by
  cases r with
  | root => trivial
  | grant => trivial
  | cut => trivial
  | deed => trivial
  | oth w t ps =>
    rcases h with ⟨rfl, ho, x, rfl⟩ | ⟨rfl, a, x, rfl⟩
    · exact ⟨by decide, fun _ => ⟨ho, x, rfl⟩⟩
    · exact ⟨by decide, fun z => absurd z (by decide)⟩
def rootW (Q : List Rt) (x : Rt × Nat) : Rw5 := .root 0 ⟨nmA Q x.2, x.1.pl, x.1.rs, x.1.far, x.1.ho, x.1.pa.map (nmA Q)⟩
def putW (Q : List Rt) (x : Rt × Nat) : Rw5 := .oth putN 0 (puL x.1.ho ⟨x.1.pl.1, nmA Q x.2, x.1.pl, x.1.rs, x.1.far, none⟩)
def rtsO (Q : List Rt) (hn : Nm) (k : Nat) : List (Rt × Nat) := (Q.take k).zipIdx.filter fun x => decide (x.1.pl.1 = hn)
def ptsO (Q : List Rt) (hn : Nm) (k : Nat) : List (Rt × Nat) := (Q.take k).zipIdx.filter fun x => decide (x.1.ho.1 = hn)
def bgW (Q : List Rt) (hn : Nm) : List Rw5 := (rtsO Q hn Q.length).map (rootW Q) ++ (ptsO Q hn Q.length).map (putW Q)
def PaOk (Q : List Rt) : Prop := ∀ (k : Nat) (g : Rt), Q[k]? = some g → ∀ p, g.pa = some p → p < k
theorem zip_more {Q : List Rt} {k : Nat} {g : Rt} (h : Q[k]? = some g) : (Q.take (k + 1)).zipIdx = (Q.take k).zipIdx ++ [(g, k)] := by
  have hk := (List.getElem?_eq_some_iff.mp h).1
  rw [take_more h, List.zipIdx_append, List.length_take, Nat.min_eq_left (by omega)]
  simp
theorem rtsO_more {Q : List Rt} {hn : Nm} {k : Nat} {g : Rt} (h : Q[k]? = some g) : rtsO Q hn (k + 1) = rtsO Q hn k ++ if g.pl.1 = hn then [(g, k)] else [] := by
  unfold rtsO
  rw [zip_more h, List.filter_append]
  congr 1
  by_cases q : g.pl.1 = hn
  · rw [if_pos q, List.filter_cons_of_pos (by simpa using q)]; rfl
  · rw [if_neg q, List.filter_cons_of_neg (by simpa using q)]; rfl
theorem ptsO_more {Q : List Rt} {hn : Nm} {k : Nat} {g : Rt} (h : Q[k]? = some g) : ptsO Q hn (k + 1) = ptsO Q hn k ++ if g.ho.1 = hn then [(g, k)] else [] := by
  unfold ptsO
  rw [zip_more h, List.filter_append]
  congr 1
  by_cases q : g.ho.1 = hn
  · rw [if_pos q, List.filter_cons_of_pos (by simpa using q)]; rfl
  · rw [if_neg q, List.filter_cons_of_neg (by simpa using q)]; rfl
theorem rtsO_len {Q : List Rt} {hn : Nm} {k : Nat} : (rtsO Q hn k).length ≤ Q.length := by
  unfold rtsO
  refine Nat.le_trans (List.length_filter_le _ _) ?_
  rw [List.length_zipIdx, List.length_take]; omega
theorem ptsO_len {Q : List Rt} {hn : Nm} {k : Nat} : (ptsO Q hn k).length ≤ Q.length := by
  unfold ptsO
  refine Nat.le_trans (List.length_filter_le _ _) ?_
  rw [List.length_zipIdx, List.length_take]; omega
theorem num_ix {Q : List Rt} {p n : Nat} (h : p < n) (M : Mem) : oIx (.lst (natsD (numsK Q n))) (.int (p : Int)) M = .ok (.int (nmA Q p : Int)) M := by
  rw [oIx_lst, atI_nat (v := D.int (nmA Q p : Int)) (by unfold natsD; rw [List.getElem?_map, numsK_get Q h]; rfl)]
theorem bg_rowh {Q : List Rt} {hn : Nm} : ∀ r ∈ bgW Q hn, RowH r := fun r hr => by
  rcases List.mem_append.mp hr with h | h
  · obtain ⟨x, _, rfl⟩ := List.mem_map.mp h; trivial
  · obtain ⟨x, _, rfl⟩ := List.mem_map.mp h; exact .inl ⟨rfl, _, _, rfl⟩
theorem add_refs {M : Mem} {i j : Nat} {a b : List D} (hi : M[i]? = some (.lst a)) (hj : M[j]? = some (.lst b)) (hl : a.length + b.length ≤ 16777216) : oAdd false (.ref i) (.ref j) M = .ok (.lst (a ++ b)) M := by
  have e : oAdd false (.ref i) (.ref j) M = oAddL false (.ref i) (.ref j) M := rfl
  rw [e]
  simp only [oAddL, Fn.ownOf, hi, hj]
  rw [if_pos hl]; rfl
theorem fr_turn {Q : List Rt} (hl : Q.length ≤ 1000) {hn : Nm} {k : Nat} {g : Rt} (hg : Q[k]? = some g) (kg : PaOk Q) (M : Mem) (x0 x11 : Option D) :
    L_first_rows_0 [x0, some (.str hn), some (.lst (natsD (numsK Q Q.length))), some (.ref M.length), some (.ref (M.length + 1)), some (.int (k : Int)), some (ptD g.pl), some (strT g.rs), some (.int g.far), some (ptD g.ho), some (parD g.pa), x11] (M ++ [.lst ((rtsO Q hn k).map fun x => rwD (rootW Q x)), .lst ((ptsO Q hn k).map fun x => rwD (putW Q x))]) =
      .ok (.nx [x0, some (.str hn), some (.lst (natsD (numsK Q Q.length))), some (.ref M.length), some (.ref (M.length + 1)), some (.int (k : Int)), some (ptD g.pl), some (strT g.rs), some (.int g.far), some (ptD g.ho), some (parD g.pa), some (parD (g.pa.map (nmA Q)))]) (M ++ [.lst ((rtsO Q hn (k + 1)).map fun x => rwD (rootW Q x)), .lst ((ptsO Q hn (k + 1)).map fun x => rwD (putW Q x))]) := by
  have hk := (List.getElem?_eq_some_iff.mp hg).1
  have g0 : ∀ C B, (M ++ [Cell.lst C, B])[M.length]? = some (.lst C) := fun C B => app_get0 rfl
  have g1 : ∀ C B, (M ++ [B, Cell.lst C])[M.length + 1]? = some (.lst C) := fun C B => app_get1 rfl
  have s0 : ∀ C B E, (M ++ [Cell.lst C, B]).set M.length (.lst E) = M ++ [.lst E, B] := fun C B E => app_set0 rfl
  have s1 : ∀ C B E, (M ++ [B, Cell.lst C]).set (M.length + 1) (.lst E) = M ++ [B, .lst E] := fun C B E => app_set1 rfl
  obtain ⟨A, hA⟩ : ∃ A, ((rtsO Q hn k).map fun x => rwD (rootW Q x)) = A := ⟨_, rfl⟩
  obtain ⟨B, hB⟩ : ∃ B, ((ptsO Q hn k).map fun x => rwD (putW Q x)) = B := ⟨_, rfl⟩
  have la : A.length ≤ 1000 := by rw [← hA, List.length_map]; have := rtsO_len (Q := Q) (hn := hn) (k := k); omega
  have lb : B.length ≤ 1000 := by rw [← hB, List.length_map]; have := ptsO_len (Q := Q) (hn := hn) (k := k); omega
  have nk := fun M => num_ix (Q := Q) hk M
  have hA2 : ((rtsO Q hn (k + 1)).map fun x => rwD (rootW Q x)) = A ++ if g.pl.1 = hn then [rwD (rootW Q (g, k))] else [] := by
    rw [rtsO_more hg, List.map_append, hA]; split <;> rfl
  have hB2 : ((ptsO Q hn (k + 1)).map fun x => rwD (putW Q x)) = B ++ if g.ho.1 = hn then [rwD (putW Q (g, k))] else [] := by
    rw [ptsO_more hg, List.map_append, hB]; split <;> rfl
  rw [hA, hB, hA2, hB2]
  have hab : (mIf (bOf (mUn (oIsN false) (mVar 10))) (mC .non) (mOp oIx (mVar 2) (mVar 10))) [x0, some (.str hn), some (.lst (natsD (numsK Q Q.length))), some (.ref M.length), some (.ref (M.length + 1)), some (.int (k : Int)), some (ptD g.pl), some (strT g.rs), some (.int g.far), some (ptD g.ho), some (parD g.pa), x11] (M ++ [.lst A, .lst B]) = .ok (parD (g.pa.map (nmA Q))) (M ++ [.lst A, .lst B]) := by
    cases hp : g.pa with
    | none =>
      have n1 : ∀ M, oIsN false (parD none) M = .ok (.bl true) M := fun M => rfl
      push_cast [n1]
      rfl
    | some p =>
      have p1 := kg k g hg p hp
      have n1 : ∀ M, oIsN false (parD (some p)) M = .ok (.bl false) M := fun M => rfl
      have np : ∀ M, oIx (.lst (natsD (numsK Q Q.length))) (parD (some p)) M = .ok (.int (nmA Q p : Int)) M := fun M => num_ix (Q := Q) (Nat.lt_trans p1 hk) M
      push_cast [n1, np]
      rfl
  obtain ⟨ZI, hZI⟩ : ∃ Z : FE, mIf (bOf (mUn (oIsN false) (mVar 10))) (mC .non) (mOp oIx (mVar 2) (mVar 10)) = Z := ⟨_, rfl⟩
  rw [hZI] at hab
  obtain ⟨ND, hND⟩ : ∃ N, D.lst (natsD (numsK Q Q.length)) = N := ⟨_, rfl⟩
  rw [hND] at hab nk ⊢
  have d0 := pt0 g.pl
  have d1 := pt0 g.ho
  have q0 := fun M => str_eq g.pl.1 hn M
  have q1 := fun M => str_eq g.ho.1 hn M
  have lA : A.length < 16777216 := by omega
  have lB : B.length < 16777216 := by omega
  have ap0 : ∀ B', oAppend (.ref M.length) [.tup [.str [114, 111, 111, 116], .int 0, .int (nmA Q k : Int), ptD g.pl, strT g.rs, .int g.far, ptD g.ho, parD (g.pa.map (nmA Q))]] (M ++ [Cell.lst A, B']) = .ok .non (M ++ [.lst (A ++ [rwD (rootW Q (g, k))]), B']) := fun B' => by rw [oAppend_at (g0 _ _) lA, s0]; rfl
  have ap1 : ∀ B', oAppend (.ref (M.length + 1)) [.tup [.str [112, 117, 116], .int 0, ptD g.ho, .str g.pl.1, .int (nmA Q k : Int), ptD g.pl, strT g.rs, .int g.far, .non]] (M ++ [B', Cell.lst B]) = .ok .non (M ++ [B', .lst (B ++ [rwD (putW Q (g, k))])]) := fun B' => by rw [oAppend_at (g1 _ _) lB, s1]; rfl
  have t0 : ∀ C B', tyOk "list" (M ++ [Cell.lst C, B']) (.ref M.length) = true := fun C B' => tyOk_at (g0 _ _)
  have t1 : ∀ C B', tyOk "list" (M ++ [B', Cell.lst C]) (.ref (M.length + 1)) = true := fun C B' => tyOk_at (g1 _ _)
  unfold L_first_rows_0
  rw [hZI]
  by_cases c1 : g.pl.1 = hn
  · rw [decide_eq_true c1] at q0
    rw [if_pos c1]
    by_cases c2 : g.ho.1 = hn
    · rw [decide_eq_true c2] at q1
      rw [if_pos c2]
      push_cast [hab, d0, q0, nk, t0, ap0, d1, q1, t1, ap1]
    · rw [decide_eq_false c2] at q1
      rw [if_neg c2]
      push_cast [hab, d0, q0, nk, t0, ap0, d1, q1]
  · rw [decide_eq_false c1] at q0
    rw [if_neg c1]
    by_cases c2 : g.ho.1 = hn
    · rw [decide_eq_true c2] at q1
      rw [if_pos c2]
      push_cast [hab, d0, q0, nk, d1, q1, t1, ap1]
    · rw [decide_eq_false c2] at q1
      rw [if_neg c2]
      push_cast [hab, d0, q0, nk, d1, q1]
theorem numb_get {α : Type} (f : α → D) (l : List α) {k : Nat} {d : D} (h : (numb (l.map f))[k]? = some d) : ∃ x, l[k]? = some x ∧ d = .tup [.int (k : Int), f x] := by
  unfold numb at h
  cases hk : l[k]? with
  | none =>
    have hge : l.length ≤ k := by simpa using hk
    rw [List.getElem?_eq_none (by simp; omega)] at h
    cases h
  | some x =>
    have hlt : k < l.length := (List.getElem?_eq_some_iff.mp hk).1
    rw [List.getElem?_zipWith, List.length_map, List.getElem?_range hlt, List.getElem?_map, hk] at h
    refine ⟨x, rfl, ?_⟩
    simpa using h.symm
theorem numb_len (l : List D) : (numb l).length = l.length := by unfold numb; simp
theorem bg_map (Q : List Rt) (hn : Nm) : (bgW Q hn).map rwD = ((rtsO Q hn Q.length).map fun x => rwD (rootW Q x)) ++ ((ptsO Q hn Q.length).map fun x => rwD (putW Q x)) := by
  unfold bgW
  rw [List.map_append, List.map_map, List.map_map]; rfl
theorem first_rows_eq {Q : List Rt} (hl : Q.length ≤ 900) (kQ : PaOk Q) (H : List Hu) (hn : Nm) (M : Mem) : g_first_rows [planD H Q, .str hn] M = .ok (.lst ((bgW Q hn).map rwD)) M := by
  have e0 := numbers_eq (Q := Q) (by omega) H M
  obtain ⟨env', m', e, y5, y6, y7, y8, y9, y10, y11, rfl, rfl⟩ := forL_inv (g := gT 2 (gsCons (gN 5) (gsCons (gT 5 (gsCons (gN 6) (gsCons (gN 7) (gsCons (gN 8) (gsCons (gN 9) (gsCons (gN 10) gsNil)))))) gsNil))) (body := L_first_rows_0) (fun k env m => ∃ y5 y6 y7 y8 y9 y10 y11, env = [some (planD H Q), some (.str hn), some (.lst (natsD (numsK Q Q.length))), some (.ref M.length), some (.ref (M.length + 1)), y5, y6, y7, y8, y9, y10, y11] ∧ m = M ++ [.lst ((rtsO Q hn k).map fun x => rwD (rootW Q x)), .lst ((ptsO Q hn k).map fun x => rwD (putW Q x))]) (numb (Q.map rtD)) 0 [some (planD H Q), some (.str hn), some (.lst (natsD (numsK Q Q.length))), some (.ref M.length), some (.ref (M.length + 1)), none, none, none, none, none, none, none] (M ++ [.lst [], .lst []]) ⟨_, _, _, _, _, _, _, rfl, rfl⟩ (by
    rintro k d env m hk ⟨y5, y6, y7, y8, y9, y10, y11, rfl, rfl⟩
    obtain ⟨g, hg, rfl⟩ := numb_get rtD Q hk
    rw [Nat.zero_add]
    exact ⟨_, _, fr_turn (by omega) hg kQ M (some (planD H Q)) y11, _, _, _, _, _, _, _, rfl, rfl⟩)
  rw [numb_len, List.length_map, Nat.zero_add] at e
  have l1 := rtsO_len (Q := Q) (hn := hn) (k := Q.length)
  have l2 := ptsO_len (Q := Q) (hn := hn) (k := Q.length)
  have hB : runB B_first_rows 12 [planD H Q, .str hn] M = .ok (.lst ((bgW Q hn).map rwD)) (M ++ [.lst ((rtsO Q hn Q.length).map fun x => rwD (rootW Q x)), .lst ((ptsO Q hn Q.length).map fun x => rwD (putW Q x))]) := by
    refine runB_rt (N := 12) ?_
    show B_first_rows [some (planD H Q), some (.str hn), none, none, none, none, none, none, none, none, none, none] M = _
    have ad := add_refs (M := M ++ [Cell.lst ((rtsO Q hn Q.length).map fun x => rwD (rootW Q x)), .lst ((ptsO Q hn Q.length).map fun x => rwD (putW Q x))]) (i := M.length) (j := M.length + 1) (app_get0 rfl) (app_get1 rfl) (by rw [List.length_map, List.length_map]; omega)
    rw [← bg_map] at ad
    have p1 := pl1 H Q
    obtain ⟨PD, hPD⟩ : ∃ PD, planD H Q = PD := ⟨_, rfl⟩
    rw [hPD] at e0 e p1 ⊢
    obtain ⟨QD, hQD⟩ : ∃ QD, Q.map rtD = QD := ⟨_, rfl⟩
    rw [hQD] at e p1
    obtain ⟨ND, hND⟩ : ∃ N, D.lst (natsD (numsK Q Q.length)) = N := ⟨_, rfl⟩
    rw [hND] at e0 e
    have ml : (M ++ [Cell.lst []]).length = M.length + 1 := by simp
    have ma : (M ++ [Cell.lst []]) ++ [Cell.lst []] = M ++ [.lst [], .lst []] := by simp
    push_cast [B_first_rows, e0, ml, ma, p1, iEnumX_eq, enX_tup, mFor_eq, e, ad]
  obtain ⟨p, hp, _⟩ := Pl.lst (rows_pl (l := bgW Q hn) fun r hr => rowh_ok (bg_rowh r hr))
  exact gc_val0 hB hp
theorem kp0 (v : D) : putD "plan" v ([] : List (Str × D)) = ([("plan", v)] : List (Str × D)) := rfl
theorem kp1 (x0 v : D) : putD "house" v ([("plan", x0)] : List (Str × D)) = ([("plan", x0), ("house", v)] : List (Str × D)) := by simp only [putD, kn_nplan_house, if_false]
theorem kp2 (x0 x1 v : D) : putD "lease" v ([("plan", x0), ("house", x1)] : List (Str × D)) = ([("plan", x0), ("house", x1), ("lease", v)] : List (Str × D)) := by simp only [putD, kn_nplan_lease, kn_nhouse_lease, if_false]
theorem kp3 (x0 x1 x2 v : D) : putD "every" v ([("plan", x0), ("house", x1), ("lease", x2)] : List (Str × D)) = ([("plan", x0), ("house", x1), ("lease", x2), ("every", v)] : List (Str × D)) := by simp only [putD, kn_nplan_every, kn_nhouse_every, kn_nlease_every, if_false]
theorem kp4 (x0 x1 x2 x3 v : D) : putD "stone" v ([("plan", x0), ("house", x1), ("lease", x2), ("every", x3)] : List (Str × D)) = ([("plan", x0), ("house", x1), ("lease", x2), ("every", x3), ("stone", v)] : List (Str × D)) := by simp only [putD, kn_nplan_stone, kn_nhouse_stone, kn_nlease_stone, kn_nevery_stone, if_false]
theorem kp5 (x0 x1 x2 x3 x4 v : D) : putD "letters" v ([("plan", x0), ("house", x1), ("lease", x2), ("every", x3), ("stone", x4)] : List (Str × D)) = ([("plan", x0), ("house", x1), ("lease", x2), ("every", x3), ("stone", x4), ("letters", v)] : List (Str × D)) := by simp only [putD, kn_nplan_letters, kn_nhouse_letters, kn_nlease_letters, kn_nevery_letters, kn_nstone_letters, if_false]
theorem kp6 (x0 x1 x2 x3 x4 x5 v : D) : putD "kept" v ([("plan", x0), ("house", x1), ("lease", x2), ("every", x3), ("stone", x4), ("letters", x5)] : List (Str × D)) = ([("plan", x0), ("house", x1), ("lease", x2), ("every", x3), ("stone", x4), ("letters", x5), ("kept", v)] : List (Str × D)) := by simp only [putD, kn_nplan_kept, kn_nhouse_kept, kn_nlease_kept, kn_nevery_kept, kn_nstone_kept, kn_nletters_kept, if_false]
theorem kp7 (x0 x1 x2 x3 x4 x5 x6 v : D) : putD "opened" v ([("plan", x0), ("house", x1), ("lease", x2), ("every", x3), ("stone", x4), ("letters", x5), ("kept", x6)] : List (Str × D)) = ([("plan", x0), ("house", x1), ("lease", x2), ("every", x3), ("stone", x4), ("letters", x5), ("kept", x6), ("opened", v)] : List (Str × D)) := by simp only [putD, kn_nplan_opened, kn_nhouse_opened, kn_nlease_opened, kn_nevery_opened, kn_nstone_opened, kn_nletters_opened, kn_nkept_opened, if_false]
theorem stone_init (m : Mem) (l : List Rw5) : g_Stone___init__ [.ref m.length, .lst (l.map rwD)] (m ++ [.ins 2 []]) = .ok .non (m ++ [.ins 2 (snF (.ref (m.length + 1)) (.int (l.length : Int))), .lst (l.map rwD)]) := by
  refine runB_nx (N := 2) (env := [some (.ref m.length), some (.lst (l.map rwD))]) ?_
  show B_Stone___init__ [some (.ref m.length), some (.lst (l.map rwD))] (m ++ [.ins 2 []]) = _
  have z1 : ∀ v, putD "written" v [] = ([("written", v)] : List (Str × D)) := fun v => rfl
  have z2 : ∀ v u, putD "firm" u [("written", v)] = snF v u := fun v u => by simp only [putD, snF, sn_nwritten_firm, if_false]
  have lkw : ∀ v, ([("written", v)] : List (Str × D)).lookup ("written" : Str) = some v := fun v => by simp only [List.lookup, beq_self_eq_true]
  have ol : ∀ (M : Mem), oList true [.lst (l.map rwD)] M = .ok (.ref M.length) (M ++ [.lst (l.map rwD)]) := fun M => rfl
  have gt : ∀ c (B : Mem), (m ++ c :: B)[m.length]? = some c := fun c B => app_get0 rfl
  have st : ∀ c d (B : Mem), (m ++ c :: B).set m.length d = m ++ d :: B := fun c d B => app_set0 rfl
  have le : ∀ c : Cell, (m ++ [c]).length = m.length + 1 := fun c => by simp
  have ap : ∀ c d : Cell, (m ++ [c]) ++ [d] = m ++ [c, d] := fun c d => by simp
  have g1 : ∀ c, (m ++ [c, Cell.lst (l.map rwD)])[m.length + 1]? = some (.lst (l.map rwD)) := fun c => app_get1 rfl
  have on : ∀ c, oLen [.ref (m.length + 1)] (m ++ [c, Cell.lst (l.map rwD)]) = .ok (.int (l.length : Int)) (m ++ [c, Cell.lst (l.map rwD)]) := fun c => by rw [oLen_ref (g1 c), List.length_map]
  have lt0 : (0 < 1000) = True := by simp
  have lt1 : (1 < 1000) = True := by simp
  obtain ⟨RL, hRL⟩ : ∃ X, l.map rwD = X := ⟨_, rfl⟩
  rw [hRL] at ol on ⊢
  push_cast [B_Stone___init__, mFldSet_eq, mFld_eq, insOf_at (gt _ _), st, ol, le, ap, on, z1, z2, lkw, lt0, lt1]
abbrev askN : Nm := [97, 115, 107]
abbrev answerN : Nm := [97, 110, 115, 119, 101, 114]
theorem leD_nat (a b : Nat) : leD (.int (a : Int)) (.int (b : Int)) = decide (a ≤ b) := by
  have h := congrFun (congrFun (PySem.W.dataLe_int (β := Nat) (fun x : Nat => (x : Int))) a) b
  show PySem.W.dataLe false (fun x : Nat => PyData.int (x : Int)) a b = _
  rw [h]
  simp
def zipK {α : Type} (f : α → D) (S : List α) : List (KK × D) := S.zipIdx.map fun x => ((.inl (x.2 : Int) : KK), f x.1)
theorem zipK_len {α : Type} (f : α → D) (S : List α) : (zipK f S).length = S.length := by unfold zipK; simp
theorem gA_zip0 {α : Type} (f : α → D) (p : Nat) : ∀ (S : List α) (o : Nat), gA ((S.zipIdx o).map fun x => ((.inl (x.2 : Int) : KK), f x.1)) (.inl (p : Int)) = if o ≤ p then (S[p - o]?).map f else none
  | [], o => by simp [gA]
  | a :: S, o => by
    rw [List.zipIdx_cons, List.map_cons]
    by_cases c : o = p
    · subst c
      rw [if_pos (Nat.le_refl _), Nat.sub_self]
      simp [gA]
    · have hne : ¬ ((Sum.inl (o : Int) : KK) = .inl (p : Int)) := fun z => by injection z with z; omega
      have g1 : gA (((.inl (o : Int) : KK), f a) :: (S.zipIdx (o + 1)).map fun x => ((.inl (x.2 : Int) : KK), f x.1)) (.inl (p : Int)) = gA ((S.zipIdx (o + 1)).map fun x => ((.inl (x.2 : Int) : KK), f x.1)) (.inl (p : Int)) := by
        unfold gA
        rw [List.find?_cons_of_neg (by simpa using hne)]
      show gA (((.inl (o : Int) : KK), f a) :: (S.zipIdx (o + 1)).map fun x => ((.inl (x.2 : Int) : KK), f x.1)) (.inl (p : Int)) = _
      rw [g1, gA_zip0 f p S (o + 1)]
      by_cases d : o ≤ p
      · rw [if_pos (by omega), if_pos d, show p - o = (p - (o + 1)) + 1 by omega, List.getElem?_cons_succ]
      · rw [if_neg (by omega), if_neg d]
theorem gA_zip {α : Type} (f : α → D) (S : List α) (p : Nat) : gA (zipK f S) (.inl (p : Int)) = (S[p]?).map f := by
  have := gA_zip0 f p S 0
  unfold zipK
  rw [this, if_pos (Nat.zero_le _), Nat.sub_zero]
theorem pA_none {κ : Type} [DecidableEq κ] {kvs : List (κ × D)} {k : κ} {v : D} (h : gA kvs k = none) : pA kvs k v = kvs ++ [(k, v)] := by
  unfold pA
  have hn : (kvs.any fun kv => decide (kv.1 = k)) = false := by
    rw [Bool.eq_false_iff]
    intro z
    unfold gA at h
    rw [Option.map_eq_none_iff] at h
    obtain ⟨kv, hk, hd⟩ := List.any_eq_true.mp z
    have : (kvs.find? fun kv => decide (kv.1 = k)).isSome = true := List.find?_isSome.mpr ⟨kv, hk, hd⟩
    rw [h] at this; cases this
  rw [if_neg (by rw [hn]; simp)]
theorem pA_zip_new {α : Type} (f : α → D) (S : List α) (a : α) : pA (zipK f S) (.inl (S.length : Int)) (f a) = zipK f (S ++ [a]) := by
  have h : gA (zipK f S) (.inl (S.length : Int)) = none := by rw [gA_zip, List.getElem?_eq_none (Nat.le_refl _)]; rfl
  rw [pA_none h]
  unfold zipK
  rw [List.zipIdx_append, List.map_append]
  simp
theorem pA_zip_set {α : Type} (f : α → D) (S : List α) {c : Nat} (hc : c < S.length) (a : α) : pA (zipK f S) (.inl (c : Int)) (f a) = zipK f (S.set c a) := by
  have hs : (gA (zipK f S) (.inl (c : Int))).isSome = true := by rw [gA_zip, List.getElem?_eq_getElem hc]; rfl
  unfold pA
  have hn : ((zipK f S).any fun kv => decide (kv.1 = (.inl (c : Int) : KK))) = true := by
    unfold gA at hs
    rw [Option.isSome_map] at hs
    obtain ⟨kv, h1, h2⟩ := List.find?_isSome.mp hs
    exact List.any_eq_true.mpr ⟨kv, h1, h2⟩
  rw [if_pos hn]
  apply List.ext_getElem?
  intro j
  unfold zipK
  rw [List.map_map, List.getElem?_map, List.getElem?_map, List.getElem?_zipIdx, List.getElem?_zipIdx, List.getElem?_set]
  by_cases hj : c = j
  · subst hj
    rw [if_pos rfl, if_pos hc, List.getElem?_eq_getElem hc]
    simp
  · rw [if_neg hj]
    cases h : S[j]? with
    | none => rfl
    | some x =>
      have : ¬ (j = c) := fun z => hj z.symm
      simp
      omega
structure As where
  t : Nat
  what : D
  ans : D
def asV (a : As) : D := .tup [.int (a.t : Int), a.what, a.ans]
def askR (t c : Nat) (what : D) : Rw5 := .oth askN t [.int (c : Int), what]
def answerR (t c : Nat) (a : D) : Rw5 := .oth answerN t [.int (c : Int), a]
/-- how a row changes what is asked -/
def askF (S : List As) : Rw5 → List As
  | .oth w t ps => if w = askN then S ++ [⟨t, ps.getD 1 .non, .non⟩] else if w = answerN then (match ps with
    | .int c :: a :: _ => match S[c.toNat]? with
      | some x => S.set c.toNat ⟨x.t, x.what, a⟩
      | none => S
    | _ => S) else S
  | _ => S
def asksL (l : List Rw5) : List As := l.foldl askF []
inductive AskS (S : List As) : Rw5 → Prop where
  | ask (t : Nat) (what : D) : AskS S (askR t S.length what)
  | answer (t : Nat) (c : Nat) (a : D) (h : c < S.length) : AskS S (answerR t c a)
  | other (r : Rw5) (h1 : r.w ≠ askN) (h2 : r.w ≠ answerN) : AskS S r
def AskL (l : List Rw5) : Prop := ∀ k r, l[k]? = some r → AskS (asksL (l.take k)) r
theorem asksL_snoc (l : List Rw5) (r : Rw5) : asksL (l ++ [r]) = askF (asksL l) r := by unfold asksL; rw [List.foldl_append]; rfl
theorem askF_ask (S : List As) (t c : Nat) (what : D) : askF S (askR t c what) = S ++ [⟨t, what, .non⟩] := by
  simp only [askR, askF, if_true]; rfl
theorem askF_answer (S : List As) (t c : Nat) (a : D) {x : As} (h : S[c]? = some x) : askF S (answerR t c a) = S.set c ⟨x.t, x.what, a⟩ := by
  simp only [answerR, askF]
  rw [if_neg (by decide), if_pos trivial]
  simp [h]
theorem askF_other (S : List As) (r : Rw5) (h1 : r.w ≠ askN) (h2 : r.w ≠ answerN) : askF S r = S := by
  cases r with
  | oth w t ps => simp only [askF]; rw [if_neg (show w ≠ askN from h1), if_neg (show w ≠ answerN from h2)]
  | _ => rfl
theorem askF_len (S : List As) (r : Rw5) : (askF S r).length ≤ S.length + 1 := by
  cases r with
  | oth w t ps =>
    simp only [askF]
    split
    · simp
    · split
      · split
        · split
          · simp
          · omega
        · omega
      · omega
  | _ => simp only [askF]; omega
theorem asksL_len (l : List Rw5) : (asksL l).length ≤ l.length := by
  suffices ∀ (l : List Rw5) (S : List As), (l.foldl askF S).length ≤ S.length + l.length by
    have := this l []
    simpa [asksL] using this
  intro l
  induction l with
  | nil => intro S; simp
  | cons r l ih => intro S; have h1 := ih (askF S r); have h2 := askF_len S r; rw [List.foldl_cons, List.length_cons]; omega
theorem AskL.nil : AskL [] := fun k r h => by simp at h
theorem AskL.snoc {l : List Rw5} {r : Rw5} (h : AskL l) (hr : AskS (asksL l) r) : AskL (l ++ [r]) := fun k q hk => by
  by_cases hl : k < l.length
  · rw [List.getElem?_append_left hl] at hk
    rw [List.take_append_of_le_length (by omega)]
    exact h k q hk
  · rw [List.getElem?_append_right (by omega)] at hk
    have hk0 : k - l.length = 0 := by have := (List.getElem?_eq_some_iff.mp hk).1; simp at this; omega
    rw [hk0] at hk
    have hk : some r = some q := hk
    cases hk
    have : k = l.length := by omega
    rw [this, List.take_append_of_le_length (Nat.le_refl _), List.take_length]
    exact hr
theorem ask_turn {M0 : Mem} {S : List As} {r : Rw5} (h : AskS S r) (hl : S.length ≤ 10000) (x0 x2 x3 x4 x5 : Option D) (hx2 : x2 = some (.str r.w)) (hx3 : x3 = some (.int (r.t : Int))) (hx4 : x4 = some (.lst r.ps)) :
    L_asks_0 [x0, some (.ref M0.length), x2, x3, x4, x5] (M0 ++ [.dk false (zipK asV S)]) = .ok (.nx [x0, some (.ref M0.length), x2, x3, x4, x5]) (M0 ++ [.dk false (zipK asV (askF S r))]) := by
  subst hx2 hx3 hx4
  have q1 : ∀ M, oEq false (.str r.w) (.str [97, 115, 107]) M = .ok (.bl (decide (r.w = askN))) M := fun M => str_eq _ _ M
  have q2 : ∀ M, oEq false (.str r.w) (.str [97, 110, 115, 119, 101, 114]) M = .ok (.bl (decide (r.w = answerN))) M := fun M => str_eq _ _ M
  have g0 : ∀ C, (M0 ++ [Cell.dk false C])[M0.length]? = some (.dk false C) := fun C => app_get0 rfl
  have s0 : ∀ C E, (M0 ++ [Cell.dk false C]).set M0.length (.dk false E) = M0 ++ [.dk false E] := fun C E => app_set0 rfl
  have zl : (zipK asV S).length < 16777216 := by rw [zipK_len]; omega
  cases h with
  | ask t what =>
    rw [askF_ask]
    have q1 : ∀ M, oEq false (.str (askR t S.length what).w) (.str [97, 115, 107]) M = .ok (.bl true) M := fun M => by rw [q1, decide_eq_true (show (askR t S.length what).w = askN from rfl)]
    have q2 : ∀ M, oEq false (.str (askR t S.length what).w) (.str [97, 110, 115, 119, 101, 114]) M = .ok (.bl false) M := fun M => by rw [q2, decide_eq_false (show ¬ (askR t S.length what).w = answerN from (by decide : ¬ askN = answerN))]
    have ps : D.lst (askR t S.length what).ps = .lst [.int (S.length : Int), what] := rfl
    have i0 : ∀ M, oIxA (.lst [.int (S.length : Int), what]) (.int 0) M = .ok (.int (S.length : Int)) M := fun _ => rfl
    have i1 : ∀ M, oIxA (.lst [.int (S.length : Int), what]) (.int 1) M = .ok what M := fun _ => rfl
    have sp : sPut (M0 ++ [.dk false (zipK asV S)]) (.ref M0.length) (.int (S.length : Int)) (.tup [.int ((askR t S.length what).t : Int), what, .non]) = some (M0 ++ [.dk false (zipK asV (S ++ [⟨t, what, .non⟩]))]) := by
      rw [sPut_dk (g0 _) zl, s0]
      have := pA_zip_new asV S ⟨t, what, .non⟩
      rw [← this]; rfl
    rw [ps]
    obtain ⟨WD, hWD⟩ : ∃ X, (askR t S.length what).w = X := ⟨_, rfl⟩
    rw [hWD] at q1 q2 ⊢
    obtain ⟨PS, hPS⟩ : ∃ X, D.lst [.int (S.length : Int), what] = X := ⟨_, rfl⟩
    rw [hPS] at i0 i1 ⊢
    push_cast [L_asks_0, q1, i1, i0, gIxA_eq, sp, q2]
  | answer t c a hcl =>
    have hx := List.getElem?_eq_getElem hcl
    rw [askF_answer S t c a hx]
    obtain ⟨x, hxx⟩ : ∃ x, S[c] = x := ⟨_, rfl⟩
    rw [hxx] at hx
    rw [hxx]
    have q1 : ∀ M, oEq false (.str (answerR t c a).w) (.str [97, 115, 107]) M = .ok (.bl false) M := fun M => by rw [q1, decide_eq_false (show ¬ (answerR t c a).w = askN from (by decide : ¬ answerN = askN))]
    have q2 : ∀ M, oEq false (.str (answerR t c a).w) (.str [97, 110, 115, 119, 101, 114]) M = .ok (.bl true) M := fun M => by rw [q2, decide_eq_true (show (answerR t c a).w = answerN from rfl)]
    have ps : D.lst (answerR t c a).ps = .lst [.int (c : Int), a] := rfl
    have i0 : ∀ M, oIxA (.lst [.int (c : Int), a]) (.int 0) M = .ok (.int (c : Int)) M := fun _ => rfl
    have i1 : ∀ M, oIxA (.lst [.int (c : Int), a]) (.int 1) M = .ok a M := fun _ => rfl
    have ix : oIxA (.ref M0.length) (.int (c : Int)) (M0 ++ [.dk false (zipK asV S)]) = .ok (asV x) (M0 ++ [.dk false (zipK asV S)]) := oIxA_dk (g0 _) (by rw [gA_zip, hx]; rfl)
    have sl : ∀ M, oSl false (asV x) none (some 2) M = .ok (.tup [.int (x.t : Int), x.what]) M := fun M => by unfold asV; rw [oSl_tup]; rfl
    have ad : ∀ M, oAdd false (.tup [.int (x.t : Int), x.what]) (.tup [a]) M = .ok (asV ⟨x.t, x.what, a⟩) M := fun M => by rw [oAddTT _ _ _ (by simp)]; rfl
    have sp : sPut (M0 ++ [.dk false (zipK asV S)]) (.ref M0.length) (.int (c : Int)) (asV ⟨x.t, x.what, a⟩) = some (M0 ++ [.dk false (zipK asV (S.set c ⟨x.t, x.what, a⟩))]) := by
      rw [sPut_dk (g0 _) zl, s0, pA_zip_set asV S hcl]
    rw [ps]
    obtain ⟨WD, hWD⟩ : ∃ X, (answerR t c a).w = X := ⟨_, rfl⟩
    rw [hWD] at q1 q2 ⊢
    obtain ⟨PS, hPS⟩ : ∃ X, D.lst [.int (c : Int), a] = X := ⟨_, rfl⟩
    rw [hPS] at i0 i1 ⊢
    push_cast [L_asks_0, q1, q2, i0, ix, sl, i1, ad, gIxA_eq, sp]
  | other _ h1 h2 =>
    rw [askF_other S r h1 h2]
    rw [decide_eq_false h1] at q1
    rw [decide_eq_false h2] at q2
    push_cast [L_asks_0, q1, q2]
theorem as_tgt {r : Rw5} (ok : RwOk r) (x0 x1 x2 x3 x4 x5 : Option D) (M : Mem) : (gS 3 2 (gsCons (gN 2) (gsCons (gN 3) (gsCons (gN 4) gsNil)))) (rwD r) [x0, x1, x2, x3, x4, x5] M = .ok [x0, x1, some (.str r.w), some (.int r.t), some (.lst r.ps), x5] M := by
  have pl := ps_len ok
  have d1 : (3 ≤ (D.str r.w :: D.int r.t :: r.ps).length + 1 ∧ (D.str r.w :: D.int r.t :: r.ps).length ≤ 16384) := by simp; omega
  have tk : (List.drop 2 (D.str r.w :: D.int r.t :: r.ps)).take ((D.str r.w :: D.int r.t :: r.ps).length + 1 - 3) = r.ps := List.take_of_length_le (by simp)
  have dr : (List.drop 2 (D.str r.w :: D.int r.t :: r.ps)).drop ((D.str r.w :: D.int r.t :: r.ps).length + 1 - 3) = [] := List.drop_of_length_le (by simp)
  have t2 : (D.str r.w :: D.int r.t :: r.ps).take 2 = [D.str r.w, D.int r.t] := rfl
  rw [rwD_ps, gS_eq, if_pos d1, tk, dr, t2]
  rfl
theorem ask_loop {M0 : Mem} (x0 x5 : Option D) {l : List Rw5} (h : AskL l) (ok : ∀ r ∈ l, RwOk r) (hl : l.length ≤ 10000) : ∃ y2 y3 y4,
    forL (fun _ => True) (gS 3 2 (gsCons (gN 2) (gsCons (gN 3) (gsCons (gN 4) gsNil)))) L_asks_0 (l.map rwD) [x0, some (.ref M0.length), none, none, none, x5] (M0 ++ [.dk false []]) = .ok (.nx [x0, some (.ref M0.length), y2, y3, y4, x5]) (M0 ++ [.dk false (zipK asV (asksL l))]) := by
  obtain ⟨env', m', e, y2, y3, y4, rfl, rfl⟩ := forL_inv (g := gS 3 2 (gsCons (gN 2) (gsCons (gN 3) (gsCons (gN 4) gsNil)))) (body := L_asks_0) (fun k env m => ∃ (y2 y3 y4 : Option D), env = [x0, some (.ref M0.length), y2, y3, y4, x5] ∧ m = M0 ++ [.dk false (zipK asV (asksL (l.take k)))]) (l.map rwD) 0 [x0, some (.ref M0.length), none, none, none, x5] (M0 ++ [.dk false []]) ⟨none, none, none, rfl, rfl⟩ (by
    rintro k d env m hk ⟨y2, y3, y4, rfl, rfl⟩
    rw [Nat.zero_add]
    rw [List.getElem?_map] at hk
    obtain ⟨r, hr, rfl⟩ := Option.map_eq_some_iff.mp hk
    have hkl := (List.getElem?_eq_some_iff.mp hr).1
    have sl := asksL_len (l.take k)
    rw [List.length_take] at sl
    have ht : l.take (k + 1) = l.take k ++ [r] := by rw [List.take_succ, hr]; rfl
    have tu := ask_turn (M0 := M0) (h k r hr) (by omega) x0 (some (.str r.w)) (some (.int (r.t : Int))) (some (.lst r.ps)) x5 rfl rfl rfl
    rw [ht, asksL_snoc]
    refine ⟨_, _, ?_, some (.str r.w), some (.int (r.t : Int)), some (.lst r.ps), rfl, rfl⟩
    rw [as_tgt (ok r (List.mem_of_getElem? hr)), R.bind_ok]
    exact tu)
  rw [List.length_map, Nat.zero_add, List.take_length] at e
  exact ⟨y2, y3, y4, e⟩
theorem take_sn {α : Type} {S : List α} {k : Nat} (h : k < S.length) : S.take (k + 1) = S.take k ++ [S[k]] := by rw [List.take_succ, List.getElem?_eq_getElem h]; rfl
theorem dc_asks {M : Mem} {c : Nat} {S : List As} (hc : M[c]? = some (.dk false (zipK asV S))) (hS : S.length ≤ 10000) (x0 x2 x3 x4 : Option D) : ∀ (n k : Nat), k + n = S.length →
    dcL (fun _ => True) (gN 5) tsYes C_asks_2 C_asks_1 [x0, some (.ref c), x2, x3, x4, none] M.length (natsD ((List.range n).map (k + ·))) (M ++ [.dk false (zipK asV (S.take k))]) = .ok () (M ++ [.dk false (zipK asV S)])
  | 0, k, h => by
    have : S.take k = S := List.take_of_length_le (by omega)
    rw [this]
    show dcL (fun _ => True) (gN 5) tsYes C_asks_2 C_asks_1 _ _ [] _ = _
    unfold dcL; rw [if_pos trivial]
  | n + 1, k, h => by
    have hk : k < S.length := by omega
    have ih := dc_asks hc hS x0 x2 x3 x4 n (k + 1) (by omega)
    have er : natsD ((List.range (n + 1)).map (k + ·)) = .int (k : Int) :: natsD ((List.range n).map (k + 1 + ·)) := by
      rw [List.range_succ_eq_map, List.map_cons, List.map_map]
      show natsD ((k + 0) :: _) = _
      unfold natsD
      rw [List.map_cons, List.map_map, List.map_map, Nat.add_zero]
      congr 1
      apply List.map_congr_left
      intro a _
      show D.int ((k + (a + 1) : Nat) : Int) = D.int ((k + 1 + a : Nat) : Int)
      congr 2
      omega
    rw [er]
    have c2 : C_asks_2 [x0, some (.ref c), x2, x3, x4, some (.int (k : Int))] (M ++ [.dk false (zipK asV (S.take k))]) = .ok (.int (k : Int)) (M ++ [.dk false (zipK asV (S.take k))]) := by unfold C_asks_2; push_cast [if_true]
    have hc' : (M ++ [Cell.dk false (zipK asV (S.take k))])[c]? = some (.dk false (zipK asV S)) := by rw [List.getElem?_append_left (lt_of_get hc)]; exact hc
    have i1 : oIxA (.ref c) (.int (k : Int)) (M ++ [.dk false (zipK asV (S.take k))]) = .ok (asV S[k]) (M ++ [.dk false (zipK asV (S.take k))]) := oIxA_dk hc' (by rw [gA_zip, List.getElem?_eq_getElem hk]; rfl)
    have c1 : C_asks_1 [x0, some (.ref c), x2, x3, x4, some (.int (k : Int))] (M ++ [.dk false (zipK asV (S.take k))]) = .ok (asV S[k]) (M ++ [.dk false (zipK asV (S.take k))]) := by unfold C_asks_1; push_cast [i1]
    have g0 : (M ++ [Cell.dk false (zipK asV (S.take k))])[M.length]? = some (.dk false (zipK asV (S.take k))) := app_get0 rfl
    have kk : keyK (.int (k : Int)) = some (.inl (k : Int)) := rfl
    have la : (zipK asV (S.take k)).length < 16777216 := by rw [zipK_len, List.length_take]; omega
    have pz : pA (zipK asV (S.take k)) (.inl (k : Int)) (asV S[k]) = zipK asV (S.take (k + 1)) := by
      have := pA_zip_new asV (S.take k) S[k]
      rw [List.length_take, Nat.min_eq_left (Nat.le_of_lt hk)] at this
      rw [this, take_sn hk]
    unfold dcL
    rw [if_pos trivial, gN_eq, R.bind_ok, tsYes_eq, R.bind_ok, if_pos rfl]
    have se : ([x0, some (.ref c), x2, x3, x4, none] : Fn.Env).set 5 (some (.int (k : Int))) = [x0, some (.ref c), x2, x3, x4, some (.int (k : Int))] := rfl
    rw [se, c2, R.bind_ok, c1, R.bind_ok, g0, kk]
    simp only
    rw [if_pos la, app_set0 rfl, pz, ih]
theorem sort_range (n : Nat) : sortD (natsD (List.range n)) = natsD (List.range n) := by
  have e : sortD (natsD (List.range n)) = natsD ((List.range n).mergeSort fun a b => decide (a ≤ b)) := by
    unfold sortD natsD
    symm
    apply List.map_mergeSort
    intro a _ b _
    exact (leD_nat a b).symm
  have h := List.pairwise_mergeSort (le := fun a b : Nat => decide (a ≤ b)) (fun a b c h1 h2 => by simp at *; omega) (fun a b => by simp; omega) (List.range n)
  rw [e, List.Perm.eq_of_pairwise (le := fun a b : Nat => a ≤ b) (fun a b _ _ h1 h2 => Nat.le_antisymm h1 h2) (h.imp fun h => by simpa using h) List.pairwise_le_range (List.mergeSort_perm _ _)]
theorem asks_eq {M : Mem} {l : List Rw5} (h : AskL l) (ok : ∀ r ∈ l, RwOk r) (hl : l.length ≤ 5000) : g_asks [.tup (l.map rwD)] M = .ok (.ref (M.length + 1)) (M ++ [.dk false (zipK asV (asksL l)), .dk false (zipK asV (asksL l))]) := by
  obtain ⟨y2, y3, y4, e⟩ := ask_loop (M0 := M) (some (.tup (l.map rwD))) none h ok (by omega)
  have sl := asksL_len l
  obtain ⟨S, hS⟩ : ∃ X, asksL l = X := ⟨_, rfl⟩
  rw [hS] at e sl ⊢
  have g0 : (M ++ [Cell.dk false (zipK asV S)])[M.length]? = some (.dk false (zipK asV S)) := app_get0 rfl
  have km : (zipK asV S).map (fun kv => keyD kv.1) = natsD (List.range S.length) := by
    unfold zipK natsD
    rw [List.map_map]
    apply List.ext_getElem?
    intro j
    by_cases hj : j < S.length
    · rw [List.getElem?_map, List.getElem?_map, List.getElem?_range hj, List.getElem?_zipIdx, List.getElem?_eq_getElem hj]; simp [keyD]
    · rw [List.getElem?_eq_none (by simp; omega), List.getElem?_eq_none (by simp; omega)]
  have so : oSortS false [.ref M.length] (M ++ [Cell.dk false (zipK asV S)]) = .ok (.lst (natsD (List.range S.length))) (M ++ [Cell.dk false (zipK asV S)]) := by
    have sk : sortOk ((zipK asV S).map fun kv => keyD kv.1) := by rw [km]; exact sortOk_nats _
    simp only [oSortS, g0, sk, if_true, mkL_f]
    rw [km, sort_range]
  have dc := dc_asks (M := M ++ [Cell.dk false (zipK asV S)]) g0 (by omega) (some (.tup (l.map rwD))) y2 y3 y4 S.length 0 (by omega)
  have e0 : natsD ((List.range S.length).map (0 + ·)) = natsD (List.range S.length) := by
    congr 1
    exact (List.map_congr_left (fun a _ => Nat.zero_add a)).trans (List.map_id _)
  rw [e0, List.take_zero] at dc
  have lM : (M ++ [Cell.dk false (zipK asV S)]).length = M.length + 1 := by rw [List.length_append]; rfl
  have ap : M ++ [Cell.dk false (zipK asV S)] ++ [Cell.dk false (zipK asV S)] = M ++ [.dk false (zipK asV S), .dk false (zipK asV S)] := by rw [List.append_assoc]; rfl
  rw [ap, lM] at dc
  refine runB_rt (N := 6) (?_ : B_asks [some (.tup (l.map rwD)), none, none, none, none, none] M = _)
  have wp : wipeE [some (D.tup (l.map rwD)), some (.ref M.length), y2, y3, y4, none] [5] = [some (D.tup (l.map rwD)), some (.ref M.length), y2, y3, y4, none] := rfl
  have zn : zipK asV [] = [] := rfl
  rw [zn] at dc
  obtain ⟨RD, hRD⟩ : ∃ X, l.map rwD = X := ⟨_, rfl⟩
  rw [hRD] at e dc wp ⊢
  obtain ⟨M2, hM2⟩ : ∃ X, M ++ [Cell.dk false (zipK asV S)] = X := ⟨_, rfl⟩
  rw [hM2] at e so dc lM ap
  unfold B_asks
  push_cast [mDNewK_eq, mFor_eq, e, mDc_eq, so, wp, lM, dc]
section
variable (x0 x1 x2 x3 x4 x5 x6 x7 : D)
theorem lk_kn_wrote : (knF x0 x1 x2 x3 x4 x5 x6 x7).lookup ("wrote" : Str) = none := by simp only [knF, List.lookup, show (("wrote" : Str) == "plan") = false from by decide +kernel, show (("wrote" : Str) == "house") = false from by decide +kernel, show (("wrote" : Str) == "lease") = false from by decide +kernel, show (("wrote" : Str) == "every") = false from by decide +kernel, show (("wrote" : Str) == "stone") = false from by decide +kernel, show (("wrote" : Str) == "letters") = false from by decide +kernel, show (("wrote" : Str) == "kept") = false from by decide +kernel, show (("wrote" : Str) == "opened") = false from by decide +kernel]
theorem lk_kn_led : (knF x0 x1 x2 x3 x4 x5 x6 x7).lookup ("led" : Str) = none := by simp only [knF, List.lookup, show (("led" : Str) == "plan") = false from by decide +kernel, show (("led" : Str) == "house") = false from by decide +kernel, show (("led" : Str) == "lease") = false from by decide +kernel, show (("led" : Str) == "every") = false from by decide +kernel, show (("led" : Str) == "stone") = false from by decide +kernel, show (("led" : Str) == "letters") = false from by decide +kernel, show (("led" : Str) == "kept") = false from by decide +kernel, show (("led" : Str) == "opened") = false from by decide +kernel]
theorem lk_kn_asked : (knF x0 x1 x2 x3 x4 x5 x6 x7).lookup ("asked" : Str) = none := by simp only [knF, List.lookup, show (("asked" : Str) == "plan") = false from by decide +kernel, show (("asked" : Str) == "house") = false from by decide +kernel, show (("asked" : Str) == "lease") = false from by decide +kernel, show (("asked" : Str) == "every") = false from by decide +kernel, show (("asked" : Str) == "stone") = false from by decide +kernel, show (("asked" : Str) == "letters") = false from by decide +kernel, show (("asked" : Str) == "kept") = false from by decide +kernel, show (("asked" : Str) == "opened") = false from by decide +kernel]
theorem lk_kn_answer : (knF x0 x1 x2 x3 x4 x5 x6 x7).lookup ("answer" : Str) = none := by simp only [knF, List.lookup, show (("answer" : Str) == "plan") = false from by decide +kernel, show (("answer" : Str) == "house") = false from by decide +kernel, show (("answer" : Str) == "lease") = false from by decide +kernel, show (("answer" : Str) == "every") = false from by decide +kernel, show (("answer" : Str) == "stone") = false from by decide +kernel, show (("answer" : Str) == "letters") = false from by decide +kernel, show (("answer" : Str) == "kept") = false from by decide +kernel, show (("answer" : Str) == "opened") = false from by decide +kernel]
theorem lk_kn_table : (knF x0 x1 x2 x3 x4 x5 x6 x7).lookup ("table" : Str) = none := by simp only [knF, List.lookup, show (("table" : Str) == "plan") = false from by decide +kernel, show (("table" : Str) == "house") = false from by decide +kernel, show (("table" : Str) == "lease") = false from by decide +kernel, show (("table" : Str) == "every") = false from by decide +kernel, show (("table" : Str) == "stone") = false from by decide +kernel, show (("table" : Str) == "letters") = false from by decide +kernel, show (("table" : Str) == "kept") = false from by decide +kernel, show (("table" : Str) == "opened") = false from by decide +kernel]
theorem lk_kn_take_said : (knF x0 x1 x2 x3 x4 x5 x6 x7).lookup ("take_said" : Str) = none := by simp only [knF, List.lookup, show (("take_said" : Str) == "plan") = false from by decide +kernel, show (("take_said" : Str) == "house") = false from by decide +kernel, show (("take_said" : Str) == "lease") = false from by decide +kernel, show (("take_said" : Str) == "every") = false from by decide +kernel, show (("take_said" : Str) == "stone") = false from by decide +kernel, show (("take_said" : Str) == "letters") = false from by decide +kernel, show (("take_said" : Str) == "kept") = false from by decide +kernel, show (("take_said" : Str) == "opened") = false from by decide +kernel]
theorem lk_kn_hand : (knF x0 x1 x2 x3 x4 x5 x6 x7).lookup ("hand" : Str) = none := by simp only [knF, List.lookup, show (("hand" : Str) == "plan") = false from by decide +kernel, show (("hand" : Str) == "house") = false from by decide +kernel, show (("hand" : Str) == "lease") = false from by decide +kernel, show (("hand" : Str) == "every") = false from by decide +kernel, show (("hand" : Str) == "stone") = false from by decide +kernel, show (("hand" : Str) == "letters") = false from by decide +kernel, show (("hand" : Str) == "kept") = false from by decide +kernel, show (("hand" : Str) == "opened") = false from by decide +kernel]
theorem lk_kn_cut : (knF x0 x1 x2 x3 x4 x5 x6 x7).lookup ("cut" : Str) = none := by simp only [knF, List.lookup, show (("cut" : Str) == "plan") = false from by decide +kernel, show (("cut" : Str) == "house") = false from by decide +kernel, show (("cut" : Str) == "lease") = false from by decide +kernel, show (("cut" : Str) == "every") = false from by decide +kernel, show (("cut" : Str) == "stone") = false from by decide +kernel, show (("cut" : Str) == "letters") = false from by decide +kernel, show (("cut" : Str) == "kept") = false from by decide +kernel, show (("cut" : Str) == "opened") = false from by decide +kernel]
theorem lk_kn_call : (knF x0 x1 x2 x3 x4 x5 x6 x7).lookup ("call" : Str) = none := by simp only [knF, List.lookup, show (("call" : Str) == "plan") = false from by decide +kernel, show (("call" : Str) == "house") = false from by decide +kernel, show (("call" : Str) == "lease") = false from by decide +kernel, show (("call" : Str) == "every") = false from by decide +kernel, show (("call" : Str) == "stone") = false from by decide +kernel, show (("call" : Str) == "letters") = false from by decide +kernel, show (("call" : Str) == "kept") = false from by decide +kernel, show (("call" : Str) == "opened") = false from by decide +kernel]
end
section
variable (x0 x1 : D)
theorem lk_sn_write : (snF x0 x1).lookup ("write" : Str) = none := by simp only [snF, List.lookup, show (("write" : Str) == "written") = false from by decide +kernel, show (("write" : Str) == "firm") = false from by decide +kernel]
end
section
variable {M : Mem} {k st w lt : Nat} {plan : D} {house : Nm} {l : List Rw5} {firm : Nat} {L : List D}
def settM (M : Mem) (st w : Nat) (n : Nat) : Mem := M.set st (.ins 2 (snF (.ref w) (.int (n : Int))))
theorem settM_old {M : Mem} {st w n j : Nat} (h : j ≠ st) : (settM M st w n)[j]? = M[j]? := by unfold settM; rw [List.getElem?_set_ne (Ne.symm h)]
theorem settM_len {M : Mem} {st w n : Nat} : (settM M st w n).length = M.length := by unfold settM; rw [List.length_set]
theorem stone_settle (h : KAt M k st w lt plan house l firm L) : g_Stone_settle [.ref st] M = .ok .non (settM M st w l.length) := by
  refine runB_nx (N := 1) (env := [some (.ref st)]) (?_ : B_Stone_settle [some (.ref st)] M = _)
  have hi := insOf_at h.sto
  have ol : oLen [.ref w] M = .ok (.int (l.length : Int)) M := by rw [oLen_ref h.wri, List.length_map]
  have l2 := h.lts.2.1
  push_cast [B_Stone_settle, mFld_eq, mFldSet_eq, hi, lk_sn_written, ol, snF_len, put_sn_firm]
  rfl
theorem KAt.settle (h : KAt M k st w lt plan house l firm L) : KAt (settM M st w l.length) k st w lt plan house l l.length L := by
  obtain ⟨n1, n2, n3, n4, n5⟩ := h.nes
  obtain ⟨kp, op, h1⟩ := h.ker
  exact ⟨⟨kp, op, by rw [settM_old n1]; exact h1⟩, List.getElem?_set_self h.lts.2.1, by rw [settM_old (Ne.symm n4)]; exact h.wri, by rw [settM_old (Ne.symm n5)]; exact h.let_, h.ne⟩
/-- a row written and settled -/
def wroteM (M : Mem) (st w : Nat) (l : List Rw5) (r : Rw5) : Mem := settM (M.set w (.lst (l.map rwD ++ [rwD r]))) st w (l.length + 1)
theorem wroteM_old {M : Mem} {st w j : Nat} {r : Rw5} (h : j ≠ st) (h2 : j ≠ w) : (wroteM M st w l r)[j]? = M[j]? := by unfold wroteM; rw [settM_old h, List.getElem?_set_ne (Ne.symm h2)]
theorem wroteM_len {M : Mem} {st w : Nat} {r : Rw5} : (wroteM M st w l r).length = M.length := by unfold wroteM; rw [settM_len, List.length_set]
theorem wrote_eq (h : KAt M k st w lt plan house l firm L) (hl : l.length ≤ 5000) (r : Rw5) : g_Kernel_wrote [.ref k, rwD r] M = .ok .non (wroteM M st w l r) ∧ KAt (wroteM M st w l r) k st w lt plan house (l ++ [r]) (l.length + 1) L := by
  have sw := stone_write_eq h hl r
  have h1 := h.write r
  have s1 := stone_settle h1
  have k1 := h1.settle
  have ll : (l ++ [r]).length = l.length + 1 := by simp
  rw [ll] at s1 k1
  refine ⟨?_, k1⟩
  obtain ⟨kp, op, hk⟩ := h.ker
  obtain ⟨kp1, op1, hk1⟩ := h1.ker
  have i0 := insOf_at hk
  have i1 := insOf_at hk1
  have j0 := insOf_at h.sto
  have j1 := insOf_at h1.sto
  have ls0 := lk_kn_stone plan (.str house) (.int 6) (.int 3) (.ref st) (.ref lt) kp op
  have ls1 := lk_kn_stone plan (.str house) (.int 6) (.int 3) (.ref st) (.ref lt) kp1 op1
  refine runB_nx (N := 2) (env := [some (.ref k), some (rwD r)]) (?_ : B_Kernel_wrote [some (.ref k), some (rwD r)] M = _)
  have e : settM (M.set w (.lst (l.map rwD ++ [rwD r]))) st w (l.length + 1) = wroteM M st w l r := rfl
  rw [e] at s1
  obtain ⟨M1, hM1⟩ : ∃ X, M.set w (.lst (l.map rwD ++ [rwD r])) = X := ⟨_, rfl⟩
  rw [hM1] at sw s1 i1 j1
  obtain ⟨RD, hRD⟩ : ∃ X, rwD r = X := ⟨_, rfl⟩
  rw [hRD] at sw ⊢
  push_cast [B_Kernel_wrote, mMth_eq, mFld_eq, i0, ls0, j0, lk_sn_write, sw, i1, ls1, j1, lk_sn_settle, s1]
theorem asked_eq (h : KAt M k st w lt plan house l firm L) (ha : AskL l) (ok : ∀ r ∈ l, RwOk r) (hl : l.length ≤ 5000) (t : Nat) (what : D) :
    ∃ M', g_Kernel_asked [.ref k, .int t, what] M = .ok (.int ((asksL l).length : Int)) M' ∧ KAt M' k st w lt plan house (l ++ [askR t (asksL l).length what]) (l.length + 1) L ∧ M.length ≤ M'.length ∧ ∀ j, j < M.length → j ≠ st → j ≠ w → M'[j]? = M[j]? := by
  have as := asks_eq (M := M) ha ok hl
  obtain ⟨S, hS⟩ : ∃ X, asksL l = X := ⟨_, rfl⟩
  rw [hS] at as ⊢
  have h1 := h.app [.dk false (zipK asV S), .dk false (zipK asV S)]
  obtain ⟨M1, hM1⟩ : ∃ X, M ++ [Cell.dk false (zipK asV S), .dk false (zipK asV S)] = X := ⟨_, rfl⟩
  have g1 : M1[M.length + 1]? = some (.dk false (zipK asV S)) := by rw [← hM1]; exact app_get1 rfl
  have m1l : M1.length = M.length + 2 := by rw [← hM1]; simp
  have old1 : ∀ j, j < M.length → M1[j]? = M[j]? := fun j hj => by rw [← hM1, List.getElem?_append_left hj]
  rw [hM1] at as h1
  obtain ⟨we, k2⟩ := wrote_eq h1 hl (askR t S.length what)
  have sr := stone_rows_eq h
  have ol : oLenA [.ref (M.length + 1)] M1 = .ok (.int (S.length : Int)) M1 := by simp only [oLenA, dLen, g1, zipK_len]
  have rd : rwD (askR t S.length what) = .tup [.str askN, .int t, .int (S.length : Int), what] := rfl
  rw [rd] at we
  obtain ⟨kp, op, hk⟩ := h.ker
  obtain ⟨kp1, op1, hk1⟩ := h1.ker
  have i0 := insOf_at hk
  have i1 := insOf_at hk1
  have ls0 := lk_kn_stone plan (.str house) (.int 6) (.int 3) (.ref st) (.ref lt) kp op
  have lw1 := lk_kn_wrote plan (.str house) (.int 6) (.int 3) (.ref st) (.ref lt) kp1 op1
  refine ⟨wroteM M1 st w l (askR t S.length what), runB_rt (N := 4) (?_ : B_Kernel_asked [some (.ref k), some (.int (t : Int)), some what, none] M = _), k2, by rw [wroteM_len]; omega, fun j hj a b => by rw [wroteM_old a b, old1 j hj]⟩
  obtain ⟨RD, hRD⟩ : ∃ X, D.tup (l.map rwD) = X := ⟨_, rfl⟩
  rw [hRD] at sr as
  push_cast [B_Kernel_asked, mMth_eq, mFld_eq, i0, ls0, insOf_at h.sto, lk_sn_rows, sr, as, ol, i1, lw1, we]
theorem led_loop (x0 x1 : Option D) (M : Mem) (j : Nat) : ∀ (E : List Pu) (o : Nat) (x3 : Option D) (x : Pu), o ≤ j → E[j - o]? = some x →
    forL (fun _ => True) (gN 3) L_Kernel_led_0 ((E.zipIdx o).map tblR) [x0, x1, some (.tup [.int (j : Int), .int 0]), x3] M = .ok (.rt (tblR (x, j))) M
  | [], o, x3, x, _, h => by simp at h
  | e :: E, o, x3, x, ho, h => by
    rw [List.zipIdx_cons, List.map_cons]
    have r0 : ∀ M, oIx (tblR (e, o)) (.int 0) M = .ok (.tup [.int (o : Int), .int 0]) M := fun _ => rfl
    have q : ∀ M, oEq false (.tup [.int (o : Int), .int 0]) (.tup [.int (j : Int), .int 0]) M = .ok (.bl (decide (o = j))) M := fun M => by
      by_cases c : o = j
      · subst c; rw [decide_eq_true rfl]; exact oEq_exT (by rfl) (by simp [dpD, dpL])
      · rw [decide_eq_false c]
        exact oEq_exF (by rfl) (by rfl) (by simp [dpD, dpL]) (fun z => by injection z with z; injection z with z; injection z with z; omega)
    rw [forL_cons, gN_eq, R.bind_ok]
    have se : ([x0, x1, some (.tup [.int (j : Int), .int 0]), x3] : Fn.Env).set 3 (some (tblR (e, o))) = [x0, x1, some (.tup [.int (j : Int), .int 0]), some (tblR (e, o))] := rfl
    rw [se]
    by_cases c : o = j
    · subst c
      rw [Nat.sub_self] at h
      have h : some e = some x := h
      cases h
      rw [decide_eq_true rfl] at q
      have b : L_Kernel_led_0 [x0, x1, some (.tup [.int (o : Int), .int 0]), some (tblR (e, o))] M = .ok (.rt (tblR (e, o))) M := by
        obtain ⟨TD, hTD⟩ : ∃ X, tblR (e, o) = X := ⟨_, rfl⟩
        rw [hTD] at r0 ⊢
        push_cast [L_Kernel_led_0, r0, q]
      rw [b]; rfl
    · rw [decide_eq_false c] at q
      have b : L_Kernel_led_0 [x0, x1, some (.tup [.int (j : Int), .int 0]), some (tblR (e, o))] M = .ok (.nx [x0, x1, some (.tup [.int (j : Int), .int 0]), some (tblR (e, o))]) M := by
        obtain ⟨TD, hTD⟩ : ∃ X, tblR (e, o) = X := ⟨_, rfl⟩
        rw [hTD] at r0 ⊢
        push_cast [L_Kernel_led_0, r0, q]
      rw [b, R.bind_ok]
      simp only
      rw [show j - o = (j - (o + 1)) + 1 by omega, List.getElem?_cons_succ] at h
      exact led_loop x0 x1 M j E (o + 1) _ x (by omega) h
theorem led_eq (h : KAt M k st w lt plan house l firm L) (ok : ∀ r ∈ l, RwOk r) (po : ∀ r ∈ l, PutOk r) {who : Nm} (nd : ((putsOf l (house, who)).map puT).Nodup) (hl : (putsOf l (house, who)).length ≤ 800) {j : Nat} {x : Pu} (hx : (putsOf l (house, who))[j]? = some x) :
    g_Kernel_led [.ref k, .str who, .tup [.int (j : Int), .int 0]] M = .ok (tblR (x, j)) (settM M st w l.length) := by
  have s1 := stone_settle h
  have h1 := h.settle
  have te := table_eq (M := settM M st w l.length) ok po nd hl
  have sr := stone_rows_eq h1
  have lo := led_loop (some (.ref k)) (some (.str who)) (settM M st w l.length) j (putsOf l (house, who)) 0 none x (Nat.zero_le _) (by rw [Nat.sub_zero]; exact hx)
  obtain ⟨M1, hM1⟩ : ∃ X, settM M st w l.length = X := ⟨_, rfl⟩
  rw [hM1] at s1 h1 te sr lo ⊢
  obtain ⟨kp, op, hk⟩ := h.ker
  obtain ⟨kp1, op1, hk1⟩ := h1.ker
  have i0 := insOf_at hk
  have i1 := insOf_at hk1
  have ls0 := lk_kn_stone plan (.str house) (.int 6) (.int 3) (.ref st) (.ref lt) kp op
  have ls1 := lk_kn_stone plan (.str house) (.int 6) (.int 3) (.ref st) (.ref lt) kp1 op1
  have lh1 := lk_kn_house plan (.str house) (.int 6) (.int 3) (.ref st) (.ref lt) kp1 op1
  have pe : D.tup [.str house, .str who] = ptD (house, who) := rfl
  refine runB_rt (N := 4) (?_ : B_Kernel_led [some (.ref k), some (.str who), some (.tup [.int (j : Int), .int 0]), none] M = _)
  obtain ⟨HD, hHD⟩ : ∃ X, D.tup [.int (j : Int), .int 0] = X := ⟨_, rfl⟩
  rw [hHD] at lo ⊢
  obtain ⟨RD, hRD⟩ : ∃ X, D.tup (l.map rwD) = X := ⟨_, rfl⟩
  rw [hRD] at te sr
  obtain ⟨TD, hTD⟩ : ∃ X, tblR (x, j) = X := ⟨_, rfl⟩
  rw [hTD] at lo ⊢
  push_cast [B_Kernel_led, mMth_eq, mFld_eq, i0, ls0, insOf_at h.sto, lk_sn_settle, s1, i1, ls1, insOf_at h1.sto, lk_sn_rows, sr, lh1, pe, te, mFor_eq, lo]
theorem ktable_eq (h : KAt M k st w lt plan house l firm L) (ok : ∀ r ∈ l, RwOk r) (po : ∀ r ∈ l, PutOk r) {who : Nm} (nd : ((putsOf l (house, who)).map puT).Nodup) (hl : (putsOf l (house, who)).length ≤ 800) :
    g_Kernel_table [.ref k, .str who] M = .ok (.lst ((putsOf l (house, who)).zipIdx.map tblR)) (settM M st w l.length) := by
  have s1 := stone_settle h
  have h1 := h.settle
  have te := table_eq (M := settM M st w l.length) ok po nd hl
  have sr := stone_rows_eq h1
  obtain ⟨M1, hM1⟩ : ∃ X, settM M st w l.length = X := ⟨_, rfl⟩
  rw [hM1] at s1 h1 te sr ⊢
  obtain ⟨kp, op, hk⟩ := h.ker
  obtain ⟨kp1, op1, hk1⟩ := h1.ker
  have i0 := insOf_at hk
  have i1 := insOf_at hk1
  have ls0 := lk_kn_stone plan (.str house) (.int 6) (.int 3) (.ref st) (.ref lt) kp op
  have ls1 := lk_kn_stone plan (.str house) (.int 6) (.int 3) (.ref st) (.ref lt) kp1 op1
  have lh1 := lk_kn_house plan (.str house) (.int 6) (.int 3) (.ref st) (.ref lt) kp1 op1
  have pe : D.tup [.str house, .str who] = ptD (house, who) := rfl
  refine runB_rt (N := 2) (?_ : B_Kernel_table [some (.ref k), some (.str who)] M = _)
  obtain ⟨RD, hRD⟩ : ∃ X, D.tup (l.map rwD) = X := ⟨_, rfl⟩
  rw [hRD] at te sr
  push_cast [B_Kernel_table, mMth_eq, mFld_eq, i0, ls0, insOf_at h.sto, lk_sn_settle, s1, i1, ls1, insOf_at h1.sto, lk_sn_rows, sr, lh1, pe, te]
def ansOf (S : List As) (c : Nat) : D := match S[c]? with
  | some x => x.ans
  | none => .non
theorem answer_eq (h : KAt M k st w lt plan house l firm L) (ha : AskL l) (ok : ∀ r ∈ l, RwOk r) (hl : l.length ≤ 5000) (c : Nat) :
    ∃ M', g_Kernel_answer [.ref k, .int c] M = .ok (ansOf (asksL l) c) M' ∧ KAt M' k st w lt plan house l l.length L ∧ M.length ≤ M'.length ∧ ∀ j, j < M.length → j ≠ st → M'[j]? = M[j]? := by
  have s1 := stone_settle h
  have h1 := h.settle
  have as := asks_eq (M := settM M st w l.length) ha ok hl
  have sr := stone_rows_eq h1
  have old0 : ∀ j, j ≠ st → (settM M st w l.length)[j]? = M[j]? := fun j hj => settM_old hj
  have m0l : (settM M st w l.length).length = M.length := settM_len
  obtain ⟨M0, hM0⟩ : ∃ X, settM M st w l.length = X := ⟨_, rfl⟩
  rw [hM0] at s1 h1 as sr old0 m0l
  obtain ⟨S, hS⟩ : ∃ X, asksL l = X := ⟨_, rfl⟩
  rw [hS] at as ⊢
  have h2 := h1.app [.dk false (zipK asV S), .dk false (zipK asV S)]
  have g1 : (M0 ++ [Cell.dk false (zipK asV S), .dk false (zipK asV S)])[M0.length + 1]? = some (.dk false (zipK asV S)) := app_get1 rfl
  obtain ⟨M1, hM1⟩ : ∃ X, M0 ++ [Cell.dk false (zipK asV S), .dk false (zipK asV S)] = X := ⟨_, rfl⟩
  have m1l : M1.length = M0.length + 2 := by rw [← hM1]; simp
  have old1 : ∀ j, j < M0.length → M1[j]? = M0[j]? := fun j hj => by rw [← hM1, List.getElem?_append_left hj]
  rw [hM1] at as h2 g1
  obtain ⟨kp, op, hk⟩ := h.ker
  obtain ⟨kp1, op1, hk1⟩ := h1.ker
  have i0 := insOf_at hk
  have i1 := insOf_at hk1
  have ls0 := lk_kn_stone plan (.str house) (.int 6) (.int 3) (.ref st) (.ref lt) kp op
  have ls1 := lk_kn_stone plan (.str house) (.int 6) (.int 3) (.ref st) (.ref lt) kp1 op1
  refine ⟨M1, runB_rt (N := 3) (?_ : B_Kernel_answer [some (.ref k), some (.int (c : Int)), none] M = _), h2, by omega, fun j hj a => by rw [old1 j (by omega), old0 j a]⟩
  have ia : oInA false (.int (c : Int)) (.ref (M0.length + 1)) M1 = .ok (.bl (decide (c < S.length))) M1 := by
    rw [oInA_dk g1, gA_zip, Bool.false_bne]
    congr 2
    by_cases hc : c < S.length
    · rw [List.getElem?_eq_getElem hc, decide_eq_true hc]; rfl
    · rw [List.getElem?_eq_none (by omega), decide_eq_false hc]; rfl
  obtain ⟨RD, hRD⟩ : ∃ X, D.tup (l.map rwD) = X := ⟨_, rfl⟩
  rw [hRD] at as sr
  by_cases hc : c < S.length
  · rw [decide_eq_true hc] at ia
    obtain ⟨x, hx⟩ : ∃ x, S[c]? = some x := ⟨_, List.getElem?_eq_getElem hc⟩
    have ix : oIxA (.ref (M0.length + 1)) (.int (c : Int)) M1 = .ok (asV x) M1 := oIxA_dk g1 (by rw [gA_zip, hx]; rfl)
    have i2 : ∀ M, oIxA (asV x) (.int 2) M = .ok x.ans M := fun _ => rfl
    have e : ansOf S c = x.ans := by unfold ansOf; rw [hx]
    rw [e]
    obtain ⟨XD, hXD⟩ : ∃ X, asV x = X := ⟨_, rfl⟩
    rw [hXD] at ix i2
    push_cast [B_Kernel_answer, mMth_eq, mFld_eq, i0, ls0, insOf_at h.sto, lk_sn_settle, s1, i1, ls1, insOf_at h1.sto, lk_sn_rows, sr, as, ia, ix, i2]
  · rw [decide_eq_false hc] at ia
    have e : ansOf S c = .non := by unfold ansOf; rw [List.getElem?_eq_none (by omega)]
    rw [e]
    push_cast [B_Kernel_answer, mMth_eq, mFld_eq, i0, ls0, insOf_at h.sto, lk_sn_settle, s1, i1, ls1, insOf_at h1.sto, lk_sn_rows, sr, as, ia]
end
theorem app_own {M : Mem} {n : Nat} {a b : List D} (h : M[n]? = some (.lst a)) (hl : a.length + b.length ≤ 16777216) : oExtend (.ref n) [.lst b] M = .ok .non (M.set n (.lst (a ++ b))) := by
  rw [oExtM, h]
  show (if a.length + b.length ≤ 16777216 then _ else _) = _
  rw [if_pos hl]
def bengs (H : List Hu) : List Pt := H.flatMap fun h => (h.ps ++ h.sv.map (·.nm)).map fun n => (h.nm, n)
theorem be_turn {M : Mem} {T : List Pt} {h : Hu} (hl : T.length + (h.ps ++ h.sv.map (·.nm)).length ≤ 100000) (x0 x5 x6 x7 : Option D) :
    L_beings_2 [x0, some (.ref M.length), some (.str h.nm), some (strT h.ps), some (.tup (h.sv.map sv3)), x5, x6, x7] (M ++ [.lst (T.map ptD)]) = .ok (.nx [x0, some (.ref M.length), some (.str h.nm), some (strT h.ps), some (.tup (h.sv.map sv3)), x5, x6, x7]) (M ++ [.lst ((T ++ (h.ps ++ h.sv.map (·.nm)).map fun n => (h.nm, n)).map ptD)]) := by
  obtain ⟨m, hm⟩ : ∃ X, M ++ [Cell.lst (T.map ptD)] = X := ⟨_, rfl⟩
  have g0 : m[M.length]? = some (.lst (T.map ptD)) := by rw [← hm]; exact app_get0 rfl
  have c0 : ∀ x6, compL (fun _ => True) (gN 7) tsYes C_beings_0 [x0, some (.ref M.length), some (.str h.nm), some (strT h.ps), some (.tup (h.sv.map sv3)), x5, x6, none] (h.sv.map sv3) m = .ok ((h.sv.map (·.nm)).map .str) m := fun x6 => by
    have := compL_m (P := fun _ => True) (M := m) trivial (g := gN 7) (f := C_beings_0) (env := [x0, some (.ref M.length), some (.str h.nm), some (strT h.ps), some (.tup (h.sv.map sv3)), x5, x6, none]) sv3 (fun s => D.str s.nm) h.sv fun s _ => by
      have i0 : ∀ M, oIx (sv3 s) (.int 0) M = .ok (.str s.nm) M := fun _ => rfl
      refine ⟨_, rfl, ?_⟩
      obtain ⟨SD, hSD⟩ : ∃ X, sv3 s = X := ⟨_, rfl⟩
      rw [hSD] at i0 ⊢
      simp only [List.set_cons_succ, List.set_cons_zero]
      push_cast [C_beings_0, i0]
    rw [this, List.map_map]
    rfl
  have c1 := compL_m (P := fun _ => True) (M := m) trivial (g := gN 6) (f := C_beings_1) (env := [x0, some (.ref M.length), some (.str h.nm), some (strT h.ps), some (.tup (h.sv.map sv3)), x5, none, x7]) D.str (fun n => ptD (h.nm, n)) (h.ps ++ h.sv.map (·.nm)) fun n _ => by
    refine ⟨[x0, some (.ref M.length), some (.str h.nm), some (strT h.ps), some (.tup (h.sv.map sv3)), x5, some (.str n), x7], rfl, ?_⟩
    obtain ⟨A, hA⟩ : ∃ X, strT h.ps = X := ⟨_, rfl⟩
    obtain ⟨B, hB⟩ : ∃ X, D.tup (h.sv.map sv3) = X := ⟨_, rfl⟩
    rw [hA, hB]
    push_cast [C_beings_1]
    rfl
  rw [List.length_append, List.length_map] at hl
  have ol : oList false [strT h.ps] m = .ok (.lst (h.ps.map .str)) m := rfl
  have ad : oAdd false (.lst (h.ps.map .str)) (.lst ((h.sv.map (·.nm)).map .str)) m = .ok (.lst ((h.ps ++ h.sv.map (·.nm)).map .str)) m := by
    show oAddL false (.lst (h.ps.map .str)) (.lst ((h.sv.map (·.nm)).map .str)) m = _
    simp only [oAddL, Fn.ownOf]
    rw [if_pos (by simp; omega), mkL_f, List.map_append]
  have ex := app_own (b := ((h.ps ++ h.sv.map (·.nm)).map fun n => ptD (h.nm, n))) g0 (by simp; omega)
  have fin : m.set M.length (.lst (T.map ptD ++ (h.ps ++ h.sv.map (·.nm)).map fun n => ptD (h.nm, n))) = M ++ [.lst ((T ++ (h.ps ++ h.sv.map (·.nm)).map fun n => (h.nm, n)).map ptD)] := by
    have e1 : (((h.ps ++ h.sv.map (·.nm)).map fun n => (h.nm, n)).map ptD) = (h.ps ++ h.sv.map (·.nm)).map fun n => ptD (h.nm, n) := by rw [List.map_map]; rfl
    rw [← hm, app_set0 rfl, ← e1, ← List.map_append]
  rw [fin] at ex
  have ty := tyOk_at g0
  have l1 : (h.sv.map sv3).length < 16777216 := by rw [List.length_map]; omega
  have l2 : ((h.ps ++ h.sv.map (·.nm)).map D.str).length < 16777216 := by simp; omega
  have w1 : wipeE [x0, some (.ref M.length), some (.str h.nm), some (strT h.ps), some (.tup (h.sv.map sv3)), x5, x6, x7] [7] = [x0, some (.ref M.length), some (.str h.nm), some (strT h.ps), some (.tup (h.sv.map sv3)), x5, x6, none] := rfl
  have w2 : wipeE [x0, some (.ref M.length), some (.str h.nm), some (strT h.ps), some (.tup (h.sv.map sv3)), x5, x6, x7] [6] = [x0, some (.ref M.length), some (.str h.nm), some (strT h.ps), some (.tup (h.sv.map sv3)), x5, none, x7] := rfl
  have c0 := c0 x6
  obtain ⟨PS, hPS⟩ : ∃ X, strT h.ps = X := ⟨_, rfl⟩
  rw [hPS] at c0 c1 ol w1 w2 ⊢
  obtain ⟨SV, hSV⟩ : ∃ X, h.sv.map sv3 = X := ⟨_, rfl⟩
  rw [hSV] at c0 c1 l1 w1 w2 ⊢
  rw [hm]
  push_cast [L_beings_2, ty, ol, mLc_eq, if_pos l1, w1, c0, ad, if_pos l2, w2, c1, ex]
theorem beings_eq {H : List Hu} {Q : List Rt} (hl : (bengs H).length ≤ 50000) (M : Mem) : g_beings [planD H Q] M = .ok (.tup ((bengs H).map ptD)) M := by
  have bt : ∀ k, (bengs (H.take k)).length ≤ (bengs H).length := fun k => by
    have : bengs H = bengs (H.take k) ++ bengs (H.drop k) := by unfold bengs; rw [← List.flatMap_append, List.take_append_drop]
    rw [this, List.length_append]; omega
  obtain ⟨env', m', e, y2, y3, y4, y5, y6, y7, rfl, rfl⟩ := forL_inv (g := gT 4 (gsCons (gN 2) (gsCons (gN 3) (gsCons (gN 4) (gsCons (gN 5) gsNil))))) (body := L_beings_2) (fun k env m => ∃ (y2 y3 y4 y5 y6 y7 : Option D), env = [some (planD H Q), some (.ref M.length), y2, y3, y4, y5, y6, y7] ∧ m = M ++ [.lst ((bengs (H.take k)).map ptD)]) (H.map huD) 0 [some (planD H Q), some (.ref M.length), none, none, none, none, none, none] (M ++ [.lst []]) ⟨_, _, _, _, _, _, rfl, rfl⟩ (by
    rintro k d env m hk ⟨y2, y3, y4, y5, y6, y7, rfl, rfl⟩
    rw [Nat.zero_add]
    rw [List.getElem?_map] at hk
    obtain ⟨h, hh, rfl⟩ := Option.map_eq_some_iff.mp hk
    have ht : H.take (k + 1) = H.take k ++ [h] := by rw [List.take_succ, hh]; rfl
    have hb : bengs (H.take (k + 1)) = bengs (H.take k) ++ (h.ps ++ h.sv.map (·.nm)).map fun n => (h.nm, n) := by
      rw [ht]; unfold bengs; rw [List.flatMap_append]; simp
    have l1 := bt (k + 1)
    rw [hb, List.length_append, List.length_map] at l1
    have tu := be_turn (M := M) (T := bengs (H.take k)) (h := h) (by omega) (some (planD H Q)) (some (strT h.th)) y6 y7
    rw [hb]
    refine ⟨_, _, ?_, some (.str h.nm), some (strT h.ps), some (.tup (h.sv.map sv3)), some (strT h.th), y6, y7, rfl, rfl⟩
    rw [hu_tgt]
    exact tu)
  rw [List.length_map, Nat.zero_add, List.take_length] at e
  have pl : PlL 1 ((bengs H).map ptD) := fun d hd => by
    obtain ⟨p, _, rfl⟩ := List.mem_map.mp hd
    exact Pl.tup (PlL.cons (Pl.str _) (PlL.cons (Pl.str _) PlL.nil))
  obtain ⟨p, hp, _⟩ := Pl.tup pl
  refine gc_val0 (junk := [.lst ((bengs H).map ptD)]) (runB_rt (N := 8) (?_ : B_beings [some (planD H Q), none, none, none, none, none, none, none] M = _)) hp
  have p0 : ∀ M, oIx (planD H Q) (.int 0) M = .ok (.tup (H.map huD)) M := fun _ => rfl
  have ot : oTuple [.ref M.length] (M ++ [.lst ((bengs H).map ptD)]) = .ok (.tup ((bengs H).map ptD)) (M ++ [.lst ((bengs H).map ptD)]) := by rw [oTuple_ref, show (M ++ [Cell.lst ((bengs H).map ptD)])[M.length]? = some (.lst ((bengs H).map ptD)) from app_get0 rfl]
  obtain ⟨PD, hPD⟩ : ∃ X, planD H Q = X := ⟨_, rfl⟩
  rw [hPD] at p0 e ⊢
  obtain ⟨BD, hBD⟩ : ∃ X, (bengs H).map ptD = X := ⟨_, rfl⟩
  rw [hBD] at ot e ⊢
  push_cast [B_beings, p0, mFor_eq, e, ot]
section
variable {M : Mem} {k st w lt : Nat} {house : Nm} {l : List Rw5} {firm : Nat} {L : List D}
/-- what stands of the rows of a house that asks -/
structure RsOk (l : List Rw5) (house who : Nm) : Prop where
  ok : ∀ r ∈ l, RwOk r
  po : ∀ r ∈ l, PutOk r
  ask : AskL l
  nd : ((putsOf l (house, who)).map puT).Nodup
  np : (putsOf l (house, who)).length ≤ 800
  len : l.length ≤ 4000
theorem tb6 (x : Pu) (j : Nat) : tblR (x, j) = .tup [.tup [.int (j : Int), .int 0], .str x.h, .int x.n, ptD x.pl, strT x.rs, .int x.far] := rfl
theorem hand_eq {H : List Hu} {Q : List Rt} (h : KAt M k st w lt (planD H Q) house l firm L) {who : Nm} (rs : RsOk l house who) (hb : (bengs H).length ≤ 50000) {j j2 : Nat} {x y : Pu} (hx : (putsOf l (house, who))[j]? = some x) (hy : (putsOf l (house, who))[j2]? = some y) (hg : [103, 105, 118, 101] ∈ y.rs) (hy2 : y.pl ∈ bengs H) {rights : List Nm} (hr : ∀ r ∈ rights, r ∈ x.rs) {far : Nat} (hf : far < x.far) (t : Nat) :
    ∃ M', g_Kernel_hand [.ref k, .str who, .tup [.int (j : Int), .int 0], .tup [.int (j2 : Int), .int 0], strT rights, .int far, .int t] M = .ok (.int ((asksL l).length : Int)) M' ∧ KAt M' k st w lt (planD H Q) house (l ++ [askR t (asksL l).length (.tup [.str [104, 97, 110, 100], ptD (house, who), .str x.h, .int x.n, strT rights, .int far, .int y.n, ptD y.pl])]) (l.length + 1) L ∧ M.length ≤ M'.length ∧ ∀ i, i < M.length → i ≠ st → i ≠ w → M'[i]? = M[i]? := by
  have e1 := led_eq h rs.ok rs.po rs.nd rs.np hx
  have h1 := h.settle
  have e2 := led_eq h1 rs.ok rs.po rs.nd rs.np hy
  have h2 := h1.settle
  have old2 : ∀ i, i ≠ st → (settM (settM M st w l.length) st w l.length)[i]? = M[i]? := fun i hi => by rw [settM_old hi, settM_old hi]
  have m2l : (settM (settM M st w l.length) st w l.length).length = M.length := by rw [settM_len, settM_len]
  obtain ⟨M1, hM1⟩ : ∃ X, settM M st w l.length = X := ⟨_, rfl⟩
  rw [hM1] at e1 h1 e2 h2 old2 m2l
  obtain ⟨M2, hM2⟩ : ∃ X, settM M1 st w l.length = X := ⟨_, rfl⟩
  rw [hM2] at e2 h2 old2 m2l
  have be := beings_eq (Q := Q) hb M2
  obtain ⟨M3, e3, k3, le3, old3⟩ := asked_eq h2 rs.ask rs.ok (by have := rs.len; omega) t (.tup [.str [104, 97, 110, 100], ptD (house, who), .str x.h, .int x.n, strT rights, .int far, .int y.n, ptD y.pl])
  have gi : ∀ M, oInF true (.str [103, 105, 118, 101]) (strT y.rs) M = .ok (.bl false) M := fun M => by rw [oInF_strs (F := y.rs) rfl]; simp [hg]
  have bi : ∀ M, oInD true (ptD y.pl) (.tup ((bengs H).map ptD)) M = .ok (.bl false) M := fun M => by
    have ex : exL ((bengs H).map ptD) = true := by
      have : ∀ l : List Pt, exL (l.map ptD) = true := fun l => by
        induction l with
        | nil => rfl
        | cons p l ih => rw [List.map_cons]; simp only [exL, ih, Bool.and_true]; rfl
      exact this _
    rw [oInD_tup ex rfl (by simp [ptD, dpD, dpL])]
    simp only [Bool.true_bne]
    congr 2
    simp only [Bool.not_eq_false', decide_eq_true_eq]
    exact List.mem_map.mpr ⟨_, hy2, rfl⟩
  have ge : ∀ M, oGe (.int (far : Int)) (.int (x.far : Int)) M = .ok (.bl false) M := fun M => by
    rw [oGe_int]; congr 2; rw [decide_eq_false_iff_not]; omega
  obtain ⟨env', m', ef, y19, rfl, hm'⟩ := forL_inv (g := gN 19) (body := L_Kernel_hand_0) (fun i env m => ∃ (y19 : Option D), env = [some (.ref k), some (.str who), some (.tup [.int (j : Int), .int 0]), some (.tup [.int (j2 : Int), .int 0]), some (strT rights), some (.int (far : Int)), some (.int (t : Int)), some (.tup [.int (j : Int), .int 0]), some (.str x.h), some (.int x.n), some (ptD x.pl), some (strT x.rs), some (.int x.far), some (.tup [.int (j2 : Int), .int 0]), some (.str y.h), some (.int y.n), some (ptD y.pl), some (strT y.rs), some (.int y.far), y19] ∧ m = M2) (rights.map .str) 0 [some (.ref k), some (.str who), some (.tup [.int (j : Int), .int 0]), some (.tup [.int (j2 : Int), .int 0]), some (strT rights), some (.int (far : Int)), some (.int (t : Int)), some (.tup [.int (j : Int), .int 0]), some (.str x.h), some (.int x.n), some (ptD x.pl), some (strT x.rs), some (.int x.far), some (.tup [.int (j2 : Int), .int 0]), some (.str y.h), some (.int y.n), some (ptD y.pl), some (strT y.rs), some (.int y.far), none] M2 ⟨_, rfl, rfl⟩ (by
    rintro i d env m hi ⟨y19, rfl, rfl⟩
    rw [List.getElem?_map] at hi
    obtain ⟨r, hr1, rfl⟩ := Option.map_eq_some_iff.mp hi
    have hrx := hr r (List.mem_of_getElem? hr1)
    have ri : ∀ M, oInF true (.str r) (strT x.rs) M = .ok (.bl false) M := fun M => by rw [oInF_strs (F := x.rs) rfl]; simp [hrx]
    refine ⟨_, m, ?_, some (.str r), rfl, rfl⟩
    rw [gN_eq, R.bind_ok]
    simp only [List.set_cons_succ, List.set_cons_zero]
    obtain ⟨A1, hA1⟩ : ∃ X, strT x.rs = X := ⟨_, rfl⟩
    rw [hA1] at ri ⊢
    push_cast [L_Kernel_hand_0, ri])
  rw [hm'] at ef
  obtain ⟨kp, op, hk⟩ := h.ker
  obtain ⟨kp1, op1, hk1⟩ := h1.ker
  obtain ⟨kp2, op2, hk2⟩ := h2.ker
  have i0 := insOf_at hk
  have i1 := insOf_at hk1
  have i2 := insOf_at hk2
  have ld0 := lk_kn_led (planD H Q) (.str house) (.int 6) (.int 3) (.ref st) (.ref lt) kp op
  have ld1 := lk_kn_led (planD H Q) (.str house) (.int 6) (.int 3) (.ref st) (.ref lt) kp1 op1
  have lp2 := lk_kn_plan (planD H Q) (.str house) (.int 6) (.int 3) (.ref st) (.ref lt) kp2 op2
  have la2 := lk_kn_asked (planD H Q) (.str house) (.int 6) (.int 3) (.ref st) (.ref lt) kp2 op2
  have lh2 := lk_kn_house (planD H Q) (.str house) (.int 6) (.int 3) (.ref st) (.ref lt) kp2 op2
  have pe : D.tup [.str house, .str who] = ptD (house, who) := rfl
  refine ⟨M3, runB_rt (N := 20) (?_ : B_Kernel_hand [some (.ref k), some (.str who), some (.tup [.int (j : Int), .int 0]), some (.tup [.int (j2 : Int), .int 0]), some (strT rights), some (.int (far : Int)), some (.int (t : Int)), none, none, none, none, none, none, none, none, none, none, none, none, none] M = _), k3, by omega, fun i hi a b => by rw [old3 i (by omega) a b, old2 i a]⟩
  rw [tb6] at e1 e2
  have sr : srcOf M2 (strT rights) = some ⟨rights.map .str, fun _ => True⟩ := rfl
  obtain ⟨HD, hHD⟩ : ∃ X, D.tup [.int (j : Int), .int 0] = X := ⟨_, rfl⟩
  obtain ⟨HD2, hHD2⟩ : ∃ X, D.tup [.int (j2 : Int), .int 0] = X := ⟨_, rfl⟩
  rw [hHD] at e1 ef ⊢
  rw [hHD2] at e2 ef ⊢
  obtain ⟨PD, hPD⟩ : ∃ X, planD H Q = X := ⟨_, rfl⟩
  rw [hPD] at lp2 la2 lh2 ld0 ld1 be i0 i1 i2
  obtain ⟨XP, hXP⟩ : ∃ X, ptD x.pl = X := ⟨_, rfl⟩
  rw [hXP] at e1 ef
  obtain ⟨YP, hYP⟩ : ∃ X, ptD y.pl = X := ⟨_, rfl⟩
  rw [hYP] at e2 bi e3 ef
  obtain ⟨XR, hXR⟩ : ∃ X, strT x.rs = X := ⟨_, rfl⟩
  rw [hXR] at e1 ef
  obtain ⟨YR, hYR⟩ : ∃ X, strT y.rs = X := ⟨_, rfl⟩
  rw [hYR] at e2 gi ef
  obtain ⟨RR, hRR⟩ : ∃ X, strT rights = X := ⟨_, rfl⟩
  rw [hRR] at e3 ef sr ⊢
  push_cast [B_Kernel_hand, mMth_eq, mFld_eq, i0, ld0, e1, i1, ld1, e2, gi, i2, lp2, be, bi, mFor_eq, sr, ef, ge, la2, lh2, pe, e3]
theorem cut_eq {plan : D} (h : KAt M k st w lt plan house l firm L) {who : Nm} (rs : RsOk l house who) {j : Nat} {x : Pu} (hx : (putsOf l (house, who))[j]? = some x) (n t : Nat) :
    ∃ M', g_Kernel_cut [.ref k, .str who, .tup [.int (j : Int), .int 0], .int n, .int t] M = .ok (.int ((asksL l).length : Int)) M' ∧ KAt M' k st w lt plan house (l ++ [askR t (asksL l).length (.tup [.str [99, 117, 116], ptD (house, who), .str x.h, .int x.n, .int n])]) (l.length + 1) L ∧ M.length ≤ M'.length ∧ ∀ i, i < M.length → i ≠ st → i ≠ w → M'[i]? = M[i]? := by
  have e1 := led_eq h rs.ok rs.po rs.nd rs.np hx
  have h1 := h.settle
  have old1 : ∀ i, i ≠ st → (settM M st w l.length)[i]? = M[i]? := fun i hi => settM_old hi
  have m1l : (settM M st w l.length).length = M.length := settM_len
  obtain ⟨M1, hM1⟩ : ∃ X, settM M st w l.length = X := ⟨_, rfl⟩
  rw [hM1] at e1 h1 old1 m1l
  obtain ⟨M3, e3, k3, le3, old3⟩ := asked_eq h1 rs.ask rs.ok (by have := rs.len; omega) t (.tup [.str [99, 117, 116], ptD (house, who), .str x.h, .int x.n, .int n])
  obtain ⟨kp, op, hk⟩ := h.ker
  obtain ⟨kp1, op1, hk1⟩ := h1.ker
  have i0 := insOf_at hk
  have i1 := insOf_at hk1
  have ld0 := lk_kn_led plan (.str house) (.int 6) (.int 3) (.ref st) (.ref lt) kp op
  have la1 := lk_kn_asked plan (.str house) (.int 6) (.int 3) (.ref st) (.ref lt) kp1 op1
  have lh1 := lk_kn_house plan (.str house) (.int 6) (.int 3) (.ref st) (.ref lt) kp1 op1
  have pe : D.tup [.str house, .str who] = ptD (house, who) := rfl
  refine ⟨M3, runB_rt (N := 11) (?_ : B_Kernel_cut [some (.ref k), some (.str who), some (.tup [.int (j : Int), .int 0]), some (.int (n : Int)), some (.int (t : Int)), none, none, none, none, none, none] M = _), k3, by omega, fun i hi a b => by rw [old3 i (by omega) a b, old1 i a]⟩
  rw [tb6] at e1
  obtain ⟨HD, hHD⟩ : ∃ X, D.tup [.int (j : Int), .int 0] = X := ⟨_, rfl⟩
  rw [hHD] at e1 ⊢
  push_cast [B_Kernel_cut, mMth_eq, mFld_eq, i0, ld0, e1, i1, la1, lh1, pe, e3]
theorem kcall_eq {H : List Hu} {Q : List Rt} (h : KAt M k st w lt (planD H Q) house l firm L) {who : Nm} (rs : RsOk l house who) {j : Nat} {x : Pu} (hx : (putsOf l (house, who))[j]? = some x) (hg : [99, 97, 108, 108] ∈ x.rs) {s : Sv} (hs : servAt H x.pl = some s) (word : Nm) (what : D) (t : Nat) :
    ∃ M', g_Kernel_call [.ref k, .str who, .tup [.int (j : Int), .int 0], .str word, what, .int t] M = .ok (.int ((asksL l).length : Int)) M' ∧ KAt M' k st w lt (planD H Q) house (l ++ [askR t (asksL l).length (.tup [.str [99, 97, 108, 108], ptD (house, who), .int x.n, ptD x.pl, .str word, what])]) (l.length + 1) L ∧ M.length ≤ M'.length ∧ ∀ i, i < M.length → i ≠ st → i ≠ w → M'[i]? = M[i]? := by
  have e1 := led_eq h rs.ok rs.po rs.nd rs.np hx
  have h1 := h.settle
  have old1 : ∀ i, i ≠ st → (settM M st w l.length)[i]? = M[i]? := fun i hi => settM_old hi
  have m1l : (settM M st w l.length).length = M.length := settM_len
  obtain ⟨M1, hM1⟩ : ∃ X, settM M st w l.length = X := ⟨_, rfl⟩
  rw [hM1] at e1 h1 old1 m1l
  obtain ⟨M3, e3, k3, le3, old3⟩ := asked_eq h1 rs.ask rs.ok (by have := rs.len; omega) t (.tup [.str [99, 97, 108, 108], ptD (house, who), .int x.n, ptD x.pl, .str word, what])
  have se := servant_at_eq H Q x.pl M1
  rw [hs] at se
  simp only at se
  have ci : ∀ M, oInF true (.str [99, 97, 108, 108]) (strT x.rs) M = .ok (.bl false) M := fun M => by rw [oInF_strs (F := x.rs) rfl]; simp [hg]
  have sn : ∀ M, oIsN false (sv3 s) M = .ok (.bl false) M := fun _ => rfl
  obtain ⟨kp, op, hk⟩ := h.ker
  obtain ⟨kp1, op1, hk1⟩ := h1.ker
  have i0 := insOf_at hk
  have i1 := insOf_at hk1
  have ld0 := lk_kn_led (planD H Q) (.str house) (.int 6) (.int 3) (.ref st) (.ref lt) kp op
  have lp1 := lk_kn_plan (planD H Q) (.str house) (.int 6) (.int 3) (.ref st) (.ref lt) kp1 op1
  have la1 := lk_kn_asked (planD H Q) (.str house) (.int 6) (.int 3) (.ref st) (.ref lt) kp1 op1
  have lh1 := lk_kn_house (planD H Q) (.str house) (.int 6) (.int 3) (.ref st) (.ref lt) kp1 op1
  have pe : D.tup [.str house, .str who] = ptD (house, who) := rfl
  refine ⟨M3, runB_rt (N := 12) (?_ : B_Kernel_call [some (.ref k), some (.str who), some (.tup [.int (j : Int), .int 0]), some (.str word), some what, some (.int (t : Int)), none, none, none, none, none, none] M = _), k3, by omega, fun i hi a b => by rw [old3 i (by omega) a b, old1 i a]⟩
  rw [tb6] at e1
  obtain ⟨HD, hHD⟩ : ∃ X, D.tup [.int (j : Int), .int 0] = X := ⟨_, rfl⟩
  rw [hHD] at e1 ⊢
  obtain ⟨PD, hPD⟩ : ∃ X, planD H Q = X := ⟨_, rfl⟩
  rw [hPD] at lp1 la1 lh1 ld0 se i0 i1
  obtain ⟨XP, hXP⟩ : ∃ X, ptD x.pl = X := ⟨_, rfl⟩
  rw [hXP] at e1 se e3
  obtain ⟨XR, hXR⟩ : ∃ X, strT x.rs = X := ⟨_, rfl⟩
  rw [hXR] at e1 ci
  obtain ⟨SD, hSD⟩ : ∃ X, sv3 s = X := ⟨_, rfl⟩
  rw [hSD] at se sn
  push_cast [B_Kernel_call, mMth_eq, mFld_eq, i0, ld0, e1, ci, i1, lp1, se, sn, la1, lh1, pe, e3]
end
open Classical in
theorem oInD_lst {neg : Bool} {a : D} {l : List D} {M : Mem} (hl : exL l = true) (ha : exD a = true) (hd : dpD a ≤ 60) : oInD neg a (.lst l) M = .ok (.bl (neg != decide (a ∈ l))) M := by
  obtain ⟨p, p1, p2⟩ := ex_py a ha
  obtain ⟨ps, q1, q2⟩ := ex_pyL l hl
  have k1 : pyM M a = some p := pyGo_of p1
  have k2 : pyM M (.lst l) = some (.list ps) := by
    show pyGo (kN M 4) (.lst l) = _
    simp only [pyGo, pyGoL_of q1, Option.map_some]
  simp only [oInD, k1, k2]
  rw [if_pos (by omega), any_ex hl ha q1 p1]
  cases neg <;> simp
theorem put_case {r : Rw5} (po : PutOk r) (b : Pt) : (r.w ≠ putN ∧ putOf b r = none) ∨ ∃ t ho x, r = .oth putN t (puL ho x) ∧ putOf b r = if ho = b then some x else none := by
  cases r with
  | oth w t ps =>
    by_cases c : w = putN
    · subst c
      obtain ⟨ho, x, rfl⟩ := po.2 rfl
      refine .inr ⟨t, ho, x, rfl, ?_⟩
      by_cases d : ho = b
      · subst d; rw [if_pos rfl, putOf_put]
      · rw [if_neg d, putOf_other t x d]
    · exact .inl ⟨c, putOf_no t ps c⟩
  | root => exact .inl ⟨(by decide : rootN ≠ putN), rfl⟩
  | grant => exact .inl ⟨(by decide : grantN ≠ putN), rfl⟩
  | cut => exact .inl ⟨(by decide : cutN ≠ putN), rfl⟩
  | deed => exact .inl ⟨(by decide : deedN ≠ putN), rfl⟩
def evD (x : Pu) : D := .tup [.str x.h, .int x.n]
theorem ever_eq {M : Mem} {l : List Rw5} (po : ∀ r ∈ l, PutOk r) (hl : l.length ≤ 5000) (b : Pt) : g_ever [.tup (l.map rwD), ptD b] M = .ok (.lst ((putsOf l b).map evD)) M := by
  have c := compL_fm (P := fun _ => True) (M := M) trivial (g := gN 2) (t := T_ever_0) (f := C_ever_1) (env := [some (.tup (l.map rwD)), some (ptD b), none]) rwD (fun r => (putOf b r).isSome) (fun r => match putOf b r with | some x => evD x | none => .non) l fun r hr => by
    have w0 := fun M => rw_w r M
    have q1 := fun M => str_eq r.w putN M
    have q1 : ∀ M, oEq false (.str r.w) (.str [112, 117, 116]) M = .ok (.bl (decide (r.w = putN))) M := q1
    obtain ⟨LD, hLD⟩ : ∃ X, D.tup (l.map rwD) = X := ⟨_, rfl⟩
    rw [hLD]
    rcases put_case (po r hr) b with ⟨h1, h2⟩ | ⟨t, ho, x, rfl, h2⟩
    · rw [h2]
      rw [decide_eq_false h1] at q1
      refine ⟨[some LD, some (ptD b), some (rwD r)], rfl, ?_, fun z => by cases z⟩
      obtain ⟨RD, hRD⟩ : ∃ X, rwD r = X := ⟨_, rfl⟩
      rw [hRD] at w0 ⊢
      push_cast [T_ever_0, w0, q1]
      rfl
    · have q1 : ∀ M, oEq false (.str putN) (.str [112, 117, 116]) M = .ok (.bl true) M := fun M => by rw [str_eq]; rfl
      have w0 : ∀ M, oIx (rwD (.oth putN t (puL ho x))) (.int 0) M = .ok (.str putN) M := fun _ => rfl
      have w2 : ∀ M, oIx (rwD (.oth putN t (puL ho x))) (.int 2) M = .ok (ptD ho) M := fun _ => rfl
      have w3 : ∀ M, oIx (rwD (.oth putN t (puL ho x))) (.int 3) M = .ok (.str x.h) M := fun _ => rfl
      have w4 : ∀ M, oIx (rwD (.oth putN t (puL ho x))) (.int 4) M = .ok (.int x.n) M := fun _ => rfl
      have q3 : ∀ M, oEq false (ptD ho) (ptD b) M = .ok (.bl (decide (ho = b))) M := fun M => by rw [pt_eqD, Bool.false_bne]
      have h3 : (putOf b (.oth putN t (puL ho x))).isSome = decide (ho = b) := by rw [h2]; by_cases c : ho = b <;> simp [c]
      refine ⟨[some LD, some (ptD b), some (rwD (.oth putN t (puL ho x)))], rfl, ?_, fun z => ?_⟩
      · rw [h3]
        obtain ⟨RD, hRD⟩ : ∃ X, rwD (.oth putN t (puL ho x)) = X := ⟨_, rfl⟩
        rw [hRD] at w0 w2 ⊢
        obtain ⟨BD, hBD⟩ : ∃ X, ptD b = X := ⟨_, rfl⟩
        rw [hBD] at q3 ⊢
        push_cast [T_ever_0, w0, q1, w2, q3]
      · rw [h3, decide_eq_true_eq] at z
        rw [h2, if_pos z]
        obtain ⟨RD, hRD⟩ : ∃ X, rwD (.oth putN t (puL ho x)) = X := ⟨_, rfl⟩
        rw [hRD] at w3 w4 ⊢
        push_cast [C_ever_1, w3, w4]
        rfl
  have e : (l.filter fun r => (putOf b r).isSome).map (fun r => match putOf b r with | some x => evD x | none => .non) = (putsOf l b).map evD := by
    clear c
    unfold putsOf
    induction l with
    | nil => rfl
    | cons r l ih =>
      have ih := ih (fun r hr => po r (List.mem_cons_of_mem _ hr)) (by simp at hl; omega)
      cases h : putOf b r with
      | none => rw [List.filter_cons_of_neg (by simp [h]), List.filterMap_cons_none h]; exact ih
      | some x => rw [List.filter_cons_of_pos (by simp [h]), List.filterMap_cons_some h, List.map_cons, List.map_cons, h]; congr 1
  refine runB_rt (N := 3) (?_ : B_ever [some (.tup (l.map rwD)), some (ptD b), none] M = _)
  rw [e] at c
  have ll : (l.map rwD).length < 16777216 := by rw [List.length_map]; omega
  have wp : wipeE [some (.tup (l.map rwD)), some (ptD b), none] [2] = [some (.tup (l.map rwD)), some (ptD b), none] := rfl
  obtain ⟨LD, hLD⟩ : ∃ X, l.map rwD = X := ⟨_, rfl⟩
  rw [hLD] at c ll wp ⊢
  obtain ⟨BD, hBD⟩ : ∃ X, ptD b = X := ⟨_, rfl⟩
  rw [hBD] at c wp ⊢
  push_cast [B_ever, mLc_eq, if_pos ll, wp, c]
/-- the row that puts what is found, if it was not put yet -/
noncomputable def putRow (l : List Rw5) (t : Nat) (b : Pt) (x : Pu) : Option Rw5 := if puT x ∈ (putsOf l b).map puT then none else some (.oth putN t (puL b x))
theorem put_row_eq {M : Mem} {l : List Rw5} (po : ∀ r ∈ l, PutOk r) (hl : l.length ≤ 5000) (t : Nat) (b : Pt) (x : Pu) {a : Ak} (ha : x.a = some a) (word : D) : g_put_row [.tup (l.map rwD), .int t, .str x.h, .tup [word, askD a, .int x.n, ptD x.pl, strT x.rs, .int x.far, ptD b]] M = .ok (match putRow l t b x with | some r => rwD r | none => .non) M := by
  have ev := ever_eq (M := M) po hl b
  have ex : exL ((putsOf l b).map evD) = true := by
    have : ∀ l : List Pu, exL (l.map evD) = true := fun l => by
      induction l with
      | nil => rfl
      | cons p l ih => rw [List.map_cons]; simp only [exL, ih, Bool.and_true]; rfl
    exact this _
  have ii : ∀ M, oInD false (.tup [.str x.h, .int x.n]) (.lst ((putsOf l b).map evD)) M = .ok (.bl (decide (puT x ∈ (putsOf l b).map puT))) M := fun M => by
    rw [oInD_lst ex rfl (by simp [dpD, dpL]), Bool.false_bne]
    congr 2
    rw [decide_eq_decide]
    constructor
    · intro h
      obtain ⟨y, hy, e⟩ := List.mem_map.mp h
      refine List.mem_map.mpr ⟨y, hy, ?_⟩
      unfold evD at e
      injection e with e
      injection e with e1 e2
      injection e1 with e1
      injection e2 with e2
      injection e2 with e2
      unfold puT
      rw [e1, e2]
    · intro h
      obtain ⟨y, hy, e⟩ := List.mem_map.mp h
      refine List.mem_map.mpr ⟨y, hy, ?_⟩
      unfold puT at e
      injection e with e1 e2
      unfold evD
      rw [e1, e2]
  refine runB_rt (N := 11) (?_ : B_put_row [some (.tup (l.map rwD)), some (.int (t : Int)), some (.str x.h), some (.tup [word, askD a, .int x.n, ptD x.pl, strT x.rs, .int x.far, ptD b]), none, none, none, none, none, none, none] M = _)
  have fin : rwD (.oth putN t (puL b x)) = .tup [.str putN, .int t, ptD b, .str x.h, .int x.n, ptD x.pl, strT x.rs, .int x.far, askD a] := by
    show D.tup [.str putN, .int t, ptD b, .str x.h, .int x.n, ptD x.pl, strT x.rs, .int x.far, oAsk x.a] = _
    rw [ha]; rfl
  unfold putRow
  by_cases c : puT x ∈ (putsOf l b).map puT
  · rw [decide_eq_true c] at ii
    rw [if_pos c]
    obtain ⟨LD, hLD⟩ : ∃ X, D.tup (l.map rwD) = X := ⟨_, rfl⟩
    rw [hLD] at ev ⊢
    obtain ⟨BD, hBD⟩ : ∃ X, ptD b = X := ⟨_, rfl⟩
    rw [hBD] at ev ⊢
    push_cast [B_put_row, ev, ii]
  · rw [decide_eq_false c] at ii
    rw [if_neg c]
    simp only
    rw [fin]
    obtain ⟨LD, hLD⟩ : ∃ X, D.tup (l.map rwD) = X := ⟨_, rfl⟩
    rw [hLD] at ev ⊢
    obtain ⟨BD, hBD⟩ : ∃ X, ptD b = X := ⟨_, rfl⟩
    rw [hBD] at ev ⊢
    push_cast [B_put_row, ev, ii]
structure KO (M : Mem) (k st w lt op : Nat) (plan : D) (house : Nm) (l : List Rw5) (firm : Nat) (L : List D) (okv : List (KK × D)) : Prop where
  ka : KAt M k st w lt plan house l firm L
  at_ : ∃ kp, M[k]? = some (.ins 3 (knF plan (.str house) (.int 6) (.int 3) (.ref st) (.ref lt) kp (.ref op)))
  opn : M[op]? = some (.dk false okv)
section
variable {M : Mem} {k st w lt op : Nat} {plan : D} {house : Nm} {l : List Rw5} {firm : Nat} {L : List D} {okv : List (KK × D)}
theorem KO.nes (h : KO M k st w lt op plan house l firm L okv) : op ≠ k ∧ op ≠ st ∧ op ≠ w ∧ op ≠ lt := by
  obtain ⟨kp, hk⟩ := h.at_
  refine ⟨fun e => ?_, fun e => ?_, fun e => ?_, fun e => ?_⟩
  · have := h.opn; rw [e, hk] at this; cases this
  · have := h.opn; rw [e, h.ka.sto] at this; cases this
  · have := h.opn; rw [e, h.ka.wri] at this; cases this
  · have := h.opn; rw [e, h.ka.let_] at this; cases this
theorem KO.go (h : KO M k st w lt op plan house l firm L okv) {M' : Mem} {l' : List Rw5} {firm' : Nat} {L' : List D} (k' : KAt M' k st w lt plan house l' firm' L') (old : ∀ i, i < M.length → i ≠ st → i ≠ w → M'[i]? = M[i]?) : KO M' k st w lt op plan house l' firm' L' okv := by
  obtain ⟨n1, n2, n3, n4⟩ := h.nes
  obtain ⟨m1, m2, _⟩ := h.ka.nes
  obtain ⟨kp, hk⟩ := h.at_
  exact ⟨k', ⟨kp, by rw [old k (lt_of_get hk) m1 m2]; exact hk⟩, by rw [old op (lt_of_get h.opn) n2 n3]; exact h.opn⟩
theorem take_pre (h : KO M k st w lt op plan house l firm L okv) (ha : AskL l) (ok : ∀ r ∈ l, RwOk r) (hl : l.length ≤ 4000) :
    ∃ M1, M1 = M ++ [Cell.dk false (zipK asV (asksL l)), .dk false (zipK asV (asksL l))] ∧ g_asks [.tup (l.map rwD)] M = .ok (.ref (M.length + 1)) M1 ∧ M1[M.length + 1]? = some (.dk false (zipK asV (asksL l))) ∧ KO M1 k st w lt op plan house l firm L okv ∧ M1.length = M.length + 2 ∧ ∀ i, i < M.length → M1[i]? = M[i]? := by
  have as := asks_eq (M := M) ha ok (by omega)
  refine ⟨_, rfl, as, app_get1 rfl, ?_, by simp, fun i hi => List.getElem?_append_left hi⟩
  exact h.go (h.ka.app _) fun i hi _ _ => List.getElem?_append_left hi
theorem said_none (h : KO M k st w lt op plan house l firm L okv) (ha : AskL l) (ok : ∀ r ∈ l, RwOk r) (hl : l.length ≤ 4000) (sender : D) (word : Nm) (a : Ak) (more : List D) (hm : more.length ≤ 10) (t : Nat)
    (hc : (asksL l).length ≤ a.2 ∨ ∃ x ys, (asksL l)[a.2]? = some x ∧ x.ans = .tup ys) :
    ∃ M', g_Kernel_take_said [.ref k, sender, .tup (.str word :: askD a :: more), .int t] M = .ok .non M' ∧ KO M' k st w lt op plan house l firm L okv ∧ M.length ≤ M'.length ∧ ∀ i, i < M.length → M'[i]? = M[i]? := by
  obtain ⟨M1, _, as, g1, k1, m1l, old1⟩ := take_pre h ha ok hl
  obtain ⟨S, hS⟩ : ∃ X, asksL l = X := ⟨_, rfl⟩
  rw [hS] at g1 hc
  have sr := stone_rows_eq h.ka
  obtain ⟨kp, hk⟩ := h.at_
  have i0 := insOf_at hk
  have ls0 := lk_kn_stone plan (.str house) (.int 6) (.int 3) (.ref st) (.ref lt) kp (.ref op)
  have tg : ∀ (env : Fn.Env) (M : Mem), gS 3 2 (gsCons (gN 4) (gsCons (gT 2 (gsCons (gN 5) (gsCons (gN 6) gsNil))) (gsCons (gN 7) gsNil))) (.tup (.str word :: askD a :: more)) env M = .ok ((((env.set 4 (some (.str word))).set 5 (some (.str a.1))).set 6 (some (.int (a.2 : Int)))).set 7 (some (.lst more))) M := fun env M => by
    have d1 : (3 ≤ (D.str word :: askD a :: more).length + 1 ∧ (D.str word :: askD a :: more).length ≤ 16384) := by simp; omega
    have tk : (List.drop 2 (D.str word :: askD a :: more)).take ((D.str word :: askD a :: more).length + 1 - 3) = more := List.take_of_length_le (by simp)
    have dr : (List.drop 2 (D.str word :: askD a :: more)).drop ((D.str word :: askD a :: more).length + 1 - 3) = [] := List.drop_of_length_le (by simp)
    have t2 : (D.str word :: askD a :: more).take 2 = [D.str word, askD a] := rfl
    rw [gS_eq, if_pos d1, tk, dr, t2]
    rfl
  refine ⟨M1, runB_rt (N := 12) (?_ : B_Kernel_take_said [some (.ref k), some sender, some (.tup (.str word :: askD a :: more)), some (.int (t : Int)), none, none, none, none, none, none, none, none] M = .ok (.rt .non) M1), k1, by omega, old1⟩
  have ia : oInA true (.int (a.2 : Int)) (.ref (M.length + 1)) M1 = .ok (.bl (decide (S.length ≤ a.2))) M1 := by
    rw [oInA_dk g1, gA_zip]
    congr 2
    by_cases hc : a.2 < S.length
    · rw [List.getElem?_eq_getElem hc, decide_eq_false (by omega)]; rfl
    · rw [List.getElem?_eq_none (by omega), decide_eq_true (by omega)]; rfl
  obtain ⟨WD, hWD⟩ : ∃ X, D.tup (.str word :: askD a :: more) = X := ⟨_, rfl⟩
  rw [hWD] at tg ⊢
  obtain ⟨RD, hRD⟩ : ∃ X, D.tup (l.map rwD) = X := ⟨_, rfl⟩
  rw [hRD] at as sr
  by_cases c : S.length ≤ a.2
  · rw [decide_eq_true c] at ia
    push_cast [B_Kernel_take_said, tg, mFld_eq, mMth_eq, i0, ls0, insOf_at h.ka.sto, lk_sn_rows, sr, as, ia]
  · rw [decide_eq_false c] at ia
    obtain ⟨x, ys, hx, hy⟩ := hc.resolve_left c
    have ix : oIxA (.ref (M.length + 1)) (.int (a.2 : Int)) M1 = .ok (asV x) M1 := oIxA_dk g1 (by rw [gA_zip, hx]; rfl)
    have i2 : ∀ M, oIxA (asV x) (.int 2) M = .ok (.tup ys) M := fun _ => by rw [← hy]; rfl
    have nn : ∀ M, oIsN true (.tup ys) M = .ok (.bl true) M := fun _ => rfl
    obtain ⟨XD, hXD⟩ : ∃ X, asV x = X := ⟨_, rfl⟩
    rw [hXD] at ix i2
    push_cast [B_Kernel_take_said, tg, mFld_eq, mMth_eq, i0, ls0, insOf_at h.ka.sto, lk_sn_rows, sr, as, ia, ix, i2, nn]
theorem said_tg (word : Nm) (a : Ak) (more : List D) (hm : more.length ≤ 10) (env : Fn.Env) (M : Mem) : gS 3 2 (gsCons (gN 4) (gsCons (gT 2 (gsCons (gN 5) (gsCons (gN 6) gsNil))) (gsCons (gN 7) gsNil))) (.tup (.str word :: askD a :: more)) env M = .ok ((((env.set 4 (some (.str word))).set 5 (some (.str a.1))).set 6 (some (.int (a.2 : Int)))).set 7 (some (.lst more))) M := by
  have d1 : (3 ≤ (D.str word :: askD a :: more).length + 1 ∧ (D.str word :: askD a :: more).length ≤ 16384) := by simp; omega
  have tk : (List.drop 2 (D.str word :: askD a :: more)).take ((D.str word :: askD a :: more).length + 1 - 3) = more := List.take_of_length_le (by simp)
  have dr : (List.drop 2 (D.str word :: askD a :: more)).drop ((D.str word :: askD a :: more).length + 1 - 3) = [] := List.drop_of_length_le (by simp)
  have t2 : (D.str word :: askD a :: more).take 2 = [D.str word, askD a] := rfl
  rw [gS_eq, if_pos d1, tk, dr, t2]
  rfl
theorem said_open (h : KO M k st w lt op plan house l firm L okv) (ha : AskL l) (ok : ∀ r ∈ l, RwOk r) (hl : l.length ≤ 4000) (ho : okv.length ≤ 10000) (sender : D) (a : Ak) (t : Nat) {x : As} (hx : (asksL l)[a.2]? = some x) (hn : x.ans = .non) :
    ∃ M' okv', g_Kernel_take_said [.ref k, sender, .tup [.str [111, 112, 101, 110], askD a], .int t] M = .ok .non M' ∧ KO M' k st w lt op plan house l firm L okv' ∧ okv'.length ≤ okv.length + 1 ∧ M.length ≤ M'.length ∧ ∀ i, i < M.length → i ≠ op → M'[i]? = M[i]? := by
  obtain ⟨M1, _, as, g1, k1, m1l, old1⟩ := take_pre h ha ok hl
  obtain ⟨S, hS⟩ : ∃ X, asksL l = X := ⟨_, rfl⟩
  rw [hS] at g1 hx
  have sr := stone_rows_eq h.ka
  obtain ⟨kp, hk⟩ := h.at_
  obtain ⟨kp1, hk1⟩ := k1.at_
  have i0 := insOf_at hk
  have i1 := insOf_at hk1
  have ls0 := lk_kn_stone plan (.str house) (.int 6) (.int 3) (.ref st) (.ref lt) kp (.ref op)
  have lo1 := lk_kn_opened plan (.str house) (.int 6) (.int 3) (.ref st) (.ref lt) kp1 (.ref op)
  have tg := said_tg [111, 112, 101, 110] a [] (by simp)
  have hcl := (List.getElem?_eq_some_iff.mp hx).1
  have ia : oInA true (.int (a.2 : Int)) (.ref (M.length + 1)) M1 = .ok (.bl false) M1 := by
    rw [oInA_dk g1, gA_zip, hx]; rfl
  have ix : oIxA (.ref (M.length + 1)) (.int (a.2 : Int)) M1 = .ok (asV x) M1 := oIxA_dk g1 (by rw [gA_zip, hx]; rfl)
  have i2 : ∀ M, oIxA (asV x) (.int 2) M = .ok .non M := fun _ => by rw [← hn]; rfl
  have nn : ∀ M, oIsN true .non M = .ok (.bl false) M := fun _ => rfl
  have qo : ∀ M, oEq false (.str [111, 112, 101, 110]) (.str [111, 112, 101, 110]) M = .ok (.bl true) M := fun M => by rw [str_eq]; simp
  have ty := tyOk_dk k1.opn
  obtain ⟨v, hv⟩ : ∃ v, (gA okv (.inl (a.2 : Int))).getD (.int (t : Int)) = v := ⟨_, rfl⟩
  have gm : oGetM (.ref op) [.int (a.2 : Int), .int (t : Int)] M1 = .ok v M1 := by rw [oGetM_dk2 k1.opn, hv]
  have sp : sPut M1 (.ref op) (.int (a.2 : Int)) v = some (M1.set op (.dk false (pA okv (.inl (a.2 : Int)) v))) := sPut_dk k1.opn (by omega)
  obtain ⟨n1, n2, n3, n4⟩ := k1.nes
  have opl := lt_of_get k1.opn
  obtain ⟨M2, hM2⟩ : ∃ X, M1.set op (.dk false (pA okv (.inl (a.2 : Int)) v)) = X := ⟨_, rfl⟩
  rw [hM2] at sp
  have o2 : ∀ i, i ≠ op → M2[i]? = M1[i]? := fun i hi => by rw [← hM2, List.getElem?_set_ne (Ne.symm hi)]
  have k2 : KO M2 k st w lt op plan house l firm L (pA okv (.inl (a.2 : Int)) v) := ⟨k1.ka.same (o2 _ (Ne.symm n1)) (o2 _ (Ne.symm n2)) (o2 _ (Ne.symm n3)) (o2 _ (Ne.symm n4)), ⟨kp1, by rw [o2 _ (Ne.symm n1)]; exact hk1⟩, by rw [← hM2]; exact List.getElem?_set_self opl⟩
  refine ⟨M2, _, runB_rt (N := 12) (?_ : B_Kernel_take_said [some (.ref k), some sender, some (.tup [.str [111, 112, 101, 110], askD a]), some (.int (t : Int)), none, none, none, none, none, none, none, none] M = .ok (.rt .non) M2), k2, pA_len _ _ _, by rw [← hM2, List.length_set]; omega, fun i hi hp => by rw [o2 i hp, old1 i hi]⟩
  obtain ⟨WD, hWD⟩ : ∃ X, D.tup [.str [111, 112, 101, 110], askD a] = X := ⟨_, rfl⟩
  rw [hWD] at tg ⊢
  obtain ⟨RD, hRD⟩ : ∃ X, D.tup (l.map rwD) = X := ⟨_, rfl⟩
  rw [hRD] at as sr
  obtain ⟨XD, hXD⟩ : ∃ X, asV x = X := ⟨_, rfl⟩
  rw [hXD] at ix i2
  push_cast [B_Kernel_take_said, tg, mFld_eq, mMth_eq, i0, ls0, insOf_at h.ka.sto, lk_sn_rows, sr, as, ia, ix, i2, nn, qo, i1, lo1, ty, gm, gIxA_eq, sp]
theorem said_plain (h : KO M k st w lt op plan house l firm L okv) (ha : AskL l) (ok : ∀ r ∈ l, RwOk r) (hl : l.length ≤ 4000) (sender : D) (word : Nm) (h1 : word ≠ [111, 112, 101, 110]) (h2 : word ≠ [102, 111, 117, 110, 100]) (a : Ak) (more : List D) (hm : more.length ≤ 10) (t : Nat) {x : As} (hx : (asksL l)[a.2]? = some x) (hn : x.ans = .non) :
    ∃ M', g_Kernel_take_said [.ref k, sender, .tup (.str word :: askD a :: more), .int t] M = .ok .non M' ∧ KO M' k st w lt op plan house (l ++ [answerR t a.2 (.tup (.str word :: more))]) firm L okv ∧ M.length ≤ M'.length ∧ ∀ i, i < M.length → i ≠ w → M'[i]? = M[i]? := by
  obtain ⟨M1, _, as, g1, k1, m1l, old1⟩ := take_pre h ha ok hl
  obtain ⟨S, hS⟩ : ∃ X, asksL l = X := ⟨_, rfl⟩
  rw [hS] at g1 hx
  have sr := stone_rows_eq h.ka
  obtain ⟨kp, hk⟩ := h.at_
  obtain ⟨kp1, hk1⟩ := k1.at_
  have i0 := insOf_at hk
  have i1 := insOf_at hk1
  have ls0 := lk_kn_stone plan (.str house) (.int 6) (.int 3) (.ref st) (.ref lt) kp (.ref op)
  have ls1 := lk_kn_stone plan (.str house) (.int 6) (.int 3) (.ref st) (.ref lt) kp1 (.ref op)
  have tg := said_tg word a more hm
  have ia : oInA true (.int (a.2 : Int)) (.ref (M.length + 1)) M1 = .ok (.bl false) M1 := by
    rw [oInA_dk g1, gA_zip, hx]; rfl
  have ix : oIxA (.ref (M.length + 1)) (.int (a.2 : Int)) M1 = .ok (asV x) M1 := oIxA_dk g1 (by rw [gA_zip, hx]; rfl)
  have i2 : ∀ M, oIxA (asV x) (.int 2) M = .ok .non M := fun _ => by rw [← hn]; rfl
  have nn : ∀ M, oIsN true .non M = .ok (.bl false) M := fun _ => rfl
  have qo : ∀ M, oEq false (.str word) (.str [111, 112, 101, 110]) M = .ok (.bl false) M := fun M => by rw [str_eq, decide_eq_false h1]
  have qf : ∀ M, oEq false (.str word) (.str [102, 111, 117, 110, 100]) M = .ok (.bl false) M := fun M => by rw [str_eq, decide_eq_false h2]
  have ot : ∀ M, oTuple [.lst more] M = .ok (.tup more) M := fun _ => rfl
  have ad : ∀ M, oAdd false (.tup [.str word]) (.tup more) M = .ok (.tup (.str word :: more)) M := fun M => by rw [oAddTT _ _ _ (by simp; omega)]; rfl
  have sw := stone_write_eq k1.ka (by omega) (answerR t a.2 (.tup (.str word :: more)))
  have rd : rwD (answerR t a.2 (.tup (.str word :: more))) = .tup [.str answerN, .int t, .int (a.2 : Int), .tup (.str word :: more)] := rfl
  have kw := k1.ka.write (answerR t a.2 (.tup (.str word :: more)))
  obtain ⟨M2, hM2⟩ : ∃ X, M1.set w (.lst (l.map rwD ++ [rwD (answerR t a.2 (.tup (.str word :: more)))])) = X := ⟨_, rfl⟩
  rw [hM2] at sw kw
  rw [rd] at sw
  have o2 : ∀ i, i ≠ w → M2[i]? = M1[i]? := fun i hi => by rw [← hM2, List.getElem?_set_ne (Ne.symm hi)]
  refine ⟨M2, runB_nx (N := 12) (env := ?e) (?_ : B_Kernel_take_said [some (.ref k), some sender, some (.tup (.str word :: askD a :: more)), some (.int (t : Int)), none, none, none, none, none, none, none, none] M = _), k1.go kw fun i _ _ hw => o2 i hw, by rw [← hM2, List.length_set]; omega, fun i hi hw => by rw [o2 i hw, old1 i hi]⟩
  case e => exact [some (.ref k), some sender, some (.tup (.str word :: askD a :: more)), some (.int (t : Int)), some (.str word), some (.str a.1), some (.int (a.2 : Int)), some (.lst more), some (.tup (l.map rwD)), some (.ref (M.length + 1)), some (.tup (.str word :: more)), none]
  obtain ⟨WD, hWD⟩ : ∃ X, D.tup (.str word :: askD a :: more) = X := ⟨_, rfl⟩
  rw [hWD] at tg ⊢
  obtain ⟨RD, hRD⟩ : ∃ X, D.tup (l.map rwD) = X := ⟨_, rfl⟩
  rw [hRD] at as sr ⊢
  obtain ⟨XD, hXD⟩ : ∃ X, asV x = X := ⟨_, rfl⟩
  rw [hXD] at ix i2
  obtain ⟨AD, hAD⟩ : ∃ X, D.tup (.str word :: more) = X := ⟨_, rfl⟩
  rw [hAD] at ad sw ⊢
  push_cast [B_Kernel_take_said, tg, mFld_eq, mMth_eq, i0, ls0, insOf_at h.ka.sto, lk_sn_rows, sr, as, ia, ix, i2, nn, qo, ot, ad, qf, i1, ls1, insOf_at k1.ka.sto, lk_sn_write, sw]
end
section
variable {M : Mem} {k st w lt op : Nat} {plan : D} {house : Nm} {l : List Rw5} {firm : Nat} {L : List D} {okv : List (KK × D)}
theorem said_found (h : KO M k st w lt op plan house l firm L okv) (ha : AskL l) (ok : ∀ r ∈ l, RwOk r) (po : ∀ r ∈ l, PutOk r) (hl : l.length ≤ 4000) (p : Pu) (a : Ak) (hpa : p.a = some a) (b : Pt) (t : Nat) {x : As} (hx : (asksL l)[a.2]? = some x) (hn : x.ans = .non) {w0 : D} {rest : List D} (hw : x.what = .tup (w0 :: ptD b :: rest)) :
    ∃ M', g_Kernel_take_said [.ref k, .str p.h, .tup [.str [102, 111, 117, 110, 100], askD a, .int p.n, ptD p.pl, strT p.rs, .int p.far], .int t] M = .ok .non M' ∧ KO M' k st w lt op plan house (l ++ (putRow l t b p).toList ++ [answerR t a.2 (.tup [.str [102, 111, 117, 110, 100], .str p.h, .int p.n])]) firm L okv ∧ M.length ≤ M'.length ∧ ∀ i, i < M.length → i ≠ w → M'[i]? = M[i]? := by
  obtain ⟨M1, _, as, g1, k1, m1l, old1⟩ := take_pre h ha ok hl
  obtain ⟨S, hS⟩ : ∃ X, asksL l = X := ⟨_, rfl⟩
  rw [hS] at g1 hx
  have sr := stone_rows_eq h.ka
  have pr := put_row_eq (M := M1) po (by omega) t b p hpa (.str [102, 111, 117, 110, 100])
  obtain ⟨kp, hk⟩ := h.at_
  obtain ⟨kp1, hk1⟩ := k1.at_
  have i0 := insOf_at hk
  have i1 := insOf_at hk1
  have ls0 := lk_kn_stone plan (.str house) (.int 6) (.int 3) (.ref st) (.ref lt) kp (.ref op)
  have ls1 := lk_kn_stone plan (.str house) (.int 6) (.int 3) (.ref st) (.ref lt) kp1 (.ref op)
  have tg := said_tg [102, 111, 117, 110, 100] a [.int p.n, ptD p.pl, strT p.rs, .int p.far] (by simp)
  have ia : oInA true (.int (a.2 : Int)) (.ref (M.length + 1)) M1 = .ok (.bl false) M1 := by
    rw [oInA_dk g1, gA_zip, hx]; rfl
  have ix : oIxA (.ref (M.length + 1)) (.int (a.2 : Int)) M1 = .ok (asV x) M1 := oIxA_dk g1 (by rw [gA_zip, hx]; rfl)
  have i2 : ∀ M, oIxA (asV x) (.int 2) M = .ok .non M := fun _ => by rw [← hn]; rfl
  have iw : ∀ M, oIxA (asV x) (.int 1) M = .ok (.tup (w0 :: ptD b :: rest)) M := fun _ => by rw [← hw]; rfl
  have ib : ∀ M, oIxA (.tup (w0 :: ptD b :: rest)) (.int 1) M = .ok (ptD b) M := fun M => by
    have : oIxA (.tup (w0 :: ptD b :: rest)) (.int ((1 : Nat) : Int)) M = .ok (ptD b) M := by
      show oIx (.tup (w0 :: ptD b :: rest)) (.int ((1 : Nat) : Int)) M = _
      rw [oIx_tup, atI_nat (v := ptD b) rfl]
    exact this
  have nn : ∀ M, oIsN true .non M = .ok (.bl false) M := fun _ => rfl
  have qo : ∀ M, oEq false (.str [102, 111, 117, 110, 100]) (.str [111, 112, 101, 110]) M = .ok (.bl false) M := fun M => by rw [str_eq]; rfl
  have qf : ∀ M, oEq false (.str [102, 111, 117, 110, 100]) (.str [102, 111, 117, 110, 100]) M = .ok (.bl true) M := fun M => by rw [str_eq]; simp
  have ot : ∀ M, oTuple [.lst [.int p.n, ptD p.pl, strT p.rs, .int p.far]] M = .ok (.tup [.int p.n, ptD p.pl, strT p.rs, .int p.far]) M := fun _ => rfl
  have ad : ∀ M, oAdd false (.tup [.str [102, 111, 117, 110, 100]]) (.tup [.int p.n, ptD p.pl, strT p.rs, .int p.far]) M = .ok (.tup [.str [102, 111, 117, 110, 100], .int p.n, ptD p.pl, strT p.rs, .int p.far]) M := fun M => by rw [oAddTT _ _ _ (by simp)]; rfl
  have ad2 : ∀ M, oAdd false (.tup [.str [102, 111, 117, 110, 100], askD a, .int p.n, ptD p.pl, strT p.rs, .int p.far]) (.tup [ptD b]) M = .ok (.tup [.str [102, 111, 117, 110, 100], askD a, .int p.n, ptD p.pl, strT p.rs, .int p.far, ptD b]) M := fun M => by rw [oAddTT _ _ _ (by simp)]; rfl
  have m0 : ∀ M, oIxA (.lst [.int p.n, ptD p.pl, strT p.rs, .int p.far]) (.int 0) M = .ok (.int p.n) M := fun _ => rfl
  -- the row put, if it is new
  obtain ⟨R, hR⟩ : ∃ X, putRow l t b p = X := ⟨_, rfl⟩
  rw [hR] at pr ⊢
  obtain ⟨RD, hRD⟩ : ∃ X, D.tup (l.map rwD) = X := ⟨_, rfl⟩
  have fin : rwD (answerR t a.2 (.tup [.str [102, 111, 117, 110, 100], .str p.h, .int p.n])) = .tup [.str answerN, .int t, .int (a.2 : Int), .tup [.str [102, 111, 117, 110, 100], .str p.h, .int p.n]] := rfl
  cases R with
  | none =>
    have pr : g_put_row [.tup (l.map rwD), .int t, .str p.h, .tup [.str [102, 111, 117, 110, 100], askD a, .int p.n, ptD p.pl, strT p.rs, .int p.far, ptD b]] M1 = .ok .non M1 := pr
    have e0 : l ++ (none : Option Rw5).toList = l := by simp
    rw [e0]
    have sw := stone_write_eq k1.ka (by omega) (answerR t a.2 (.tup [.str [102, 111, 117, 110, 100], .str p.h, .int p.n]))
    have kw := k1.ka.write (answerR t a.2 (.tup [.str [102, 111, 117, 110, 100], .str p.h, .int p.n]))
    obtain ⟨M2, hM2⟩ : ∃ X, M1.set w (.lst (l.map rwD ++ [rwD (answerR t a.2 (.tup [.str [102, 111, 117, 110, 100], .str p.h, .int p.n]))])) = X := ⟨_, rfl⟩
    rw [hM2] at sw kw
    rw [fin] at sw
    have o2 : ∀ i, i ≠ w → M2[i]? = M1[i]? := fun i hi => by rw [← hM2, List.getElem?_set_ne (Ne.symm hi)]
    refine ⟨M2, runB_nx (N := 12) (env := ?e) (?_ : B_Kernel_take_said [some (.ref k), some (.str p.h), some (.tup [.str [102, 111, 117, 110, 100], askD a, .int p.n, ptD p.pl, strT p.rs, .int p.far]), some (.int (t : Int)), none, none, none, none, none, none, none, none] M = _), k1.go kw fun i _ _ hw => o2 i hw, by rw [← hM2, List.length_set]; omega, fun i hi hw => by rw [o2 i hw, old1 i hi]⟩
    case e => exact [some (.ref k), some (.str p.h), some (.tup [.str [102, 111, 117, 110, 100], askD a, .int p.n, ptD p.pl, strT p.rs, .int p.far]), some (.int (t : Int)), some (.str [102, 111, 117, 110, 100]), some (.str a.1), some (.int (a.2 : Int)), some (.lst [.int p.n, ptD p.pl, strT p.rs, .int p.far]), some (.tup (l.map rwD)), some (.ref (M.length + 1)), some (.tup [.str [102, 111, 117, 110, 100], .str p.h, .int p.n]), some .non]
    rw [hRD] at as sr pr ⊢
    obtain ⟨XD, hXD⟩ : ∃ X, asV x = X := ⟨_, rfl⟩
    rw [hXD] at ix i2 iw
    obtain ⟨WW, hWW⟩ : ∃ X, D.tup (w0 :: ptD b :: rest) = X := ⟨_, rfl⟩
    rw [hWW] at iw ib
    obtain ⟨WD, hWD⟩ : ∃ X, D.tup [.str [102, 111, 117, 110, 100], askD a, .int p.n, ptD p.pl, strT p.rs, .int p.far] = X := ⟨_, rfl⟩
    rw [hWD] at tg ad2 ⊢
    push_cast [B_Kernel_take_said, tg, mFld_eq, mMth_eq, i0, ls0, insOf_at h.ka.sto, lk_sn_rows, sr, as, ia, ix, i2, nn, qo, ot, ad, qf, iw, ib, ad2, pr, m0, i1, ls1, insOf_at k1.ka.sto, lk_sn_write, sw]
  | some r =>
    have pr : g_put_row [.tup (l.map rwD), .int t, .str p.h, .tup [.str [102, 111, 117, 110, 100], askD a, .int p.n, ptD p.pl, strT p.rs, .int p.far, ptD b]] M1 = .ok (rwD r) M1 := pr
    have e0 : l ++ (some r).toList = l ++ [r] := rfl
    rw [e0]
    have nr : ∀ M, oIsN true (rwD r) M = .ok (.bl true) M := fun M => by cases r <;> rfl
    have sw0 := stone_write_eq k1.ka (by omega) r
    have kw0 := k1.ka.write r
    obtain ⟨M2, hM2⟩ : ∃ X, M1.set w (.lst (l.map rwD ++ [rwD r])) = X := ⟨_, rfl⟩
    rw [hM2] at sw0 kw0
    have o2 : ∀ i, i ≠ w → M2[i]? = M1[i]? := fun i hi => by rw [← hM2, List.getElem?_set_ne (Ne.symm hi)]
    have m2l : M2.length = M1.length := by rw [← hM2, List.length_set]
    have k2 := k1.go kw0 fun i _ _ hw => o2 i hw
    obtain ⟨kp2, hk2⟩ := k2.at_
    have i2' := insOf_at hk2
    have ls2 := lk_kn_stone plan (.str house) (.int 6) (.int 3) (.ref st) (.ref lt) kp2 (.ref op)
    have sw := stone_write_eq k2.ka (by simp; omega) (answerR t a.2 (.tup [.str [102, 111, 117, 110, 100], .str p.h, .int p.n]))
    have kw := k2.ka.write (answerR t a.2 (.tup [.str [102, 111, 117, 110, 100], .str p.h, .int p.n]))
    obtain ⟨M3, hM3⟩ : ∃ X, M2.set w (.lst ((l ++ [r]).map rwD ++ [rwD (answerR t a.2 (.tup [.str [102, 111, 117, 110, 100], .str p.h, .int p.n]))])) = X := ⟨_, rfl⟩
    rw [hM3] at sw kw
    rw [fin] at sw
    have o3 : ∀ i, i ≠ w → M3[i]? = M2[i]? := fun i hi => by rw [← hM3, List.getElem?_set_ne (Ne.symm hi)]
    refine ⟨M3, runB_nx (N := 12) (env := ?e) (?_ : B_Kernel_take_said [some (.ref k), some (.str p.h), some (.tup [.str [102, 111, 117, 110, 100], askD a, .int p.n, ptD p.pl, strT p.rs, .int p.far]), some (.int (t : Int)), none, none, none, none, none, none, none, none] M = _), k2.go kw fun i _ _ hw => o3 i hw, by rw [← hM3, List.length_set]; omega, fun i hi hw => by rw [o3 i hw, o2 i hw, old1 i hi]⟩
    case e => exact [some (.ref k), some (.str p.h), some (.tup [.str [102, 111, 117, 110, 100], askD a, .int p.n, ptD p.pl, strT p.rs, .int p.far]), some (.int (t : Int)), some (.str [102, 111, 117, 110, 100]), some (.str a.1), some (.int (a.2 : Int)), some (.lst [.int p.n, ptD p.pl, strT p.rs, .int p.far]), some (.tup (l.map rwD)), some (.ref (M.length + 1)), some (.tup [.str [102, 111, 117, 110, 100], .str p.h, .int p.n]), some (rwD r)]
    rw [hRD] at as sr pr ⊢
    obtain ⟨XD, hXD⟩ : ∃ X, asV x = X := ⟨_, rfl⟩
    rw [hXD] at ix i2 iw
    obtain ⟨WW, hWW⟩ : ∃ X, D.tup (w0 :: ptD b :: rest) = X := ⟨_, rfl⟩
    rw [hWW] at iw ib
    obtain ⟨WD, hWD⟩ : ∃ X, D.tup [.str [102, 111, 117, 110, 100], askD a, .int p.n, ptD p.pl, strT p.rs, .int p.far] = X := ⟨_, rfl⟩
    rw [hWD] at tg ad2 ⊢
    obtain ⟨RW, hRW⟩ : ∃ X, rwD r = X := ⟨_, rfl⟩
    rw [hRW] at pr nr sw0 ⊢
    push_cast [B_Kernel_take_said, tg, mFld_eq, mMth_eq, i0, ls0, insOf_at h.ka.sto, lk_sn_rows, sr, as, ia, ix, i2, nn, qo, ot, ad, qf, iw, ib, ad2, pr, nr, i1, ls1, insOf_at k1.ka.sto, lk_sn_write, sw0, m0, i2', ls2, insOf_at k2.ka.sto, sw]
theorem take_said_of {d sd : D} {word : Nm} {t : Int} {M' : Mem} (h : KO M k st w lt op plan house l firm L okv) (h0 : ∀ M, oIx d (.int 0) M = .ok (.str word) M) (hw : word = [111, 112, 101, 110] ∨ word = [110, 111] ∨ word = [116, 97, 107, 101, 110] ∨ word = [103, 111, 110, 101] ∨ word = [100, 111, 110, 101] ∨ word = [102, 111, 117, 110, 100])
    (e : g_Kernel_take_said [.ref k, sd, d, .int t] M = .ok .non M') : g_Kernel_take [.ref k, sd, d, .int t] M = .ok .non M' := by
  obtain ⟨kp, hk⟩ := h.at_
  have i0 := insOf_at hk
  have lt0 := lk_kn_take_said plan (.str house) (.int 6) (.int 3) (.ref st) (.ref lt) kp (.ref op)
  have n1 : ∀ M, oInF false (.str word) (.tup [.str [111, 102, 102, 101, 114], .str [109, 97, 107, 101], .str [99, 117, 116], .str [99, 97, 108, 108], .str [103, 105, 118, 101, 110], .str [119, 97, 110, 116]]) M = .ok (.bl false) M := fun M => by
    have := oInF_strs (neg := false) (w := word) (d := .tup ([[111, 102, 102, 101, 114], [109, 97, 107, 101], [99, 117, 116], [99, 97, 108, 108], [103, 105, 118, 101, 110], [119, 97, 110, 116]].map D.str)) (F := [[111, 102, 102, 101, 114], [109, 97, 107, 101], [99, 117, 116], [99, 97, 108, 108], [103, 105, 118, 101, 110], [119, 97, 110, 116]]) (M := M) rfl
    refine this.trans ?_
    rcases hw with rfl | rfl | rfl | rfl | rfl | rfl <;> rfl
  have n2 : ∀ M, oEq false (.str word) (.str [119, 97, 114, 114, 97, 110, 116]) M = .ok (.bl false) M := fun M => by
    rw [str_eq]
    rcases hw with rfl | rfl | rfl | rfl | rfl | rfl <;> rfl
  refine runB_nx (N := 5) (env := [some (.ref k), some sd, some d, some (.int t), none]) (?_ : B_Kernel_take [some (.ref k), some sd, some d, some (.int t), none] M = _)
  push_cast [B_Kernel_take, h0, n1, n2, mMth_eq, i0, lt0, e]
end
theorem sorted_nats (l : List Nat) : ∃ ks : List Nat, ks.Perm l ∧ ks.Pairwise (· ≤ ·) ∧ ∀ M, oSorted false [.lst (natsD l)] M = .ok (.lst (natsD ks)) M := by
  refine ⟨l.mergeSort fun a b => decide (a ≤ b), List.mergeSort_perm _ _, ?_, fun M => ?_⟩
  · have := List.pairwise_mergeSort (le := fun a b : Nat => decide (a ≤ b)) (fun a b c h1 h2 => by simp at *; omega) (fun a b => by simp; omega) l
    exact this.imp fun h => by simpa using h
  · have e : sortD (natsD l) = natsD (l.mergeSort fun a b => decide (a ≤ b)) := by
      unfold sortD natsD
      symm
      apply List.map_mergeSort
      intro a _ b _
      exact (leD_nat a b).symm
    simp only [oSorted, lstOf, if_pos (sortOk_nats l), mkL_f, e]
def hnK (E : List Pu) : List (KK × D) := E.zipIdx.map fun x => (.inl (x.2 : Int), tblR x)
def usK (n : Nat) : List (KK × D) := (List.range n).map fun j : Nat => ((.inl (j : Int) : KK), D.int 1)
theorem gA_app (a b : List (KK × D)) (k : KK) : gA (a ++ b) k = (gA a k).or (gA b k) := by
  unfold gA
  rw [List.find?_append]
  cases a.find? fun kv => decide (kv.1 = k) <;> simp
theorem gA_us (n p : Nat) : gA (usK n) (.inl (p : Int)) = if p < n then some (.int 1) else none := by
  induction n with
  | zero => simp [usK, gA]
  | succ n ih =>
    unfold usK at ih ⊢
    rw [List.range_succ, List.map_append, gA_app, ih]
    by_cases c : p < n
    · rw [if_pos c, if_pos (by omega)]; rfl
    · rw [if_neg c]
      by_cases d : p = n
      · subst d; rw [if_pos (by omega)]; simp [gA]
      · rw [if_neg (by omega)]
        have : ¬ ((n : Int) = (p : Int)) := by omega
        simp [gA]; omega
theorem gA_hn (E : List Pu) (p : Nat) : (gA (hnK E) (.inl (p : Int))).isSome = decide (p < E.length) ∧ ∀ x, E[p]? = some x → gA (hnK E) (.inl (p : Int)) = some (tblR (x, p)) := by
  suffices ∀ (E : List Pu) (o : Nat), ((gA ((E.zipIdx o).map fun x => ((.inl (x.2 : Int) : KK), tblR x)) (.inl (p : Int))).isSome = decide (o ≤ p ∧ p < o + E.length)) ∧ ∀ x, o ≤ p → E[p - o]? = some x → gA ((E.zipIdx o).map fun x => ((.inl (x.2 : Int) : KK), tblR x)) (.inl (p : Int)) = some (tblR (x, p)) by
    have := this E 0
    simpa [hnK] using this
  intro E
  induction E with
  | nil => intro o; simp [gA]
  | cons e E ih =>
    intro o
    obtain ⟨i1, i2⟩ := ih (o + 1)
    rw [List.zipIdx_cons, List.map_cons]
    by_cases c : o = p
    · subst c
      refine ⟨by simp [gA], fun x _ hx => ?_⟩
      rw [Nat.sub_self] at hx
      have hx : some e = some x := hx
      cases hx
      simp [gA]
    · have hne : ¬ ((Sum.inl (o : Int) : KK) = .inl (p : Int)) := fun z => by injection z with z; omega
      have g1 : gA (((.inl (o : Int) : KK), tblR (e, o)) :: (E.zipIdx (o + 1)).map fun x => ((.inl (x.2 : Int) : KK), tblR x)) (.inl (p : Int)) = gA ((E.zipIdx (o + 1)).map fun x => ((.inl (x.2 : Int) : KK), tblR x)) (.inl (p : Int)) := by
        unfold gA
        rw [List.find?_cons_of_neg (by simpa using hne)]
      rw [g1]
      refine ⟨by rw [i1, decide_eq_decide, List.length_cons]; omega, fun x h1 hx => i2 x (by omega) ?_⟩
      rw [show p - o = (p - (o + 1)) + 1 by omega] at hx
      simpa using hx
theorem hn_snoc (E : List Pu) (x : Pu) (v : D) (hv : v = tblR (x, E.length)) : pA (hnK E) (.inl (E.length : Int)) v = hnK (E ++ [x]) := by
  have h := (gA_hn E E.length).1
  have h : (gA (hnK E) (.inl (E.length : Int))).isSome = false := by rw [h]; simp
  unfold pA
  have hn : ((hnK E).any fun kv => decide (kv.1 = .inl (E.length : Int))) = false := by
    rw [Bool.eq_false_iff]
    intro z
    unfold gA at h
    rw [Option.isSome_map] at h
    obtain ⟨kv, hk, hd⟩ := List.any_eq_true.mp z
    have : ((hnK E).find? fun kv => decide (kv.1 = .inl (E.length : Int))).isSome = true := List.find?_isSome.mpr ⟨kv, hk, hd⟩
    rw [this] at h; cases h
  rw [if_neg (by rw [hn]; simp), hv]
  unfold hnK
  rw [List.zipIdx_append, List.map_append]
  simp
theorem us_snoc (n : Nat) : pA (usK n) (.inl (n : Int)) (.int 1) = usK (n + 1) := by
  have h : gA (usK n) (.inl (n : Int)) = none := by rw [gA_us, if_neg (by omega)]
  unfold pA
  have hn : ((usK n).any fun kv => decide (kv.1 = .inl (n : Int))) = false := by
    rw [Bool.eq_false_iff]
    intro z
    unfold gA at h
    obtain ⟨kv, hk, hd⟩ := List.any_eq_true.mp z
    have : ((usK n).find? fun kv => decide (kv.1 = .inl (n : Int))).isSome = true := List.find?_isSome.mpr ⟨kv, hk, hd⟩
    rw [Option.map_eq_none_iff] at h
    rw [h] at this; cases this
  rw [if_neg (by rw [hn]; simp)]
  unfold usK
  rw [List.range_succ, List.map_append]; rfl
theorem spot_loop {M : Mem} {t : Nat} {E : List Pu} (h : M[t]? = some (.dk false (hnK E))) (x0 x1 x2 x4 : Option D) : ∀ (n fuel p : Nat), n < fuel → p + n = E.length →
    whileM T_law_handles_0 L_law_handles_1 fuel [x0, x1, x2, some (.ref t), x4, some (.int p)] M = .ok (.nx [x0, x1, x2, some (.ref t), x4, some (.int (E.length : Nat))]) M
  | n, 0, _, hf, _ => absurd hf (by omega)
  | 0, fuel + 1, p, hf, hp => by
    have e : oInA false (.int (p : Int)) (.ref t) M = .ok (.bl false) M := by rw [oInA_dk h, (gA_hn E p).1, decide_eq_false (by omega)]; rfl
    have c : T_law_handles_0 [x0, x1, x2, some (.ref t), x4, some (.int p)] M = .ok false M := by push_cast [T_law_handles_0, e]
    have : p = E.length := by omega
    subst this
    simp only [whileM, c, R.bind_ok, Bool.false_eq_true, if_false]
  | n + 1, fuel + 1, p, hf, hp => by
    have e : oInA false (.int (p : Int)) (.ref t) M = .ok (.bl true) M := by rw [oInA_dk h, (gA_hn E p).1, decide_eq_true (by omega)]; rfl
    have c : T_law_handles_0 [x0, x1, x2, some (.ref t), x4, some (.int p)] M = .ok true M := by push_cast [T_law_handles_0, e]
    have b : L_law_handles_1 [x0, x1, x2, some (.ref t), x4, some (.int p)] M = .ok (.nx [x0, x1, x2, some (.ref t), x4, some (.int (p + 1 : Nat))]) M := rfl
    have ih := spot_loop h x0 x1 x2 x4 n fuel (p + 1) (by omega) (by omega)
    simp only [whileM, c, R.bind_ok, if_true, b, ih]
theorem rw_wA (r : Rw5) (M : Mem) : oIxA (rwD r) (.int 0) M = .ok (.str r.w) M := by
  have e : oIxA (rwD r) (.int 0) M = oIx (rwD r) (.int 0) M := by cases r <;> rfl
  rw [e]; exact rw_w r M
theorem hn_turn {M0 : Mem} {E : List Pu} {b : Pt} {r : Rw5} (hr : PutOk r) (hd : r.w ≠ [100, 114, 111, 112]) (hl : E.length ≤ 2000) (x0 x5 : Option D) :
    ∃ y5, L_law_handles_2 [x0, some (ptD b), some (.ref M0.length), some (.ref (M0.length + 1)), some (rwD r), x5] (M0 ++ [.dk false (usK E.length), .dk false (hnK E)]) = .ok (.nx [x0, some (ptD b), some (.ref M0.length), some (.ref (M0.length + 1)), some (rwD r), y5]) (M0 ++ [.dk false (usK (E ++ (putOf b r).toList).length), .dk false (hnK (E ++ (putOf b r).toList))]) := by
  rcases put_case hr b with ⟨h1, h2⟩ | ⟨t, ho, x, rfl, _⟩
  · have w0 := fun M => rw_wA r M
    have q1 : ∀ M, oEq false (.str r.w) (.str [112, 117, 116]) M = .ok (.bl false) M := fun M => by rw [str_eq, decide_eq_false (show ¬ r.w = [112, 117, 116] from h1)]
    have q2 : ∀ M, oEq false (.str r.w) (.str [100, 114, 111, 112]) M = .ok (.bl false) M := fun M => by rw [str_eq, decide_eq_false hd]
    have e : E ++ (putOf b r).toList = E := by rw [h2]; simp
    rw [e]
    obtain ⟨RD, hRD⟩ : ∃ X, rwD r = X := ⟨_, rfl⟩
    rw [hRD] at w0 ⊢
    exact ⟨x5, by push_cast [L_law_handles_2, w0, q1, q2]⟩
  · have w0 : ∀ M, oIxA (rwD (.oth putN t (puL ho x))) (.int 0) M = .ok (.str putN) M := fun _ => rfl
    have w2 : ∀ M, oIxA (rwD (.oth putN t (puL ho x))) (.int 2) M = .ok (ptD ho) M := fun _ => rfl
    have q1 : ∀ M, oEq false (.str putN) (.str [112, 117, 116]) M = .ok (.bl true) M := fun M => by rw [str_eq]; rfl
    have q2 : ∀ M, oEq false (.str putN) (.str [100, 114, 111, 112]) M = .ok (.bl false) M := fun M => by rw [str_eq]; rfl
    have q3 : ∀ M, oEq false (ptD ho) (ptD b) M = .ok (.bl (decide (ho = b))) M := fun M => by rw [pt_eqD, Bool.false_bne]
    by_cases c : ho = b
    · subst c
      rw [decide_eq_true rfl] at q3
      have e : E ++ (putOf ho (.oth putN t (puL ho x))).toList = E ++ [x] := by rw [putOf_put]; rfl
      rw [e]
      have g0 : ∀ C B, (M0 ++ [Cell.dk false C, B])[M0.length]? = some (.dk false C) := fun C B => app_get0 rfl
      have g1 : ∀ C B, (M0 ++ [B, Cell.dk false C])[M0.length + 1]? = some (.dk false C) := fun C B => app_get1 rfl
      have s0 : ∀ C B E, (M0 ++ [Cell.dk false C, B]).set M0.length (.dk false E) = M0 ++ [.dk false E, B] := fun C B E => app_set0 rfl
      have s1 : ∀ C B E, (M0 ++ [B, Cell.dk false C]).set (M0.length + 1) (.dk false E) = M0 ++ [B, .dk false E] := fun C B E => app_set1 rfl
      have wh := spot_loop (g1 (hnK E) (.dk false (usK E.length))) x0 (some (ptD ho)) (some (.ref M0.length)) (some (rwD (.oth putN t (puL ho x)))) E.length 1000000000 0 (by omega) (by omega)
      have wh : mWhile T_law_handles_0 L_law_handles_1 [x0, some (ptD ho), some (.ref M0.length), some (.ref (M0.length + 1)), some (rwD (.oth putN t (puL ho x))), some (.int 0)] (M0 ++ [.dk false (usK E.length), .dk false (hnK E)]) = .ok (.nx [x0, some (ptD ho), some (.ref M0.length), some (.ref (M0.length + 1)), some (rwD (.oth putN t (puL ho x))), some (.int (E.length : Nat))]) (M0 ++ [.dk false (usK E.length), .dk false (hnK E)]) := wh
      have td : ∀ C B, tyOk "dict" (M0 ++ [Cell.dk false C, B]) (.ref M0.length) = true := fun C B => tyOk_dk (g0 _ _)
      have gm : ∀ B, oGetM (.ref M0.length) [.int (E.length : Int), .int 0] (M0 ++ [Cell.dk false (usK E.length), B]) = .ok (.int 0) (M0 ++ [Cell.dk false (usK E.length), B]) := fun B => by
        rw [oGetM_dk2 (g0 _ _), gA_us, if_neg (by omega)]; rfl
      have sl : ∀ M, oSl false (rwD (.oth putN t (puL ho x))) (some 3) (some 8) M = .ok (.tup [.str x.h, .int x.n, ptD x.pl, strT x.rs, .int x.far]) M := fun M => by
        show oSl false (  .tup [.str putN, .int (t : Nat), ptD ho, .str x.h, .int x.n, ptD x.pl, strT x.rs, .int x.far, oAsk x.a]) (some 3) (some 8) M = _
        rw [oSl_tup]; rfl
      have ad : ∀ M, oAdd false (.tup [.tup [.int (E.length : Int), .int 0]]) (.tup [.str x.h, .int x.n, ptD x.pl, strT x.rs, .int x.far]) M = .ok (tblR (x, E.length)) M := fun M => by
        rw [oAddTT _ _ _ (by simp)]; rfl
      have hl1 : (hnK E).length < 16777216 := by unfold hnK; simp; omega
      have hl2 : (usK E.length).length < 16777216 := by unfold usK; simp; omega
      have p1 : sPut (M0 ++ [.dk false (usK E.length), .dk false (hnK E)]) (.ref (M0.length + 1)) (.int (E.length : Int)) (tblR (x, E.length)) = some (M0 ++ [.dk false (usK E.length), .dk false (hnK (E ++ [x]))]) := by
        rw [sPut_dk (g1 _ _) hl1, s1, hn_snoc E x _ rfl]
      have p2 : sPut (M0 ++ [.dk false (usK E.length), .dk false (hnK (E ++ [x]))]) (.ref M0.length) (.int (E.length : Int)) (.int (0 + 1)) = some (M0 ++ [.dk false (usK (E ++ [x]).length), .dk false (hnK (E ++ [x]))]) := by
        rw [sPut_dk (g0 _ _) hl2, s0, show ((0 : Int) + 1) = 1 from rfl, us_snoc, List.length_append]; rfl
      obtain ⟨RD, hRD⟩ : ∃ X, rwD (.oth putN t (puL ho x)) = X := ⟨_, rfl⟩
      rw [hRD] at w0 w2 sl wh ⊢
      obtain ⟨BD, hBD⟩ : ∃ X, ptD ho = X := ⟨_, rfl⟩
      rw [hBD] at w2 q3 wh ⊢
      exact ⟨some (.int (E.length : Nat)), by push_cast [L_law_handles_2, w0, q1, w2, q3, wh, td, gm, sl, ad, gIxA_eq, p1, p2, q2]⟩
    · rw [decide_eq_false c] at q3
      have e : E ++ (putOf b (.oth putN t (puL ho x))).toList = E := by rw [putOf_other t x c]; simp
      rw [e]
      obtain ⟨RD, hRD⟩ : ∃ X, rwD (.oth putN t (puL ho x)) = X := ⟨_, rfl⟩
      rw [hRD] at w0 w2 ⊢
      exact ⟨x5, by push_cast [L_law_handles_2, w0, q1, w2, q3, q2]⟩
theorem handles_law {M : Mem} {l : List Rw5} {b : Pt} (hb : ∀ r ∈ l, PutOk r) (hd : ∀ r ∈ l, r.w ≠ [100, 114, 111, 112]) (hl : l.length ≤ 2000) : g_law_handles [.tup (l.map rwD), ptD b] M = .ok (.lst ((putsOf l b).zipIdx.map tblR)) M := by
  have pl : ∀ k, (putsOf (l.take k) b).length ≤ 2000 := fun k => by
    unfold putsOf
    have h1 := List.length_filterMap_le (putOf b) (l.take k)
    have h2 : (l.take k).length ≤ l.length := by rw [List.length_take]; omega
    omega
  obtain ⟨env', m', e, y4, y5, rfl, rfl⟩ := forL_inv (g := gN 4) (body := L_law_handles_2) (fun k env m => ∃ y4 y5, env = [some (.tup (l.map rwD)), some (ptD b), some (.ref M.length), some (.ref (M.length + 1)), y4, y5] ∧ m = M ++ [.dk false (usK (putsOf (l.take k) b).length), .dk false (hnK (putsOf (l.take k) b))]) (l.map rwD) 0 [some (.tup (l.map rwD)), some (ptD b), some (.ref M.length), some (.ref (M.length + 1)), none, none] (M ++ [.dk false [], .dk false []]) ⟨_, _, rfl, rfl⟩ (by
    rintro k d env m hk ⟨y4, y5, rfl, rfl⟩
    rw [Nat.zero_add]
    rw [List.getElem?_map] at hk
    obtain ⟨r, hr, rfl⟩ := Option.map_eq_some_iff.mp hk
    have hrm := List.mem_of_getElem? hr
    obtain ⟨z5, e⟩ := hn_turn (M0 := M) (b := b) (hb r hrm) (hd r hrm) (pl k) (some (.tup (l.map rwD))) y5
    have ht : putsOf (l.take (k + 1)) b = putsOf (l.take k) b ++ (putOf b r).toList := by
      unfold putsOf
      rw [List.take_succ, hr, List.filterMap_append]
      congr 1
    rw [ht]
    exact ⟨_, _, by rw [gN_eq, R.bind_ok]; exact e, _, _, rfl, rfl⟩)
  rw [List.length_map, Nat.zero_add, List.take_length] at e
  have pl0 := pl l.length
  rw [List.take_length] at pl0
  obtain ⟨E, hE⟩ : ∃ X, putsOf l b = X := ⟨_, rfl⟩
  rw [hE] at e pl0 ⊢
  have g1 : (M ++ [Cell.dk false (usK E.length), .dk false (hnK E)])[M.length + 1]? = some (.dk false (hnK E)) := app_get1 rfl
  obtain ⟨m, hm⟩ : ∃ X, M ++ [Cell.dk false (usK E.length), .dk false (hnK E)] = X := ⟨_, rfl⟩
  have ol : oListA false [.ref (M.length + 1)] m = .ok (.lst (natsD (List.range E.length))) m := by
    rw [← hm, oListA_dk g1, mkL_f]
    congr 2
    unfold hnK natsD
    rw [List.map_map]
    apply List.ext_getElem?
    intro j
    by_cases h : j < E.length
    · rw [List.getElem?_map, List.getElem?_map, List.getElem?_range h, List.getElem?_zipIdx, List.getElem?_eq_getElem h]; simp [keyD]
    · rw [List.getElem?_eq_none (by simp; omega), List.getElem?_eq_none (by simp; omega)]
  obtain ⟨ks, k1, k2, k3⟩ := sorted_nats (List.range E.length)
  have kse : ks = List.range E.length := List.Perm.eq_of_pairwise (le := fun a b : Nat => a ≤ b) (fun a b _ _ h1 h2 => Nat.le_antisymm h1 h2) k2 (List.pairwise_le_range) k1
  rw [kse] at k3
  have cl : compL (fun _ => True) (gN 5) tsYes C_law_handles_3 [some (.tup (l.map rwD)), some (ptD b), some (.ref M.length), some (.ref (M.length + 1)), y4, none] (natsD (List.range E.length)) m = .ok (E.zipIdx.map tblR) m := by
    have c := compL_m (P := fun _ => True) (M := m) trivial (g := gN 5) (f := C_law_handles_3) (env := [some (.tup (l.map rwD)), some (ptD b), some (.ref M.length), some (.ref (M.length + 1)), y4, none]) (fun n : Nat => D.int (n : Int)) (fun n : Nat => match E[n]? with | some x => tblR (x, n) | none => .non) (List.range E.length) fun n hn => by
      have hnl := List.mem_range.mp hn
      obtain ⟨x, hx⟩ : ∃ x, E[n]? = some x := ⟨_, List.getElem?_eq_getElem hnl⟩
      have ix : oIxA (.ref (M.length + 1)) (.int (n : Int)) m = .ok (tblR (x, n)) m := by rw [← hm]; exact oIxA_dk g1 ((gA_hn E n).2 x hx)
      obtain ⟨LD, hLD⟩ : ∃ X, D.tup (l.map rwD) = X := ⟨_, rfl⟩
      obtain ⟨BD, hBD⟩ : ∃ X, ptD b = X := ⟨_, rfl⟩
      rw [hLD, hBD]
      refine ⟨[some LD, some BD, some (.ref M.length), some (.ref (M.length + 1)), y4, some (.int (n : Int))], rfl, ?_⟩
      rw [hx]
      push_cast [C_law_handles_3, ix]
    refine c.trans ?_
    congr 1
    apply List.ext_getElem?
    intro j
    by_cases h : j < E.length
    · rw [List.getElem?_map, List.getElem?_map, List.getElem?_range h, List.getElem?_zipIdx, List.getElem?_eq_getElem h]; simp [h]
    · rw [List.getElem?_eq_none (by simp; omega), List.getElem?_eq_none (by simp; omega)]
  obtain ⟨p, hp, _⟩ := Pl.lst (tblR_pl E)
  refine gc_val0 (junk := [Cell.dk false (usK E.length), .dk false (hnK E)]) (runB_rt (N := 6) (?_ : B_law_handles [some (.tup (l.map rwD)), some (ptD b), none, none, none, none] M = _)) hp
  rw [hm] at e ⊢
  have ma : (M ++ [Cell.dk false []]).length = M.length + 1 := by simp
  have mb : (M ++ [Cell.dk false []]) ++ [Cell.dk false []] = M ++ [.dk false [], .dk false []] := by simp
  have ll : (natsD (List.range E.length)).length < 16777216 := by unfold natsD; simp; omega
  have ss : srcOf M (.tup (l.map rwD)) = some ⟨l.map rwD, fun _ => True⟩ := rfl
  have wp : ∀ a b c d e : Option D, wipeE [a, b, c, d, e, y5] [5] = [a, b, c, d, e, none] := fun _ _ _ _ _ => rfl
  obtain ⟨BD, hBD⟩ : ∃ X, ptD b = X := ⟨_, rfl⟩
  rw [hBD] at e cl ⊢
  obtain ⟨LD, hLD⟩ : ∃ X, l.map rwD = X := ⟨_, rfl⟩
  rw [hLD] at e cl ⊢
  obtain ⟨ED, hED⟩ : ∃ X, E.zipIdx.map tblR = X := ⟨_, rfl⟩
  rw [hED] at cl ⊢
  obtain ⟨ND, hND⟩ : ∃ X, natsD (List.range E.length) = X := ⟨_, rfl⟩
  rw [hND] at ol k3 cl ll
  push_cast [B_law_handles, mDNewK_eq, ma, mb, mFor_eq, e, ol, k3, mLc_eq, if_pos ll, wp, cl]
theorem cell_eq (ns : List Int) (k : Nat) (M : Mem) : g_law_cell [.fz (intsD ns), .int k] M = .ok (.int (cellV ns k)) M := runB_rt (cell_run ns k M)
theorem oAbs_int (i : Int) (M : Mem) : oAbs [.int i] M = .ok (.int (if i < 0 then -i else i)) M := rfl
theorem flow_eq (ns : List Int) (k : Nat) (M : Mem) (hk : k < 1000) : ∃ s : Fl, s.ok ∧ g_law_flow [.fz (intsD ns), .int k] M = .ok (.ref M.length) (M ++ [s.c]) := by
  obtain ⟨c, hc⟩ : ∃ c, (if cellV ns k < 0 then -cellV ns k else cellV ns k) = c := ⟨_, rfl⟩
  have e0 : oAbs [.int (cellV ns k)] M = .ok (.int c) M := by rw [oAbs_int, hc]
  have h1 : 0 ≤ c % 2147483629 := Int.emod_nonneg _ (by omega)
  have h2 : c % 2147483629 < 2147483629 := Int.emod_lt_of_pos _ (by omega)
  by_cases h : 1000000000000000000 ≤ c
  · refine ⟨⟨c * 1, 0, c % 2147483629 + 40692 * k⟩, ⟨by show _ < _ + _; omega, by show _ + _ < _; omega⟩, runB_rt (N := 3) ?_⟩
    show B_law_flow [some (.fz (intsD ns)), some (.int k), none] M = _
    have m1 : oMul false (.int c) (.int 1) M = .ok (.int (c * 1)) M := oMul_r _ c 1 (by omega) (by omega)
    push_cast [B_law_flow, cell_eq, e0, pow_10_18, decide_eq_true h, m1, oMod_int _ 2147483629 i5, oMul_l _ 40692 _ i11 i12]
    rfl
  · refine ⟨⟨c * 0, 0, c % 2147483629 + 40692 * k⟩, ⟨by show _ < _ + _; omega, by show _ + _ < _; omega⟩, runB_rt (N := 3) ?_⟩
    show B_law_flow [some (.fz (intsD ns)), some (.int k), none] M = _
    have m1 : oMul false (.int c) (.int 0) M = .ok (.int (c * 0)) M := oMul_r _ c 0 (by omega) (by omega)
    push_cast [B_law_flow, cell_eq, e0, pow_10_18, decide_eq_false h, m1, oMod_int _ 2147483629 i5, oMul_l _ 40692 _ i11 i12]
    rfl
theorem ix32 : ixN 3 2 = some 2 := rfl
theorem drawb_run (s : Fl) (hs : s.ok) (i : Nat) (M : Mem) (many : Int) (h0 : 0 < many) (h1 : many < 1000000000000000000000000) (hM : M[i]? = some s.c) :
    ∃ (v : Int) (s' : Fl), 0 ≤ v ∧ v < many ∧ s'.ok ∧ B_law_draw [some (.ref i), some (.int many), none] M = .ok (.rt (.int v)) (M.set i s'.c) := by
  have hi : i < M.length := (List.getElem?_eq_some_iff.mp hM).1
  have hM' : M[i]? = some (.lst [.int s.own, .int s.cnt, .int s.seed]) := hM
  by_cases h : 0 < s.own
  · refine ⟨s.own % many, ⟨s.own / many, s.cnt, s.seed⟩, Int.emod_nonneg _ (by omega), Int.emod_lt_of_pos _ h0, hs, ?_⟩
    push_cast [B_law_draw, oIx_ref hM', at0, decide_eq_true h, oMod_int _ many h0, oDiv_int _ many (div_ok h0 h1 _), gIx_eq, hM', ix30]
    rfl
  · have hset : (M.set i (.lst [.int s.own, .int (s.cnt + 1), .int s.seed]))[i]? = some (.lst [.int s.own, .int (s.cnt + 1), .int s.seed]) := List.getElem?_set_self hi
    obtain ⟨n, hn⟩ : ∃ n, (s.seed * 48271 + 12820163 + (s.cnt + 1)) % 2147483647 = n := ⟨_, rfl⟩
    have b1 : 0 ≤ n := by rw [← hn]; exact Int.emod_nonneg _ (by omega)
    have b2 : n < 2147483647 := by rw [← hn]; exact Int.emod_lt_of_pos _ (by omega)
    have hset2 : (M.set i (.lst [.int s.own, .int (s.cnt + 1), .int n]))[i]? = some (.lst [.int s.own, .int (s.cnt + 1), .int n]) := List.getElem?_set_self hi
    have m1 : ∀ M, oMul false (.int s.seed) (.int 48271) M = .ok (.int (s.seed * 48271)) M := fun M => oMul_l _ _ _ (by have := hs.1; omega) (by have := hs.2; omega)
    have p1 : (0 : Int) < 2147483647 := by omega
    refine ⟨n / 31 % many, ⟨s.own, s.cnt + 1, n⟩, Int.emod_nonneg _ (by omega), Int.emod_lt_of_pos _ h0, ⟨by show _ < n; omega, by show n < _; omega⟩, ?_⟩
    push_cast [B_law_draw, oIx_ref hM', at0, at1, decide_eq_false h, gIx_eq, hM', ix31, oIx_ref hset, hset, at2, m1, oMod_int _ 2147483647 p1, hn, ix32, set_twice, oIx_ref hset2, oDiv_int _ 31 (div_ok i17 i18 _), oMod_int _ many h0]
    rfl
theorem draw_eq {M0 M : Mem} {i : Nat} (h : FlAt M0 i M) (many : Int) (h0 : 0 < many) (h1 : many < 1000000000000000000000000) : ∃ (v : Nat) (M' : Mem), (v : Int) < many ∧ FlAt M0 i M' ∧ g_law_draw [.ref i, .int many] M = .ok (.int v) M' := by
  obtain ⟨s, hs, hM, hk⟩ := h.get
  obtain ⟨v, s', k0, k1, k2, k3⟩ := drawb_run s hs i M many h0 h1 hM
  obtain ⟨n, rfl⟩ : ∃ n : Nat, v = (n : Int) := ⟨v.toNat, by omega⟩
  exact ⟨n, _, k1, hk s' k2, runB_rt (N := 3) k3⟩
abbrev abc : List Nat := [97, 98, 99, 100, 101, 102, 103, 104, 105, 106, 107, 108, 109, 110, 111, 112, 113, 114, 115, 116, 117, 118, 119, 120, 121, 122]
/-- a name: one to six small letters -/
def isNm (w : List Nat) : Bool := decide (1 ≤ w.length) && decide (w.length ≤ 6) && w.all fun c => decide (c ∈ abc)
theorem isNm_iff {w : List Nat} : isNm w = true ↔ 1 ≤ w.length ∧ w.length ≤ 6 ∧ ∀ c ∈ w, c ∈ abc := by
  unfold isNm
  simp only [Bool.and_eq_true, decide_eq_true_eq, List.all_eq_true]
  exact ⟨fun h => ⟨h.1.1, h.1.2, h.2⟩, fun h => ⟨⟨h.1, h.2.1⟩, h.2.2⟩⟩
/-- letters -/
theorem abc_at (v : Int) (h : 0 ≤ v) (h2 : v < 26) : ∃ c, atI abc v = some c ∧ c ∈ abc := atI_some h (by simpa using h2)
theorem word_comp {M0 M : Mem} {i : Nat} (h : FlAt M0 i M) (n : Nat) (hn : n < 1000) (env : Fn.Env) (he : ∀ (x : D), (env.set 4 (some x))[2]? = some (some (.str abc)) ∧ (env.set 4 (some x))[0]? = some (some (.ref i)))
    (f : FE) (hf : f = mOp oIx (mVar 2) (mFun 2 g_law_draw [] (aCons (mVar 0) (aCons (mC (.int 26)) aNil)))) :
    ∃ (w : List Nat) (M' : Mem), w.length = n ∧ (∀ c ∈ w, c ∈ abc) ∧ FlAt M0 i M' ∧ compL (fun _ => True) (gN 4) tsYes f env (rngItems 0 n) M = .ok (w.map fun c => .str [c]) M' := by
  subst hf
  obtain ⟨ys, M2, e2, l2, y2, h2⟩ := compL_inv (g := gN 4) (f := mOp oIx (mVar 2) (mFun 2 g_law_draw [] (aCons (mVar 0) (aCons (mC (.int 26)) aNil)))) (env := env) (fun _ M => FlAt M0 i M) (fun _ _ y => ∃ c : Nat, y = .str [c] ∧ c ∈ abc) (rngItems 0 n) 0 M h fun k d M2 hk h2 => by
    obtain ⟨u, M3, u1, h3, e3⟩ := draw_eq h2 26 (by omega) (by omega)
    obtain ⟨c, hc, hm⟩ := abc_at u (by omega) (by omega)
    obtain ⟨q1, q2⟩ := he d
    refine ⟨.str [c], M3, ?_, ⟨c, rfl, hm⟩, h3⟩
    push_cast [q1, q2, e3, oIx_str (show abc.length ≤ 16777216 by decide) hc]
  have hl : ys.length = n := by rw [l2, rngItems_len]
  have hy : ∀ d ∈ ys, ∃ c : Nat, d = .str [c] ∧ c ∈ abc := fun d hd => allY l2 y2 hd
  obtain ⟨w, hw, lw, rfl⟩ := strsOf_of (l := ys) fun d hd => by obtain ⟨c, h, _⟩ := hy d hd; exact ⟨c, h⟩
  refine ⟨w, M2, by omega, fun c hc => ?_, h2, e2⟩
  obtain ⟨c', e, hm⟩ := hy (.str [c]) (List.mem_map.mpr ⟨c, hc, rfl⟩)
  cases e
  exact hm
theorem join_eq {w : List Nat} {M : Mem} (h : w.length < 10000) : oJoin (.str []) [.lst (w.map fun c => .str [c])] M = .ok (.str w) M := by
  have : strsOf (w.map fun c => D.str [c]) = some (w.map fun c => [c]) := by
    induction w with
    | nil => rfl
    | cons c r ih => simp only [List.map_cons, strsOf, ih (by simp at h; omega)]; rfl
  have hsum : ((w.map fun c => [c]).map (·.length)).sum + (w.map fun c => [c]).length * ([] : List Nat).length ≤ 16777216 := by rw [sum_ones]; simp; omega
  simp only [oJoin, seqOf, lstOf, Option.bind_some, this, hsum, if_true, join_signs]
def bw (w : List Nat) : Prop := isNm w = true
theorem bw_mk {w : List Nat} (h1 : 1 ≤ w.length) (h2 : w.length ≤ 6) (h3 : ∀ c ∈ w, c ∈ abc) : bw w := isNm_iff.mpr ⟨h1, h2, h3⟩
def ltr (f k : Nat) : Nat := 97 + (f + 7 * k) % 26
theorem abc_ix : ∀ n : Nat, n < 26 → atI abc (n : Int) = some (97 + n) ∧ 97 + n ∈ abc := by decide
theorem ltr_mem (f k : Nat) : ltr f k ∈ abc := (abc_ix _ (Nat.mod_lt _ (by omega))).2
theorem ltr_at (f k : Nat) : atI abc (((f : Int) + 7 * (k : Int)) % 26) = some (ltr f k) := by
  rw [show ((f : Int) + 7 * (k : Int)) % 26 = (((f + 7 * k) % 26 : Nat) : Int) by omega]
  exact (abc_ix _ (Nat.mod_lt _ (by omega))).1
theorem ltr_inj {f i j : Nat} (hi : i < 26) (hj : j < 26) (h : ltr f i = ltr f j) : i = j := by unfold ltr at h; omega
def plainN (w : List Nat) (a f k : Nat) : List Nat := w.take a ++ [ltr f k] ++ w.drop a
def oddL (lg k : Nat) : Bool := decide (0 < lg * (k % 2))
def nmF (w : List Nat) (a f lg k : Nat) : List Nat := if oddL lg k = true then plainN w a f (k - 1) ++ [ltr f k] else plainN w a f k
def namesF (w : List Nat) (a f lg n : Nat) : List (List Nat) := (List.range n).map (nmF w a f lg)
theorem plainN_len {w : List Nat} {a f k : Nat} (h : a ≤ w.length) : (plainN w a f k).length = w.length + 1 := by
  unfold plainN; simp; omega
theorem plainN_at {w : List Nat} {a f k : Nat} (h : a ≤ w.length) : (plainN w a f k)[a]? = some (ltr f k) := by
  unfold plainN
  rw [List.append_assoc, List.getElem?_append_right (by rw [List.length_take]; omega), List.length_take, Nat.min_eq_left h, Nat.sub_self]
  rfl
theorem plainN_in {w : List Nat} {a f k : Nat} (hw : ∀ c ∈ w, c ∈ abc) : ∀ c ∈ plainN w a f k, c ∈ abc := fun c hc => by
  unfold plainN at hc
  simp only [List.mem_append, List.mem_singleton] at hc
  rcases hc with (hc | rfl) | hc
  · exact hw c (List.mem_of_mem_take hc)
  · exact ltr_mem f k
  · exact hw c (List.mem_of_mem_drop hc)
theorem nmF_bw {w : List Nat} {a f lg k : Nat} (h : a ≤ w.length) (h4 : w.length ≤ 4) (hw : ∀ c ∈ w, c ∈ abc) : bw (nmF w a f lg k) := by
  unfold nmF
  split
  · refine bw_mk (by rw [List.length_append, plainN_len h]; omega) (by rw [List.length_append, plainN_len h]; simp; omega) fun c hc => ?_
    rcases List.mem_append.mp hc with z | z
    · exact plainN_in hw c z
    · rw [List.mem_singleton.mp z]; exact ltr_mem f k
  · exact bw_mk (by rw [plainN_len h]; omega) (by rw [plainN_len h]; omega) (plainN_in hw)
theorem nmF_at {w : List Nat} {a f lg k : Nat} (h : a ≤ w.length) : (nmF w a f lg k)[a]? = some (ltr f (if oddL lg k = true then k - 1 else k)) := by
  unfold nmF
  split
  · rw [List.getElem?_append_left (by rw [plainN_len h]; omega), plainN_at h]
  · rw [plainN_at h]
theorem nmF_len {w : List Nat} {a f lg k : Nat} (h : a ≤ w.length) : (nmF w a f lg k).length = w.length + 1 + (if oddL lg k = true then 1 else 0) := by
  unfold nmF
  split
  · rw [List.length_append, plainN_len h]; rfl
  · rw [plainN_len h]
theorem oddL_odd {lg k : Nat} (h : oddL lg k = true) : k % 2 = 1 := by
  have := of_decide_eq_true h
  rcases Nat.mod_two_eq_zero_or_one k with z | z
  · rw [z] at this; simp at this
  · exact z
theorem nmF_inj {w : List Nat} {a f lg i j : Nat} (h : a ≤ w.length) (hi : i < 26) (hj : j < 26) (e : nmF w a f lg i = nmF w a f lg j) : i = j := by
  have e1 := congrArg List.length e
  have e2 := congrArg (·[a]?) e
  simp only [nmF_at h, Option.some.injEq] at e2
  rw [nmF_len h, nmF_len h] at e1
  cases ci : oddL lg i <;> cases cj : oddL lg j <;> simp only [ci, cj, if_true, if_false, Bool.false_eq_true] at e1 e2
  · exact ltr_inj hi hj e2
  · omega
  · omega
  · have := ltr_inj (by omega) (by omega) e2
    have h1 := oddL_odd ci
    have h2 := oddL_odd cj
    omega
theorem namesF_nd {w : List Nat} {a f lg n : Nat} (h : a ≤ w.length) (hn : n ≤ 26) : (namesF w a f lg n).Nodup := by
  unfold namesF List.Nodup
  rw [List.pairwise_map]
  refine (List.nodup_range (n := n)).imp_of_mem fun ha hb hne e => hne ?_
  exact nmF_inj h (by have := List.mem_range.mp ha; omega) (by have := List.mem_range.mp hb; omega) e
theorem namesF_len {w : List Nat} {a f lg n : Nat} : (namesF w a f lg n).length = n := by unfold namesF; rw [List.length_map, List.length_range]
theorem namesF_succ {w : List Nat} {a f lg n : Nat} : namesF w a f lg (n + 1) = namesF w a f lg n ++ [nmF w a f lg n] := by unfold namesF; rw [List.range_succ, List.map_append]; rfl
noncomputable def bnS2 : FS := (mIfS (bOf (mOp oGt (mOp (oMul false) (mVar 7) (mOp oMod (mVar 9) (mC (.int 2)))) (mC (.int 0)))) (mSet 10 (mOp (oAdd false) (mSl false (mOp oIx (mVar 8) (mUn oNeg (mC (.int 1)))) pNone (pSome (mCall oLen (aCons (mVar 10) aNil)))) (mOp oIx (mVar 2) (mOp oMod (mOp (oAdd false) (mVar 6) (mOp (oMul false) (mC (.int 7)) (mVar 9))) (mC (.int 26)))))) mPass)
theorem bnames_turn {A : Mem} {N : Nat} (hA : A.length = N) (k : Nat) (hk2 : k < 100) (w : List Nat) (hw : w.length ≤ 4) (v2 v3 v4 : Nat) (h2 : v2 ≤ w.length) (x0 x1 x4 x10 : Option D) :
    L_law_names_1 [x0, x1, some (.str abc), some (.str w), x4, some (.int v2), some (.int v3), some (.int v4), some (.ref N), some (.int (0 + (k : Int))), x10] (A ++ [.lst ((namesF w v2 v3 v4 k).map .str)]) = .ok (.nx [x0, x1, some (.str abc), some (.str w), x4, some (.int v2), some (.int v3), some (.int v4), some (.ref N), some (.int (0 + (k : Int))), some (.str (nmF w v2 v3 v4 k))]) (A ++ [.lst ((namesF w v2 v3 v4 (k + 1)).map .str)]) := by
  have hc1 : atI abc (((v3 : Int) + 7 * (0 + (k : Int))) % 26) = some (ltr v3 k) := by rw [Int.zero_add]; exact ltr_at v3 k
  obtain ⟨c, hc⟩ : ∃ c, ltr v3 k = c := ⟨_, rfl⟩
  have t1 : cutD w none (some (v2 : Int)) = w.take v2 := cutD_take w v2
  have t2 : cutD w (some (v2 : Int)) none = w.drop v2 := cutD_drop w v2
  have ix : oIx (.str abc) (.int (((v3 : Int) + 7 * (0 + (k : Int))) % 26)) = fun M => R.ok (.str [c]) M := by
    funext M
    exact oIx_str (by decide) (by rw [hc1, hc])
  have g8 : ∀ B, (A ++ [Cell.lst B])[N]? = some (.lst B) := fun B => app_get0 hA
  have s8 : ∀ B C, (A ++ [Cell.lst B]).set N (.lst C) = A ++ [.lst C] := fun B C => app_set0 hA
  obtain ⟨n1, hn1⟩ : ∃ n1, w.take v2 ++ [c] ++ w.drop v2 = n1 := ⟨_, rfl⟩
  have hp1 : plainN w v2 v3 k = n1 := by unfold plainN; rw [hc, hn1]
  have ln1 : n1.length = w.length + 1 := by rw [← hn1]; simp; omega
  have a1 : ∀ M, oAdd false (.str (w.take v2)) (.str [c]) M = .ok (.str (w.take v2 ++ [c])) M := fun M => oAdd_str (by simp; omega)
  have a2 : ∀ M, oAdd false (.str (w.take v2 ++ [c])) (.str (w.drop v2)) M = .ok (.str n1) M := fun M => by rw [oAdd_str (by simp; omega), hn1]
  have hS : L_law_names_1 = mSeq (mSet 10 (mOp (oAdd false) (mOp (oAdd false) (mSl false (mVar 3) pNone (pSome (mVar 5))) (mOp oIx (mVar 2) (mOp oMod (mOp (oAdd false) (mVar 6) (mOp (oMul false) (mC (.int 7)) (mVar 9))) (mC (.int 26))))) (mSl false (mVar 3) (pSome (mVar 5)) pNone))) (mSeq bnS2 (mExpr (mMeth "list" oAppend (mVar 8) (aCons (mVar 10) aNil)))) := rfl
  obtain ⟨F, hF⟩ : ∃ F, namesF w v2 v3 v4 k = F := ⟨_, rfl⟩
  obtain ⟨n2, hn2⟩ : ∃ n2, nmF w v2 v3 v4 k = n2 := ⟨_, rfl⟩
  have hFl : F.length = k := by rw [← hF]; exact namesF_len
  have mid : bnS2 [x0, x1, some (.str abc), some (.str w), x4, some (.int v2), some (.int v3), some (.int v4), some (.ref N), some (.int (0 + (k : Int))), some (.str n1)] (A ++ [.lst (F.map .str)]) = .ok (.nx [x0, x1, some (.str abc), some (.str w), x4, some (.int v2), some (.int v3), some (.int v4), some (.ref N), some (.int (0 + (k : Int))), some (.str n2)]) (A ++ [.lst (F.map .str)]) := by
    have hcond : ((0 : Int) < (v4 : Int) * ((0 + (k : Int)) % 2)) ↔ 0 < v4 * (k % 2) := by
      rw [Int.zero_add, show (v4 : Int) * ((k : Int) % 2) = ((v4 * (k % 2) : Nat) : Int) by simp]; omega
    by_cases c1 : (0 : Int) < (v4 : Int) * ((0 + (k : Int)) % 2)
    · have c2 := hcond.mp c1
      have co : oddL v4 k = true := decide_eq_true c2
      have k1 := oddL_odd co
      obtain ⟨k', hk'⟩ : ∃ k', k = k' + 1 := ⟨k - 1, by omega⟩
      have hz : F = namesF w v2 v3 v4 k' ++ [plainN w v2 v3 k'] := by
        rw [← hF, hk', namesF_succ]
        have : oddL v4 k' = false := by
          cases q : oddL v4 k' with
          | false => rfl
          | true => have := oddL_odd q; omega
        rw [show nmF w v2 v3 v4 k' = plainN w v2 v3 k' by unfold nmF; rw [this]; rfl]
      obtain ⟨z, hzz⟩ : ∃ z, plainN w v2 v3 k' = z := ⟨_, rfl⟩
      have z1 : z.length = n1.length := by rw [ln1, ← hzz]; exact plainN_len h2
      rw [hzz] at hz
      have hlast : atI (F.map D.str) (-1) = some (.str z) := by
        rw [hz, List.map_append]
        exact atLast _ _
      have t3 : cutD z none (some (n1.length : Int)) = z := by rw [cutD_take z n1.length, ← z1, List.take_length]
      have hn3 : z ++ [c] = n2 := by
        rw [← hn2, ← hzz, ← hc]
        unfold nmF
        rw [if_pos co, show k - 1 = k' by omega]
      have a3 : ∀ M, oAdd false (.str z) (.str [c]) M = .ok (.str n2) M := fun M => by rw [oAdd_str (by simp; omega), hn3]
      simp -implicitDefEqProofs (disch := first | assumption | omega | (simp only [List.length_cons, List.length_nil, List.length_append, List.length_map, List.length_take, List.length_drop, rngItems_len]; omega)) only [mSeq_eq, mIfS_eq, mSet_eq, mRet_eq, mRetN_eq, mExpr_eq, mPass_eq, mAsg_eq, mPar_eq, mAug_eq, bOf_eq, tOf_eq, tAndM_eq, tOrM_eq, tNotM_eq, tsYes_eq, mOp_eq, mUn_eq, mVar_eq, mC_eq, mCall_eq, mFun_eq, mFunKw_eq, mMeth_eq, mAnd_eq, mOr_eq, mNot_eq, mIf_eq, mChain_eq, mSl_eq, pNone_eq, pSome_eq, aCons_eq, aNil_eq, mTup_eq, mLst_eq, gN_eq, gT_eq, gsNil_eq, gsCons_eq, mkL_t, mkL_f, R.bind_ok, R.bind_no, R.nox_ok, List.getElem?_cons_zero, List.getElem?_cons_succ, List.set_cons_zero, List.set_cons_succ, List.length_cons, List.length_nil, List.append_nil, List.nil_append, List.cons_append, piApp_on, oLen_fz, oLen_lst, oLen_tup, oLt_int, oLe_int, oGt_int, oGe_int, oAdd_int, oSub_int, oIx_fz, oIx_lst, oIx_tup, oMax_int, oMin_int, oInt_bl, oInt_int, oIsi_bl, oNeg_int, oTuple_lst, oTuple_tup, iR1_eq, iR2_eq, iSq_eq, iStrM_eq, srcOf_tup, srcOf_lst, srcOf_fz, if_true, if_false, Bool.false_eq_true, Bool.true_eq_false, reduceIte, Nat.reduceAdd, Nat.reduceLeDiff, Nat.reduceEqDiff, Bool.not_true, Bool.not_false, decide_true, decide_false, and_self, and_true, true_and, oMod_int, oMul_r, oMul_l, oLen_str, oAdd_str, oSl_str, oSl_tup, oSl_lst, oSl_fz, rngOk_of, oEq_int, oEq_bl, beq_self_eq_true, Int.toNat_natCast, mFor_eq, mLc_eq, app_get0, app_get1, app_set0, app_set1, tyOk, oTuple_ref, oList_ref, oLen_refM, oIx_refM, oAppM, oExtM, srcOf_refM, ifLt24, ifLe24, bnS2, decide_eq_true c1, g8, List.length_map, hlast, t3, ix, a3]
    · have co : oddL v4 k = false := decide_eq_false fun z => c1 (hcond.mpr z)
      have : n1 = n2 := by rw [← hn2, ← hp1]; unfold nmF; rw [co]; rfl
      rw [this]
      simp -implicitDefEqProofs (disch := first | assumption | omega | (simp only [List.length_cons, List.length_nil, List.length_append, List.length_map, List.length_take, List.length_drop, rngItems_len]; omega)) only [mSeq_eq, mIfS_eq, mSet_eq, mRet_eq, mRetN_eq, mExpr_eq, mPass_eq, mAsg_eq, mPar_eq, mAug_eq, bOf_eq, tOf_eq, tAndM_eq, tOrM_eq, tNotM_eq, tsYes_eq, mOp_eq, mUn_eq, mVar_eq, mC_eq, mCall_eq, mFun_eq, mFunKw_eq, mMeth_eq, mAnd_eq, mOr_eq, mNot_eq, mIf_eq, mChain_eq, mSl_eq, pNone_eq, pSome_eq, aCons_eq, aNil_eq, mTup_eq, mLst_eq, gN_eq, gT_eq, gsNil_eq, gsCons_eq, mkL_t, mkL_f, R.bind_ok, R.bind_no, R.nox_ok, List.getElem?_cons_zero, List.getElem?_cons_succ, List.set_cons_zero, List.set_cons_succ, List.length_cons, List.length_nil, List.append_nil, List.nil_append, List.cons_append, piApp_on, oLen_fz, oLen_lst, oLen_tup, oLt_int, oLe_int, oGt_int, oGe_int, oAdd_int, oSub_int, oIx_fz, oIx_lst, oIx_tup, oMax_int, oMin_int, oInt_bl, oInt_int, oIsi_bl, oNeg_int, oTuple_lst, oTuple_tup, iR1_eq, iR2_eq, iSq_eq, iStrM_eq, srcOf_tup, srcOf_lst, srcOf_fz, if_true, if_false, Bool.false_eq_true, Bool.true_eq_false, reduceIte, Nat.reduceAdd, Nat.reduceLeDiff, Nat.reduceEqDiff, Bool.not_true, Bool.not_false, decide_true, decide_false, and_self, and_true, true_and, oMod_int, oMul_r, oMul_l, oLen_str, oAdd_str, oSl_str, oSl_tup, oSl_lst, oSl_fz, rngOk_of, oEq_int, oEq_bl, beq_self_eq_true, Int.toNat_natCast, mFor_eq, mLc_eq, app_get0, app_get1, app_set0, app_set1, tyOk, oTuple_ref, oList_ref, oLen_refM, oIx_refM, oAppM, oExtM, srcOf_refM, ifLt24, ifLe24, bnS2, decide_eq_false c1]
  have hl : (F.map D.str).length < 16777216 := by rw [List.length_map]; omega
  have hfin : F.map D.str ++ [.str n2] = (namesF w v2 v3 v4 (k + 1)).map .str := by rw [namesF_succ, hF, hn2, List.map_append]; rfl
  rw [hS, hF, hn2]
  simp -implicitDefEqProofs (disch := first | assumption | omega | (simp only [List.length_cons, List.length_nil, List.length_append, List.length_map, List.length_take, List.length_drop, rngItems_len]; omega)) only [mSeq_eq, mIfS_eq, mSet_eq, mRet_eq, mRetN_eq, mExpr_eq, mPass_eq, mAsg_eq, mPar_eq, mAug_eq, bOf_eq, tOf_eq, tAndM_eq, tOrM_eq, tNotM_eq, tsYes_eq, mOp_eq, mUn_eq, mVar_eq, mC_eq, mCall_eq, mFun_eq, mFunKw_eq, mMeth_eq, mAnd_eq, mOr_eq, mNot_eq, mIf_eq, mChain_eq, mSl_eq, pNone_eq, pSome_eq, aCons_eq, aNil_eq, mTup_eq, mLst_eq, gN_eq, gT_eq, gsNil_eq, gsCons_eq, mkL_t, mkL_f, R.bind_ok, R.bind_no, R.nox_ok, List.getElem?_cons_zero, List.getElem?_cons_succ, List.set_cons_zero, List.set_cons_succ, List.length_cons, List.length_nil, List.append_nil, List.nil_append, List.cons_append, piApp_on, oLen_fz, oLen_lst, oLen_tup, oLt_int, oLe_int, oGt_int, oGe_int, oAdd_int, oSub_int, oIx_fz, oIx_lst, oIx_tup, oMax_int, oMin_int, oInt_bl, oInt_int, oIsi_bl, oNeg_int, oTuple_lst, oTuple_tup, iR1_eq, iR2_eq, iSq_eq, iStrM_eq, srcOf_tup, srcOf_lst, srcOf_fz, if_true, if_false, Bool.false_eq_true, Bool.true_eq_false, reduceIte, Nat.reduceAdd, Nat.reduceLeDiff, Nat.reduceEqDiff, Bool.not_true, Bool.not_false, decide_true, decide_false, and_self, and_true, true_and, oMod_int, oMul_r, oMul_l, oLen_str, oAdd_str, oSl_str, oSl_tup, oSl_lst, oSl_fz, rngOk_of, oEq_int, oEq_bl, beq_self_eq_true, Int.toNat_natCast, mFor_eq, mLc_eq, app_get0, app_get1, app_set0, app_set1, tyOk, oTuple_ref, oList_ref, oLen_refM, oIx_refM, oAppM, oExtM, srcOf_refM, ifLt24, ifLe24, t1, t2, ix, a1, a2, mid, g8, oAppend_at (g8 _) hl, s8, hfin]
theorem names_eq {M0 M : Mem} {i : Nat} (h : FlAt M0 i M) (many : Nat) (hm : many ≤ 26) : ∃ (F : List (List Nat)) (M' : Mem), (∀ w ∈ F, bw w) ∧ F.Nodup ∧ F.length = many ∧ FlAt M0 i M' ∧ g_law_names [.ref i, .int many] M = .ok (.lst (F.map .str)) M' := by
  obtain ⟨v, M1, v1, h1, e1⟩ := draw_eq h.self 5 (by omega) (by omega)
  obtain ⟨w, M2, lw, aw, h2, e2⟩ := word_comp h1 v (by omega) (wipeE [some (.ref i), some (.int many), some (.str abc), none, none, none, none, none, none, none, none] [4]) (fun x => ⟨rfl, rfl⟩) C_law_names_0 rfl
  obtain ⟨v2, M3, p2, h3, e3⟩ := draw_eq h2 (w.length + 1) (by omega) (by omega)
  obtain ⟨v3, M4, p3, h4, e4⟩ := draw_eq h3 26 (by omega) (by omega)
  obtain ⟨v4, A, p4, h5, e5⟩ := draw_eq h4 2 (by omega) (by omega)
  have hA : A.length = M.length := h5.len
  obtain ⟨env', m', e6, y9, y10, rfl, rfl⟩ := forL_inv (g := gN 9) (body := L_law_names_1) (fun k env M2 => ∃ (y9 y10 : Option D), env = [some (.ref i), some (.int many), some (.str abc), some (.str w), none, some (.int v2), some (.int v3), some (.int v4), some (.ref M.length), y9, y10] ∧ M2 = A ++ [.lst ((namesF w v2 v3 v4 k).map .str)]) (rngItems 0 many) 0 [some (.ref i), some (.int many), some (.str abc), some (.str w), none, some (.int v2), some (.int v3), some (.int v4), some (.ref M.length), none, none] (A ++ [.lst []])
    ⟨none, none, rfl, rfl⟩ (by
      rintro k d env M2 hk ⟨y9, y10, rfl, rfl⟩
      obtain ⟨rfl, hkm⟩ := rngItems_get hk
      rw [Nat.zero_add]
      exact ⟨_, _, bnames_turn hA k (by omega) w (by omega) v2 v3 v4 (by omega) (some (.ref i)) (some (.int many)) none y10, _, _, rfl, rfl⟩)
  rw [rngItems_len, Nat.zero_add] at e6
  have hv2 : v2 ≤ w.length := by omega
  refine ⟨namesF w v2 v3 v4 many, A, fun x hx => ?_, namesF_nd hv2 hm, namesF_len, h.trans h5, ?_⟩
  · obtain ⟨k, _, rfl⟩ := List.mem_map.mp hx
    exact nmF_bw hv2 (by omega) aw
  obtain ⟨F, hF⟩ : ∃ F, namesF w v2 v3 v4 many = F := ⟨_, rfl⟩
  rw [hF] at e6 ⊢
  have hB : B_law_names [some (.ref i), some (.int many), none, none, none, none, none, none, none, none, none] M = .ok (.rt (.ref M.length)) (A ++ [.lst (F.map .str)]) := by
    have hj : oJoin (.str []) [.lst (w.map fun c => .str [c])] M2 = .ok (.str w) M2 := join_eq (by omega)
    simp -implicitDefEqProofs (disch := first | assumption | omega | (simp only [List.length_cons, List.length_nil, List.length_append, List.length_map, List.length_take, List.length_drop, rngItems_len]; omega)) only [mSeq_eq, mIfS_eq, mSet_eq, mRet_eq, mRetN_eq, mExpr_eq, mPass_eq, mAsg_eq, mPar_eq, mAug_eq, bOf_eq, tOf_eq, tAndM_eq, tOrM_eq, tNotM_eq, tsYes_eq, mOp_eq, mUn_eq, mVar_eq, mC_eq, mCall_eq, mFun_eq, mFunKw_eq, mMeth_eq, mAnd_eq, mOr_eq, mNot_eq, mIf_eq, mChain_eq, mSl_eq, pNone_eq, pSome_eq, aCons_eq, aNil_eq, mTup_eq, mLst_eq, gN_eq, gT_eq, gsNil_eq, gsCons_eq, mkL_t, mkL_f, R.bind_ok, R.bind_no, R.nox_ok, List.getElem?_cons_zero, List.getElem?_cons_succ, List.set_cons_zero, List.set_cons_succ, List.length_cons, List.length_nil, List.append_nil, List.nil_append, List.cons_append, piApp_on, oLen_fz, oLen_lst, oLen_tup, oLt_int, oLe_int, oGt_int, oGe_int, oAdd_int, oSub_int, oIx_fz, oIx_lst, oIx_tup, oMax_int, oMin_int, oInt_bl, oInt_int, oIsi_bl, oNeg_int, oTuple_lst, oTuple_tup, iR1_eq, iR2_eq, iSq_eq, iStrM_eq, srcOf_tup, srcOf_lst, srcOf_fz, if_true, if_false, Bool.false_eq_true, Bool.true_eq_false, reduceIte, Nat.reduceAdd, Nat.reduceLeDiff, Nat.reduceEqDiff, Bool.not_true, Bool.not_false, decide_true, decide_false, and_self, and_true, true_and, oMod_int, oMul_r, oMul_l, oLen_str, oAdd_str, oSl_str, oSl_tup, oSl_lst, oSl_fz, rngOk_of, oEq_int, oEq_bl, beq_self_eq_true, Int.toNat_natCast, mFor_eq, mLc_eq, app_get0, app_get1, app_set0, app_set1, tyOk, oTuple_ref, oList_ref, oLen_refM, oIx_refM, oAppM, oExtM, srcOf_refM, ifLt24, ifLe24, B_law_names, e1, e2, hj, e3, e4, e5, mPar3_eq, hA, e6]
  exact gc_flow (n := 0) h5 (runB_rt (N := 11) hB) (plL_str F)
def FI (M : Mem) (i : Nat) : Prop := ∃ s : Fl, s.ok ∧ M[i]? = some s.c
theorem FI.draw {M : Mem} {i : Nat} (h : FI M i) (many : Int) (h0 : 0 < many) (h1 : many < 1000000000000000000000000) : ∃ (v : Nat) (M' : Mem), (v : Int) < many ∧ FI M' i ∧ M'.length = M.length ∧ (∀ j, j ≠ i → M'[j]? = M[j]?) ∧ g_law_draw [.ref i, .int many] M = .ok (.int v) M' := by
  obtain ⟨s, hs, hM⟩ := h
  obtain ⟨v, M', k1, k2, k3⟩ := draw_eq (FlAt.start hs hM) many h0 h1
  obtain ⟨s', e1, e2, _⟩ := k2.get
  exact ⟨v, M', k1, ⟨s', e1, e2⟩, k2.len, fun j hj => k2.other (Ne.symm hj), k3⟩
theorem FI.same {M M' : Mem} {i : Nat} (h : FI M i) (e : M'[i]? = M[i]?) : FI M' i := by
  obtain ⟨s, h1, h2⟩ := h
  exact ⟨s, h1, by rw [e]; exact h2⟩
inductive WhatOk : D → Prop
  | hand (r : List D) : WhatOk (.tup (.str [104, 97, 110, 100] :: r))
  | cut (r : List D) : WhatOk (.tup (.str [99, 117, 116] :: r))
  | call (h : D) (n : Nat) (pl : Pt) (w : Nm) : WhatOk (.tup [.str [99, 97, 108, 108], h, .int n, ptD pl, .str w, .non])
def namL (a0 a1 a2 a3 a4 a5 a6 a7 a8 : Nm) : D := .lst [.str a0, .str a1, .str a2, .str a3, .str a4, .str a5, .str a6, .str a7, .str a8]
inductive RepOk (a0 a1 a5 a6 : Nm) (a : Ak) : D → D → Prop
  | opn : RepOk a0 a1 a5 a6 a (.tup [.str [111, 112, 101, 110], askD a]) .non
  | pln1 (word : Nm) (h : word = [103, 111, 110, 101] ∨ word = [100, 111, 110, 101]) : RepOk a0 a1 a5 a6 a (.tup [.str word, askD a]) (.tup [.str word])
  | no (x : Nm) (h : x = [119, 97, 121] ∨ x = [103, 111, 110, 101] ∨ x = [111, 119, 110] ∨ x = [115, 104, 101, 108, 102]) : RepOk a0 a1 a5 a6 a (.tup [.str [110, 111], askD a, .str x]) (.tup [.str [110, 111], .str x])
  | taken : RepOk a0 a1 a5 a6 a (.tup [.str [116, 97, 107, 101, 110], askD a, .str a0, .int ((1 + a.2 : Nat) : Int)]) (.tup [.str [116, 97, 107, 101, 110], .str a0, .int ((1 + a.2 : Nat) : Int)])
  | found : RepOk a0 a1 a5 a6 a (.tup [.str [102, 111, 117, 110, 100], askD a, .int ((4 + a.2 : Nat) : Int), ptD (a1, a5), strT [a6], .int 0]) (.tup [.str [102, 111, 117, 110, 100], .str a1, .int ((4 + a.2 : Nat) : Int)])
theorem rep_mk {M M' : Mem} {i : Nat} {WD AD NL : D} {a0 a1 a5 a6 : Nm} {a : Ak} {v : Nat} {d e : D} (hAD : askD a = AD) (hr : RepOk a0 a1 a5 a6 a d e) (f : FI M' i) (ml : M'.length = M.length) (old : ∀ j, j ≠ i → M'[j]? = M[j]?)
    (h : B_law_reply [some (.ref i), some WD, some AD, some (.tup [NL, .int (v : Int)]), none, none, none, none, none] M = .ok (.rt (.tup [d, e])) M') :
    ∃ d e M', g_law_reply [.ref i, WD, AD, .tup [NL, .int v]] M = .ok (.tup [d, e]) M' ∧ RepOk a0 a1 a5 a6 a d e ∧ FI M' i ∧ M'.length = M.length ∧ ∀ j, j ≠ i → M'[j]? = M[j]? :=
  ⟨d, e, M', runB_rt (N := 9) h, hr, f, ml, old⟩
theorem reply_eq {M : Mem} {i : Nat} (hf : FI M i) {what : D} (hw : WhatOk what) (a0 a1 a2 a3 a4 a5 a6 a7 a8 : Nm) (a : Ak) {v : Nat} (hv : v < 4) :
    ∃ d e M', g_law_reply [.ref i, what, askD a, .tup [namL a0 a1 a2 a3 a4 a5 a6 a7 a8, .int v]] M = .ok (.tup [d, e]) M' ∧ RepOk a0 a1 a5 a6 a d e ∧ FI M' i ∧ M'.length = M.length ∧ ∀ j, j ≠ i → M'[j]? = M[j]? := by
  have n0 : ∀ M, oIx (namL a0 a1 a2 a3 a4 a5 a6 a7 a8) (.int 0) M = .ok (.str a0) M := fun _ => rfl
  have n1 : ∀ M, oIx (namL a0 a1 a2 a3 a4 a5 a6 a7 a8) (.int 1) M = .ok (.str a1) M := fun _ => rfl
  have n5 : ∀ M, oIx (namL a0 a1 a2 a3 a4 a5 a6 a7 a8) (.int 5) M = .ok (.str a5) M := fun _ => rfl
  have n6 : ∀ M, oIx (namL a0 a1 a2 a3 a4 a5 a6 a7 a8) (.int 6) M = .ok (.str a6) M := fun _ => rfl
  have n7 : ∀ M, oIx (namL a0 a1 a2 a3 a4 a5 a6 a7 a8) (.int 7) M = .ok (.str a7) M := fun _ => rfl
  have k1 : ∀ M, oIx (askD a) (.int 1) M = .ok (.int (a.2 : Int)) M := fun _ => rfl
  have c1 : (1 : Int) + (a.2 : Int) = ((1 + a.2 : Nat) : Int) := by push_cast; rfl
  have c4 : (4 : Int) + (a.2 : Int) = ((4 + a.2 : Nat) : Int) := by push_cast; rfl
  have p5 : D.tup [.str a1, .str a5] = ptD (a1, a5) := rfl
  have s6 : D.tup [.str a6] = strT [a6] := rfl
  obtain ⟨NL, hNL⟩ : ∃ X, namL a0 a1 a2 a3 a4 a5 a6 a7 a8 = X := ⟨_, rfl⟩
  rw [hNL] at n0 n1 n5 n6 n7 ⊢
  have hcases : v = 0 ∨ v = 1 ∨ v = 2 ∨ v = 3 := by omega
  cases hw with
  | hand r =>
    have w0 : ∀ M, oIx (.tup (.str [104, 97, 110, 100] :: r)) (.int 0) M = .ok (.str [104, 97, 110, 100]) M := fun _ => oIx_t0
    have q1 : ∀ M, oEq false (.str [104, 97, 110, 100]) (.str [104, 97, 110, 100]) M = .ok (.bl true) M := fun M => by rw [str_eq]; rfl
    obtain ⟨u, M', hu, f', ml, old, dr⟩ := hf.draw 3 (by omega) (by omega)
    obtain ⟨WD, hWD⟩ : ∃ X, D.tup (.str [104, 97, 110, 100] :: r) = X := ⟨_, rfl⟩
    rw [hWD] at w0 ⊢
    obtain ⟨AD, hAD⟩ : ∃ X, askD a = X := ⟨_, rfl⟩
    rw [hAD] at k1 ⊢
    rcases hcases with rfl | hc
    · refine rep_mk hAD (.no _ (.inl rfl)) hf rfl (fun _ _ => rfl) ?_
      rw [hAD]
      · push_cast [B_law_reply, w0, q1, n0, k1]
        rfl
    · by_cases c : u = 0
      · subst c
        have q0 : ∀ M, oEq false (.int ((0 : Nat) : Int)) (.int 0) M = .ok (.bl true) M := fun _ => rfl
        refine rep_mk hAD (.opn) f' ml (old) ?_
        rw [hAD]
        · have gt : ∀ M, oGt (.int (v : Int)) (.int 0) M = .ok (.bl true) M := fun _ => by rcases hc with rfl | rfl | rfl <;> rfl
          push_cast [B_law_reply, w0, q1, n0, k1, gt, dr, q0]
      · have q0 : ∀ M, oEq false (.int (u : Int)) (.int 0) M = .ok (.bl false) M := fun M => by
          have hu3 : u = 1 ∨ u = 2 := by omega
          rcases hu3 with rfl | rfl <;> rfl
        rcases hc with rfl | rfl | rfl
        · refine rep_mk hAD (.no _ (.inr (.inl rfl))) f' ml (old) ?_
          rw [hAD]
          · have gt : ∀ M, oGt (.int ((1 : Nat) : Int)) (.int 0) M = .ok (.bl true) M := fun _ => rfl
            push_cast [B_law_reply, w0, q1, n0, k1, gt, dr, q0]
            rfl
        · refine rep_mk hAD (.taken) f' ml (old) ?_
          rw [hAD]
          · have gt : ∀ M, oGt (.int ((2 : Nat) : Int)) (.int 0) M = .ok (.bl true) M := fun _ => rfl
            push_cast [B_law_reply, w0, q1, n0, k1, gt, dr, q0, c1]
            rfl
        · refine rep_mk hAD (.taken) f' ml (old) ?_
          rw [hAD]
          · have gt : ∀ M, oGt (.int ((3 : Nat) : Int)) (.int 0) M = .ok (.bl true) M := fun _ => rfl
            push_cast [B_law_reply, w0, q1, n0, k1, gt, dr, q0, c1]
            rfl
  | cut r =>
    have w0 : ∀ M, oIx (.tup (.str [99, 117, 116] :: r)) (.int 0) M = .ok (.str [99, 117, 116]) M := fun _ => oIx_t0
    have q1 : ∀ M, oEq false (.str [99, 117, 116]) (.str [104, 97, 110, 100]) M = .ok (.bl false) M := fun M => by rw [str_eq]; rfl
    have q2 : ∀ M, oEq false (.str [99, 117, 116]) (.str [99, 117, 116]) M = .ok (.bl true) M := fun M => by rw [str_eq]; rfl
    obtain ⟨WD, hWD⟩ : ∃ X, D.tup (.str [99, 117, 116] :: r) = X := ⟨_, rfl⟩
    rw [hWD] at w0 ⊢
    obtain ⟨AD, hAD⟩ : ∃ X, askD a = X := ⟨_, rfl⟩
    rw [hAD] at k1 ⊢
    by_cases ev2 : v % 2 = 0
    · refine rep_mk hAD (.pln1 _ (.inl rfl)) hf rfl (fun _ _ => rfl) ?_
      rw [hAD]
      · have md : ∀ M, oMod (.int (v : Int)) (.int 2) M = .ok (.int 0) M := fun M => by rcases hcases with rfl | rfl | rfl | rfl <;> first | rfl | omega
        push_cast [B_law_reply, w0, q1, q2, md]
        rfl
    · refine rep_mk hAD (.no _ (.inr (.inr (.inl rfl)))) hf rfl (fun _ _ => rfl) ?_
      rw [hAD]
      · have md : ∀ M, oMod (.int (v : Int)) (.int 2) M = .ok (.int 1) M := fun M => by rcases hcases with rfl | rfl | rfl | rfl <;> first | rfl | omega
        push_cast [B_law_reply, w0, q1, q2, md]
        rfl
  | call h n pl w =>
    have w0 : ∀ M, oIx (.tup [.str [99, 97, 108, 108], h, .int n, ptD pl, .str w, .non]) (.int 0) M = .ok (.str [99, 97, 108, 108]) M := fun _ => rfl
    have w3 : ∀ M, oIx (.tup [.str [99, 97, 108, 108], h, .int n, ptD pl, .str w, .non]) (.int 3) M = .ok (ptD pl) M := fun _ => rfl
    have p1 : ∀ M, oIx (ptD pl) (.int 1) M = .ok (.str pl.2) M := fun _ => rfl
    have q1 : ∀ M, oEq false (.str [99, 97, 108, 108]) (.str [104, 97, 110, 100]) M = .ok (.bl false) M := fun M => by rw [str_eq]; rfl
    have q2 : ∀ M, oEq false (.str [99, 97, 108, 108]) (.str [99, 117, 116]) M = .ok (.bl false) M := fun M => by rw [str_eq]; rfl
    have q7 : ∀ M, oEq false (.str pl.2) (.str a7) M = .ok (.bl (decide (pl.2 = a7))) M := fun M => str_eq _ _ _
    obtain ⟨WD, hWD⟩ : ∃ X, D.tup [.str [99, 97, 108, 108], h, .int n, ptD pl, .str w, .non] = X := ⟨_, rfl⟩
    rw [hWD] at w0 w3 ⊢
    obtain ⟨PD, hPD⟩ : ∃ X, ptD pl = X := ⟨_, rfl⟩
    rw [hPD] at w3 p1
    obtain ⟨AD, hAD⟩ : ∃ X, askD a = X := ⟨_, rfl⟩
    rw [hAD] at k1 ⊢
    by_cases c7 : pl.2 = a7
    · rw [decide_eq_true c7] at q7
      by_cases ev2 : v % 2 = 0
      · refine rep_mk hAD (.pln1 _ (.inr rfl)) hf rfl (fun _ _ => rfl) ?_
        rw [hAD]
        · have md : ∀ M, oMod (.int (v : Int)) (.int 2) M = .ok (.int 0) M := fun M => by rcases hcases with rfl | rfl | rfl | rfl <;> first | rfl | omega
          push_cast [B_law_reply, w0, q1, q2, w3, p1, n7, q7, md]
          rfl
      · refine rep_mk hAD (.no _ (.inr (.inr (.inl rfl)))) hf rfl (fun _ _ => rfl) ?_
        rw [hAD]
        · have md : ∀ M, oMod (.int (v : Int)) (.int 2) M = .ok (.int 1) M := fun M => by rcases hcases with rfl | rfl | rfl | rfl <;> first | rfl | omega
          push_cast [B_law_reply, w0, q1, q2, w3, p1, n7, q7, md]
          rfl
    · rw [decide_eq_false c7] at q7
      by_cases ev3 : v < 3
      · refine rep_mk hAD (.found) hf rfl (fun _ _ => rfl) ?_
        rw [hAD]
        · have md : ∀ M, oDiv (.int (v : Int)) (.int 3) M = .ok (.int 0) M := fun M => by rcases hcases with rfl | rfl | rfl | rfl <;> first | rfl | omega
          push_cast [B_law_reply, w0, q1, q2, w3, p1, n7, q7, md, n1, n5, n6, k1, c4, p5, s6]
          rfl
      · refine rep_mk hAD (.no _ (.inr (.inr (.inr rfl)))) hf rfl (fun _ _ => rfl) ?_
        rw [hAD]
        · have md : ∀ M, oDiv (.int (v : Int)) (.int 3) M = .ok (.int 1) M := fun M => by rcases hcases with rfl | rfl | rfl | rfl <;> first | rfl | omega
          push_cast [B_law_reply, w0, q1, q2, w3, p1, n7, q7, md, n1, n5, n6, k1]
          rfl
structure Sh (w n : Nat) (p : PyData) : Prop where
  s : p.showable = true
  l : p.leavesShort 13 = true
  w : p.weight ≤ w
  d : p.depth ≤ n
  f : noL p = true
structure ShL (w n : Nat) (p : List PyData) : Prop where
  s : PyData.showableAll p = true
  l : PyData.leavesShortAll 13 p = true
  w : PyData.weightAll p ≤ w
  d : PyData.depthAll p ≤ n
  f : noLAll p = true
structure ShK (w n : Nat) (p : List (PyData × PyData)) : Prop where
  s : PyData.showableKv p = true
  l : PyData.leavesShortKv 13 p = true
  w : PyData.weightKv p ≤ w
  d : PyData.depthKv p ≤ n
  f : noLKv p = true
theorem Sh.ok {w n : Nat} {p : PyData} (h : Sh w n p) (hw : w ≤ 2 ^ 20) (hn : n ≤ 60) : showOk p := ⟨h.s, h.l, Nat.le_trans h.w hw, Nat.le_trans h.d hn, fun _ => h.f⟩
theorem Sh.mono {w n w' n' : Nat} {p : PyData} (h : Sh w n p) (hw : w ≤ w') (hn : n ≤ n') : Sh w' n' p := ⟨h.s, h.l, Nat.le_trans h.w hw, Nat.le_trans h.d hn, h.f⟩
theorem ShL.nil {n : Nat} : ShL 0 n [] := ⟨rfl, rfl, Nat.le_refl _, Nat.zero_le _, rfl⟩
theorem ShL.cons {w w' n : Nat} {p : PyData} {ps : List PyData} (h : Sh w n p) (t : ShL w' n ps) : ShL (w + 1 + w') n (p :: ps) :=
  ⟨by simp only [PyData.showableAll, h.s, t.s, Bool.and_self], by simp only [PyData.leavesShortAll, h.l, t.l, Bool.and_self], by have := h.w; have := t.w; simp only [PyData.weightAll]; omega, by have := h.d; have := t.d; simp only [PyData.depthAll]; omega, by simp only [noLAll, h.f, t.f, Bool.and_self]⟩
theorem ShK.nil {n : Nat} : ShK 0 n [] := ⟨rfl, rfl, Nat.le_refl _, Nat.zero_le _, rfl⟩
theorem ShK.cons {w w1 w' n : Nat} {k p : PyData} {ps : List (PyData × PyData)} (hk : Sh w1 n k) (h : Sh w n p) (t : ShK w' n ps) : ShK (w1 + w + 2 + w') n ((k, p) :: ps) :=
  ⟨by simp only [PyData.showableKv, hk.s, h.s, t.s, Bool.and_self], by simp only [PyData.leavesShortKv, hk.l, h.l, t.l, Bool.and_self], by have := h.w; have := hk.w; have := t.w; simp only [PyData.weightKv]; omega, by have := h.d; have := hk.d; have := t.d; simp only [PyData.depthKv]; omega, by simp only [noLKv, h.f, t.f, Bool.and_self]⟩
theorem Sh.tup {w n : Nat} {ps : List PyData} (h : ShL w n ps) : Sh w (n + 1) (.tuple ps) :=
  ⟨by simpa only [PyData.showable] using h.s, by simpa only [PyData.leavesShort] using h.l, by simpa only [PyData.weight] using h.w, by have := h.d; simp only [PyData.depth]; omega, by simpa only [noL] using h.f⟩
theorem Sh.dict {w n : Nat} {ps : List (PyData × PyData)} (h : ShK w n ps) : Sh w (n + 1) (.dict ps) :=
  ⟨by simpa only [PyData.showable] using h.s, by simpa only [PyData.leavesShort] using h.l, by simpa only [PyData.weight] using h.w, by have := h.d; simp only [PyData.depth]; omega, by simpa only [noL] using h.f⟩
theorem Sh.non : Sh 0 0 .none := ⟨rfl, rfl, Nat.le_refl _, Nat.le_refl _, rfl⟩
theorem log_le {i : Nat} (h : i < 2 ^ 31) : i.log2 < 31 := by
  rcases Nat.eq_zero_or_pos i with z | z
  · subst z; simp
  · exact (Nat.log2_lt (by omega)).mpr h
theorem Sh.int {i : Int} (h0 : 0 ≤ i) (h1 : i < 1000000000) : Sh 31 0 (.int i) := by
  have hn : i.natAbs < 2 ^ 31 := by omega
  have hl := log_le hn
  refine ⟨?_, ?_, ?_, Nat.le_refl _, rfl⟩
  · simp only [PyData.showable, decide_eq_true_eq]; omega
  · simp only [PyData.leavesShort, decide_eq_true_eq]
    exact PyData.shown_int_le (by omega)
  · simp only [PyData.weight]
    split <;> omega
theorem Sh.str {w : List Nat} {n : Nat} (h : w.length ≤ n) (hc : ∀ c ∈ w, c < 1000000) : Sh n 0 (.str (l2s w)) := by
  refine ⟨rfl, ?_, ?_, Nat.le_refl _, rfl⟩
  · simp only [PyData.leavesShort, l2s, List.all_eq_true, decide_eq_true_eq, List.toList_toArray]
    intro c hc'
    have := hc c hc'
    omega
  · simpa only [PyData.weight, l2s, List.size_toArray] using h
/-- what an exact thing shows, to a bound -/
def ShD (w n : Nat) (d : D) : Prop := ∃ p, (∀ k, pyGo k d = some p) ∧ Sh w n p
def ShLD (w n : Nat) (l : List D) : Prop := ∃ p, (∀ k, pyGoL k l = some p) ∧ ShL w n p
theorem ShD.mono {w n w' n' : Nat} {p : D} (h : ShD w n p) (hw : w ≤ w') (hn : n ≤ n') : ShD w' n' p := by
  obtain ⟨p, h1, h2⟩ := h; exact ⟨p, h1, h2.mono hw hn⟩
theorem ShLD.nil {n : Nat} : ShLD 0 n [] := ⟨[], fun _ => rfl, .nil⟩
theorem ShLD.cons {w w' n : Nat} {d : D} {l : List D} (h : ShD w n d) (t : ShLD w' n l) : ShLD (w + 1 + w') n (d :: l) := by
  obtain ⟨p, h1, h2⟩ := h
  obtain ⟨q, t1, t2⟩ := t
  exact ⟨p :: q, fun k => by simp only [pyGoL, h1, t1], ShL.cons h2 t2⟩
theorem ShD.tup {w n : Nat} {l : List D} (h : ShLD w n l) : ShD w (n + 1) (.tup l) := by
  obtain ⟨p, h1, h2⟩ := h
  exact ⟨.tuple p, fun k => by simp only [pyGo, h1, Option.map_some], .tup h2⟩
theorem ShD.int {i : Int} (h0 : 0 ≤ i) (h1 : i < 1000000000) : ShD 31 0 (.int i) := ⟨.int i, fun _ => rfl, .int h0 h1⟩
theorem ShD.non : ShD 0 0 .non := ⟨.none, fun _ => rfl, .non⟩
theorem ShD.str {w : List Nat} {n : Nat} (h : w.length ≤ n) (hc : ∀ c ∈ w, c < 1000000) : ShD n 0 (.str w) := ⟨_, fun _ => rfl, .str h hc⟩
theorem ShLD.all {w n m : Nat} {l : List D} (hl : l.length ≤ m) (h : ∀ d ∈ l, ShD w n d) : ShLD ((w + 1) * m) n l := by
  suffices ∀ l : List D, (∀ d ∈ l, ShD w n d) → ShLD ((w + 1) * l.length) n l by
    obtain ⟨p, h1, h2⟩ := this l h
    exact ⟨p, h1, ⟨h2.s, h2.l, Nat.le_trans h2.w (Nat.mul_le_mul_left _ hl), h2.d, h2.f⟩⟩
  intro l
  induction l with
  | nil => intro _; exact .nil
  | cons d r ih =>
    intro h
    have e := ShLD.cons (h d (List.mem_cons_self ..)) (ih fun y hy => h y (List.mem_cons_of_mem _ hy))
    rw [List.length_cons, Nat.mul_add, Nat.mul_one, Nat.add_comm]
    exact e
mutual
theorem py_nd : ∀ {d : D} {p : PyData}, pyD d = some p → p.hasDict = false
  | .non, p, e => by cases e; rfl
  | .bl b, p, e => by cases e; rfl
  | .int i, p, e => by cases e; rfl
  | .str x, p, e => by cases e; rfl
  | .tup l, p, e => by
    simp only [pyD] at e
    cases q : pyL l with
    | none => rw [q] at e; cases e
    | some ps => rw [q] at e; cases e; simp only [PyData.hasDict]; exact pyL_nd q
  | .ct l, p, e => by
    simp only [pyD] at e
    cases q : pyL l with
    | none => rw [q] at e; cases e
    | some ps => rw [q] at e; cases e; simp only [PyData.hasDict]; exact pyL_nd q
  | .lst l, p, e => by
    simp only [pyD] at e
    cases q : pyL l with
    | none => rw [q] at e; cases e
    | some ps => rw [q] at e; cases e; simp only [PyData.hasDict]; exact pyL_nd q
  | .fz l, p, e => by
    simp only [pyD] at e
    cases q : pyL l with
    | none => rw [q] at e; cases e
    | some ps => rw [q] at e; cases e; simp only [PyData.hasDict]; exact pyL_nd q
  | .ref i, p, e => by cases e
theorem pyL_nd : ∀ {l : List D} {ps : List PyData}, pyL l = some ps → PyData.hasDictAll ps = false
  | [], ps, e => by cases e; rfl
  | d :: r, ps, e => by
    simp only [pyL] at e
    split at e
    · rename_i a b h1 h2
      cases e
      simp only [PyData.hasDictAll, py_nd h1, pyL_nd h2, Bool.or_self]
    · cases e
end
theorem sh_repr {w n : Nat} {d : D} (h : ShD w n d) (hw : w ≤ 2 ^ 20) (hn : n ≤ 60) : ∃ s, ∀ M, oRepr [d] M = .ok (.str s) M := by
  obtain ⟨p, h1, h2⟩ := h
  have h3 := h2.ok hw hn
  refine ⟨p.shown.cps.toList, fun M => ?_⟩
  have e : pyR M d = some p := h1 _
  simp only [oRepr, e]
  rw [if_pos h3]
theorem repr_list {w n m : Nat} {T : List D} (h : ShLD w n T) (pl : PlL m T) (hw : w ≤ 2 ^ 20) (hn : n ≤ 50) : ∃ s, (∀ M, oRepr [.lst T] M = .ok (.str s) M) ∧ ∀ (M : Mem) (b : Nat), M[b]? = some (.lst T) → oRepr [.ref b] M = .ok (.str s) M := by
  obtain ⟨ps, p1, p2⟩ := h
  obtain ⟨ps', q1, _⟩ := pl.py
  have q2 := pyGoL_of (k := fun _ => none) q1
  rw [p1] at q2
  cases q2
  have sk : showOk (.list ps) := by
    refine ⟨by simpa only [PyData.showable] using p2.s, by simpa only [PyData.leavesShort] using p2.l, ?_, ?_, fun z => ?_⟩
    · have := p2.w; simp only [PyData.weight]; omega
    · have := p2.d; simp only [PyData.depth]; omega
    · simp only [PyData.hasDict] at z
      rw [pyL_nd q1] at z; cases z
  refine ⟨(PyData.list ps).shown.cps.toList, fun M => ?_, fun M b hb => ?_⟩
  · have e : pyR M (.lst T) = some (.list ps) := by
      show pyGo (kR M 4) (.lst T) = _
      simp only [pyGo, p1, Option.map_some]
    simp only [oRepr, e]
    rw [if_pos sk]
  · have e : pyR M (.ref b) = some (.list ps) := by
      show pyGo (kR M 4) (.ref b) = _
      simp only [pyGo, kR, hb, p1, Option.map_some]
    simp only [oRepr, e]
    rw [if_pos sk]
def Wd6 (w : Nm) : Prop := w.length ≤ 6 ∧ ∀ c ∈ w, c < 1000000
structure RtS (g : Rt) : Prop where
  p1 : Wd6 g.pl.1
  p2 : Wd6 g.pl.2
  h1 : Wd6 g.ho.1
  h2 : Wd6 g.ho.2
  rs : g.rs.length ≤ 8 ∧ ∀ w ∈ g.rs, Wd6 w
  far : g.far ≤ 1000
theorem sh_pt {p : Pt} (h1 : Wd6 p.1) (h2 : Wd6 p.2) : ShD 14 1 (ptD p) :=
  (ShD.tup (n := 0) (ShLD.cons (ShD.str h1.1 h1.2) (ShLD.cons (ShD.str h2.1 h2.2) .nil))).mono (by omega) (by omega)
theorem sh_rs {l : List Nm} (h : l.length ≤ 8 ∧ ∀ w ∈ l, Wd6 w) : ShD 56 1 (strT l) :=
  (ShD.tup (n := 0) (ShLD.all (w := 6) (m := 8) (by rw [List.length_map]; exact h.1) fun d hd => by
    obtain ⟨w, hw, rfl⟩ := List.mem_map.mp hd
    exact ShD.str (h.2 w hw).1 (h.2 w hw).2)).mono (by omega) (by omega)
theorem sh_nat {n : Nat} (h : n < 1000000) : ShD 31 0 (.int (n : Int)) := ShD.int (by omega) (by omega)
theorem sh_par {p : Option Nat} (h : ∀ n, p = some n → n < 1000000) : ShD 31 0 (parD p) := by
  cases p with
  | none => exact ShD.non.mono (by omega) (by omega)
  | some n => exact sh_nat (h n rfl)
theorem nm_le (Q : List Rt) (k : Nat) : nmA Q k ≤ Q.length := by
  unfold nmA
  split
  · rename_i g hg
    unfold numO
    have := List.length_filter_le (fun r : Rt => decide (r.pl.1 = g.pl.1)) (Q.take k)
    rw [List.length_take] at this
    omega
  · omega
theorem sh_root {Q : List Rt} (hl : Q.length ≤ 900) {x : Rt × Nat} (h : RtS x.1) : ShD 240 2 (rwD (rootW Q x)) := by
  have n1 := nm_le Q x.2
  refine (ShD.tup (n := 1) (ShLD.cons ((ShD.str (n := 4) (w := rootN) (by decide) (by decide)).mono (Nat.le_refl _) (Nat.zero_le _)) (ShLD.cons ((sh_nat (n := 0) (by omega)).mono (Nat.le_refl _) (Nat.zero_le _)) (ShLD.cons ((sh_nat (n := nmA Q x.2) (by omega)).mono (Nat.le_refl _) (Nat.zero_le _)) (ShLD.cons (sh_pt h.p1 h.p2) (ShLD.cons (sh_rs h.rs) (ShLD.cons ((sh_nat (n := x.1.far) (by have := h.far; omega)).mono (Nat.le_refl _) (Nat.zero_le _)) (ShLD.cons (sh_pt h.h1 h.h2) (ShLD.cons ((sh_par (p := x.1.pa.map (nmA Q)) (fun n hn => ?_)).mono (Nat.le_refl _) (Nat.zero_le _)) .nil))))))))).mono (by omega) (by omega)
  obtain ⟨p, _, rfl⟩ := Option.map_eq_some_iff.mp hn
  have := nm_le Q p
  omega
theorem rts_in {Q : List Rt} {hn : Nm} {K : Nat} {x : Rt × Nat} (h : x ∈ rtsO Q hn K) : x.1 ∈ Q := by
  unfold rtsO at h
  obtain ⟨h1, _⟩ := List.mem_filter.mp h
  have h3 := List.mk_mem_zipIdx_iff_getElem?.mp (show (x.1, x.2) ∈ (Q.take K).zipIdx from h1)
  exact List.mem_of_mem_take (List.mem_of_getElem? h3)
structure PuS (x : Pu) : Prop where
  h : Wd6 x.h
  p1 : Wd6 x.pl.1
  p2 : Wd6 x.pl.2
  rs : x.rs.length ≤ 8 ∧ ∀ w ∈ x.rs, Wd6 w
  far : x.far ≤ 1000
  n : x.n ≤ 100000
  a : x.a = none ∨ ∃ a : Ak, x.a = some a ∧ Wd6 a.1 ∧ a.2 ≤ 100000
theorem put_ok (t : Nat) (ho : Pt) (x : Pu) : RwOk (.oth putN t (puL ho x)) := rowh_ok (.inl ⟨rfl, ho, x, rfl⟩)
theorem sh_ask {a : Ak} (h1 : Wd6 a.1) (h2 : a.2 ≤ 100000) : ShD 60 1 (askD a) :=
  (ShD.tup (n := 0) (ShLD.cons (ShD.str h1.1 h1.2) (ShLD.cons (sh_nat (n := a.2) (by omega)) .nil))).mono (by omega) (by omega)
theorem sh_oAsk {x : Pu} (h : PuS x) : ShD 60 1 (oAsk x.a) := by
  rcases h.a with e | ⟨a, e, h1, h2⟩
  · rw [e]; exact ShD.non.mono (by omega) (by omega)
  · rw [e]; exact sh_ask h1 h2
theorem sh_putP {x : Pu} (h : PuS x) {t : Nat} (ht : t ≤ 100000) {ho : Pt} (h1 : Wd6 ho.1) (h2 : Wd6 ho.2) : ShD 600 3 (rwD (.oth putN t (puL ho x))) := by
  have n1 := h.n
  exact (ShD.tup (n := 1) (ShLD.cons ((ShD.str (n := 3) (w := putN) (by decide) (by decide)).mono (Nat.le_refl _) (Nat.zero_le _)) (ShLD.cons ((sh_nat (n := t) (by omega)).mono (Nat.le_refl _) (Nat.zero_le _)) (ShLD.cons (sh_pt h1 h2) (ShLD.cons ((ShD.str h.h.1 h.h.2).mono (Nat.le_refl _) (Nat.zero_le _)) (ShLD.cons ((sh_nat (n := x.n) (by omega)).mono (Nat.le_refl _) (Nat.zero_le _)) (ShLD.cons (sh_pt h.p1 h.p2) (ShLD.cons (sh_rs h.rs) (ShLD.cons ((sh_nat (n := x.far) (by have := h.far; omega)).mono (Nat.le_refl _) (Nat.zero_le _)) (ShLD.cons (sh_oAsk h) .nil)))))))))).mono (by omega) (by omega)
theorem sh_tblP {x : Pu} (h : PuS x) {j : Nat} (hj : j ≤ 10000) : ShD 240 2 (tblR (x, j)) := by
  have n1 := h.n
  exact (ShD.tup (n := 1) (ShLD.cons (ShD.tup (n := 0) (ShLD.cons (sh_nat (n := j) (by omega)) (ShLD.cons (sh_nat (n := 0) (by omega)) .nil))) (ShLD.cons ((ShD.str h.h.1 h.h.2).mono (Nat.le_refl _) (Nat.zero_le _)) (ShLD.cons ((sh_nat (n := x.n) (by omega)).mono (Nat.le_refl _) (Nat.zero_le _)) (ShLD.cons (sh_pt h.p1 h.p2) (ShLD.cons (sh_rs h.rs) (ShLD.cons ((sh_nat (n := x.far) (by have := h.far; omega)).mono (Nat.le_refl _) (Nat.zero_le _)) .nil))))))).mono (by omega) (by omega)
theorem sh_ansP {t c : Nat} (ht : t ≤ 100000) (hc : c ≤ 100000) {a : D} (ha : ShD 60 1 a) : ShD 600 3 (rwD (answerR t c a)) :=
  (ShD.tup (n := 1) (ShLD.cons ((ShD.str (n := 6) (w := answerN) (by decide) (by decide)).mono (Nat.le_refl _) (Nat.zero_le _)) (ShLD.cons ((sh_nat (n := t) (by omega)).mono (Nat.le_refl _) (Nat.zero_le _)) (ShLD.cons ((sh_nat (n := c) (by omega)).mono (Nat.le_refl _) (Nat.zero_le _)) (ShLD.cons ha .nil))))).mono (by omega) (by omega)
theorem RepOk.ans {a0 a1 a5 a6 : Nm} {a : Ak} {d e : D} (h : RepOk a0 a1 a5 a6 a d e) (h0 : Wd6 a0) (h1 : Wd6 a1) (h2 : a.2 ≤ 1000) : e = .non ∨ ∃ ys, e = .tup ys ∧ exD e = true ∧ dpD e ≤ 3 ∧ ShD 60 1 e := by
  cases h with
  | opn => exact .inl rfl
  | pln1 word h =>
    refine .inr ⟨_, rfl, rfl, by simp [dpD, dpL], ?_⟩
    rcases h with rfl | rfl
    · exact (ShD.tup (n := 0) (ShLD.cons (ShD.str (n := 6) (by decide) (by decide)) .nil)).mono (by omega) (by omega)
    · exact (ShD.tup (n := 0) (ShLD.cons (ShD.str (n := 6) (by decide) (by decide)) .nil)).mono (by omega) (by omega)
  | no x h =>
    refine .inr ⟨_, rfl, rfl, by simp [dpD, dpL], ?_⟩
    rcases h with rfl | rfl | rfl | rfl
    all_goals exact (ShD.tup (n := 0) (ShLD.cons (ShD.str (n := 6) (by decide) (by decide)) (ShLD.cons (ShD.str (n := 6) (by decide) (by decide)) .nil))).mono (by omega) (by omega)
  | taken => exact .inr ⟨_, rfl, rfl, by simp [dpD, dpL], (ShD.tup (n := 0) (ShLD.cons (ShD.str (n := 6) (by decide) (by decide)) (ShLD.cons (ShD.str h0.1 h0.2) (ShLD.cons (sh_nat (n := 1 + a.2) (by omega)) .nil)))).mono (by omega) (by omega)⟩
  | found => exact .inr ⟨_, rfl, rfl, by simp [dpD, dpL], (ShD.tup (n := 0) (ShLD.cons (ShD.str (n := 6) (by decide) (by decide)) (ShLD.cons (ShD.str h1.1 h1.2) (ShLD.cons (sh_nat (n := 4 + a.2) (by omega)) .nil)))).mono (by omega) (by omega)⟩
def PutF (l : List Rw5) (S : List As) : Prop := ∀ t ho x, Rw5.oth putN t (puL ho x) ∈ l → PuS x ∧ (x.n < 4 ∨ ∃ c y, x.n = 4 + c ∧ S[c]? = some y ∧ y.ans ≠ .non)
structure SR (l : List Rw5) (n0 n3 : Nm) (m : Nat) : Prop where
  ok : ∀ r ∈ l, RwOk r
  po : ∀ r ∈ l, PutOk r
  ask : AskL l
  sh : ∀ r ∈ l, ShD 600 3 (rwD r)
  nd : ((putsOf l (n0, n3)).map puT).Nodup
  pu : PutF l (asksL l)
  num : (asksL l).length = m
  an : ∀ (c : Nat) y, (asksL l)[c]? = some y → (y.ans = .non ∨ ∃ ys, y.ans = .tup ys ∧ ShD 60 1 y.ans) ∧ ∃ w0 rest, y.what = .tup (w0 :: ptD (n0, n3) :: rest)
theorem puts_row {l : List Rw5} (po : ∀ r ∈ l, PutOk r) {b : Pt} {x : Pu} (h : x ∈ putsOf l b) : ∃ t, Rw5.oth putN t (puL b x) ∈ l := by
  obtain ⟨r, hr, e⟩ := List.mem_filterMap.mp h
  rcases put_case (po r hr) b with ⟨_, h2⟩ | ⟨t, ho, x', rfl, h2⟩
  · rw [h2] at e; cases e
  · rw [h2] at e
    by_cases c : ho = b
    · rw [if_pos c] at e; cases e; subst c; exact ⟨t, hr⟩
    · rw [if_neg c] at e; cases e
theorem put_w {l : List Rw5} (po : ∀ r ∈ l, PutOk r) : ∀ r ∈ l, r.w ≠ [100, 114, 111, 112] := fun r hr => by
  have := po r hr
  cases r with
  | oth w t ps => exact this.1
  | root => exact (by decide : rootN ≠ dropN)
  | grant => exact (by decide : grantN ≠ dropN)
  | cut => exact (by decide : cutN ≠ dropN)
  | deed => exact (by decide : deedN ≠ dropN)
theorem SR.answer {l : List Rw5} {n0 n3 : Nm} {m : Nat} (h : SR l n0 n3 m) (hm : m ≤ 1000) {c : Nat} {y : As} (hy : (asksL l)[c]? = some y) {e : D} {ys : List D} (he : e = .tup ys) (hx : exD e = true) (hd : dpD e ≤ 3) (hs : ShD 60 1 e) {t : Nat} (ht : t ≤ 1000) : SR (l ++ [answerR t c e]) n0 n3 m := by
  have hc : c < (asksL l).length := (List.getElem?_eq_some_iff.mp hy).1
  have aw : asksL (l ++ [answerR t c e]) = (asksL l).set c ⟨y.t, y.what, e⟩ := by rw [asksL_snoc, askF_answer _ _ _ _ hy]
  have mem : ∀ r, r ∈ l ++ [answerR t c e] → r ∈ l ∨ r = answerR t c e := fun r hr => by simpa using hr
  have nw : answerN ≠ putN := by decide
  have hp : putsOf (l ++ [answerR t c e]) (n0, n3) = putsOf l (n0, n3) := by
    unfold putsOf
    rw [List.filterMap_append]
    have : putOf (n0, n3) (answerR t c e) = none := putOf_no _ _ nw
    simp [this]
  have nm := h.num
  refine ⟨fun r hr => ?_, fun r hr => ?_, h.ask.snoc (.answer t c e hc), fun r hr => ?_, by rw [hp]; exact h.nd, fun t' ho x hx' => ?_, by rw [aw, List.length_set]; exact h.num, fun c' y' hy' => ?_⟩
  · rcases mem r hr with h1 | rfl
    · exact h.ok r h1
    · refine ⟨by decide, by decide, by decide, by decide, ?_, ?_, by simp⟩
      · simp [exL, hx, exD]
      · simp [dpL, dpD]; omega
  · rcases mem r hr with h1 | rfl
    · exact h.po r h1
    · exact ⟨by decide, fun z => absurd z nw⟩
  · rcases mem r hr with h1 | rfl
    · exact h.sh r h1
    · exact sh_ansP (by omega) (by omega) hs
  · rcases mem _ hx' with h1 | h1
    · obtain ⟨p1, p2⟩ := h.pu t' ho x h1
      refine ⟨p1, p2.imp_right fun ⟨c', y', q1, q2, q3⟩ => ?_⟩
      rw [aw]
      by_cases cc : c' = c
      · subst cc
        exact ⟨c', _, q1, List.getElem?_set_self hc, by rw [he]; intro z; cases z⟩
      · exact ⟨c', y', q1, by rw [List.getElem?_set_ne (Ne.symm cc)]; exact q2, q3⟩
    · unfold answerR at h1
      injection h1 with h2
      exact absurd h2.symm nw
  · rw [aw] at hy'
    by_cases cc : c' = c
    · subst cc
      rw [List.getElem?_set_self hc] at hy'
      cases hy'
      exact ⟨.inr ⟨ys, he, hs⟩, (h.an c' y hy).2⟩
    · rw [List.getElem?_set_ne (Ne.symm cc)] at hy'
      exact h.an c' y' hy'
theorem SR.found {l : List Rw5} {n0 n3 : Nm} {m : Nat} (h : SR l n0 n3 m) (hm : m ≤ 1000) (w0 : Wd6 n0) (w3 : Wd6 n3) {c : Nat} {y : As} (hy : (asksL l)[c]? = some y) (hn : y.ans = .non) {p : Pu} (hp : PuS p) (pn : p.n = 4 + c) {e : D} {ys : List D} (he : e = .tup ys) (hx : exD e = true) (hd : dpD e ≤ 3) (hs : ShD 60 1 e) {t : Nat} (ht : t ≤ 1000) :
    (∀ t' ho x, Rw5.oth putN t' (puL ho x) ∈ l → x.n ≠ p.n) ∧ putRow l t (n0, n3) p = some (.oth putN t (puL (n0, n3) p)) ∧ SR (l ++ [.oth putN t (puL (n0, n3) p)] ++ [answerR t c e]) n0 n3 m := by
  have ne : ∀ t' ho x, Rw5.oth putN t' (puL ho x) ∈ l → x.n ≠ p.n := fun t' ho x hx e => by
    rcases (h.pu t' ho x hx).2 with q | ⟨c', y', q1, q2, q3⟩
    · omega
    · have : c' = c := by omega
      subst this
      rw [hy] at q2
      cases q2
      exact q3 hn
  have np : puT p ∉ (putsOf l (n0, n3)).map puT := fun z => by
    obtain ⟨x, hx, e⟩ := List.mem_map.mp z
    obtain ⟨t', hr⟩ := puts_row h.po hx
    refine ne t' _ x hr ?_
    have e2 : (puT x).2 = (puT p).2 := by rw [e]
    have e2 : (x.n : Int) = (p.n : Int) := e2
    omega
  refine ⟨ne, by unfold putRow; rw [if_neg np], ?_⟩
  have hc : c < (asksL l).length := (List.getElem?_eq_some_iff.mp hy).1
  have nm := h.num
  have pk1 : (Rw5.oth putN t (puL (n0, n3) p)).w ≠ askN := show putN ≠ askN by decide
  have pk2 : (Rw5.oth putN t (puL (n0, n3) p)).w ≠ answerN := show putN ≠ answerN by decide
  have a1 : asksL (l ++ [.oth putN t (puL (n0, n3) p)]) = asksL l := by rw [asksL_snoc, askF_other _ _ pk1 pk2]
  have aw : asksL (l ++ [.oth putN t (puL (n0, n3) p)] ++ [answerR t c e]) = (asksL l).set c ⟨y.t, y.what, e⟩ := by rw [asksL_snoc, a1, askF_answer _ _ _ _ hy]
  have mem : ∀ r, r ∈ l ++ [Rw5.oth putN t (puL (n0, n3) p)] ++ [answerR t c e] → r ∈ l ∨ r = .oth putN t (puL (n0, n3) p) ∨ r = answerR t c e := fun r hr => by simpa using hr
  have nw : answerN ≠ putN := by decide
  have hp2 : putsOf (l ++ [.oth putN t (puL (n0, n3) p)] ++ [answerR t c e]) (n0, n3) = putsOf l (n0, n3) ++ [p] := by
    unfold putsOf
    rw [List.filterMap_append, List.filterMap_append]
    have e1 : putOf (n0, n3) (answerR t c e) = none := putOf_no _ _ nw
    have e2 : putOf (n0, n3) (.oth putN t (puL (n0, n3) p)) = some p := putOf_put _ _ _
    simp [e1, e2]
  refine ⟨fun r hr => ?_, fun r hr => ?_, (h.ask.snoc (.other _ pk1 pk2)).snoc (by rw [a1]; exact .answer t c e hc), fun r hr => ?_, ?_, fun t' ho x hx' => ?_, by rw [aw, List.length_set]; exact h.num, fun c' y' hy' => ?_⟩
  · rcases mem r hr with h1 | rfl | rfl
    · exact h.ok r h1
    · exact put_ok t (n0, n3) p
    · refine ⟨by decide, by decide, by decide, by decide, ?_, ?_, by simp⟩
      · simp [exL, hx, exD]
      · simp [dpL, dpD]; omega
  · rcases mem r hr with h1 | rfl | rfl
    · exact h.po r h1
    · exact ⟨by decide, fun _ => ⟨_, _, rfl⟩⟩
    · exact ⟨by decide, fun z => absurd z nw⟩
  · rcases mem r hr with h1 | rfl | rfl
    · exact h.sh r h1
    · exact sh_putP hp (by omega) w0 w3
    · exact sh_ansP (by omega) (by omega) hs
  · rw [hp2, List.map_append, List.nodup_append]
    refine ⟨h.nd, by simp, fun a ha b hb z => ?_⟩
    subst z
    rw [List.map_cons, List.map_nil, List.mem_singleton] at hb
    subst hb
    exact np ha
  · rcases mem _ hx' with h1 | h1 | h1
    · obtain ⟨p1, p2⟩ := h.pu t' ho x h1
      refine ⟨p1, p2.imp_right fun ⟨c', y', q1, q2, q3⟩ => ?_⟩
      rw [aw]
      by_cases cc : c' = c
      · subst cc
        exact ⟨c', _, q1, List.getElem?_set_self hc, by rw [he]; intro z; cases z⟩
      · exact ⟨c', y', q1, by rw [List.getElem?_set_ne (Ne.symm cc)]; exact q2, q3⟩
    · injection h1 with _ _ h2
      obtain ⟨_, rfl⟩ := puL_inj h2
      exact ⟨hp, .inr ⟨c, _, pn, by rw [aw]; exact List.getElem?_set_self hc, by rw [he]; intro z; cases z⟩⟩
    · unfold answerR at h1
      injection h1 with h2
      exact absurd h2.symm nw
  · rw [aw] at hy'
    by_cases cc : c' = c
    · subst cc
      rw [List.getElem?_set_self hc] at hy'
      cases hy'
      exact ⟨.inr ⟨ys, he, hs⟩, (h.an c' y hy).2⟩
    · rw [List.getElem?_set_ne (Ne.symm cc)] at hy'
      exact h.an c' y' hy'
noncomputable def srTail : FS := (mSeq (mIfS (tOrM (bOf (mOp (oEq true) (mCall oRepr (aCons (mMth 3 "rows" 1 g_Kernel_rows [] (mVar 0) aNil) aNil)) (mCall oRepr (aCons (mOp (oAdd false) (mVar 8) (mVar 9)) aNil)))) (bOf (mOp (oEq true) (mCall oRepr (aCons (mMth 3 "answer" 2 g_Kernel_answer [] (mVar 0) (aCons (mOp oIx (mVar 2) (mC (.int 2))) aNil)) aNil)) (mCall oRepr (aCons (mVar 10) aNil))))) (mRet (mC (.bl false))) mPass) (mRet (mOp (oEq false) (mCall oRepr (aCons (mMth 3 "table" 2 g_Kernel_table [] (mVar 0) (aCons (mOp oIx (mVar 1) (mC (.int 1))) aNil)) aNil)) (mCall oRepr (aCons (mFun 2 g_law_handles [] (aCons (mOp (oAdd false) (mVar 8) (mVar 9)) (aCons (mVar 1) aNil))) aNil)))))
noncomputable def srMid : FS := (mIfS (tAndM (bOf (mUn (oIsN false) (mVar 10))) (bOf (mUn (oIsN true) (mVar 6)))) (mSeq (mSet 9 (mTup (aCons (mTup (aCons (mC (.str [97, 110, 115, 119, 101, 114])) (aCons (mVar 7) (aCons (mOp oIx (mVar 2) (mC (.int 2))) (aCons (mVar 6) aNil))))) aNil))) (mSeq (mIfS (bOf (mOp (oEq false) (mOp oIx (mVar 5) (mC (.int 0))) (mC (.str [102, 111, 117, 110, 100])))) (mSeq (mSet 11 (mLc false [12] (iSq (mVar 8)) (gN 12) T_law_said_right_0 C_law_said_right_1)) (mSeq (mSet 13 (mOp (oAdd false) (mOp (oAdd false) (mTup (aCons (mC (.str [112, 117, 116])) (aCons (mVar 7) (aCons (mVar 1) (aCons (mVar 4) aNil))))) (mSl false (mVar 5) (pSome (mC (.int 2))) pNone)) (mTup (aCons (mOp oIx (mVar 5) (mC (.int 1))) aNil)))) (mSet 9 (mOp (oAdd false) (mOp oRep01 (mTup (aCons (mVar 13) aNil)) (mCall oInt (aCons (mOp (oEq false) (mVar 11) (mLst false aNil)) aNil))) (mVar 9))))) mPass) (mSet 10 (mVar 6)))) mPass)
theorem srB : B_law_said_right = (mSeq (mAsg (mVar 3) (gT 4 (gsCons (gN 4) (gsCons (gN 5) (gsCons (gN 6) (gsCons (gN 7) gsNil)))))) (mSeq (mPar 8 9 (aCons (mMth 3 "rows" 1 g_Kernel_rows [] (mVar 0) aNil) (aCons (mTup aNil) aNil))) (mSeq (mSet 10 (mMth 3 "answer" 2 g_Kernel_answer [] (mVar 0) (aCons (mOp oIx (mVar 2) (mC (.int 2))) aNil))) (mSeq (mExpr (mMth 3 "take" 4 g_Kernel_take [] (mVar 0) (aCons (mVar 4) (aCons (mVar 5) (aCons (mVar 7) aNil))))) (mSeq srMid srTail))))) := rfl
section
variable {M : Mem} {k st w lt op : Nat} {plan : D} {n0 n1 n3 : Nm} {l : List Rw5} {firm : Nat} {L : List D} {okv : List (KK × D)} {m : Nat}
theorem rows_sh (h : SR l n0 n3 m) (hl : l.length ≤ 400) : ∃ s, ∀ M, oRepr [.tup (l.map rwD)] M = .ok (.str s) M :=
  sh_repr (w := (600 + 1) * 400) (n := 4) (.tup (ShLD.all (by rw [List.length_map]; exact hl) fun d hd => by
    obtain ⟨r, hr, rfl⟩ := List.mem_map.mp hd
    exact h.sh r hr)) (by omega) (by omega)
theorem puts_len (l : List Rw5) (b : Pt) : (putsOf l b).length ≤ l.length := List.length_filterMap_le _ _
theorem tbl_sh (h : SR l n0 n3 m) (hl : l.length ≤ 400) : ∃ s, ∀ M, oRepr [.lst ((putsOf l (n0, n3)).zipIdx.map tblR)] M = .ok (.str s) M := by
  have pl := puts_len l (n0, n3)
  obtain ⟨s, h1, _⟩ := repr_list (w := (240 + 1) * 400) (n := 2) (T := (putsOf l (n0, n3)).zipIdx.map tblR) (ShLD.all (by simp; omega) fun d hd => by
    obtain ⟨x, hx, rfl⟩ := List.mem_map.mp hd
    have hx2 := List.mem_zipIdx_iff_getElem?.mp (show (x.1, x.2) ∈ (putsOf l (n0, n3)).zipIdx from hx)
    have hj := (List.getElem?_eq_some_iff.mp hx2).1
    obtain ⟨t, hr⟩ := puts_row h.po (List.mem_of_getElem? hx2)
    exact sh_tblP (h.pu t _ _ hr).1 (j := x.2) (by omega)) (tblR_pl _) (by omega) (by omega)
  exact ⟨s, h1⟩
theorem ans_sh (h : SR l n0 n3 m) (c : Nat) : ∃ s, ∀ M, oRepr [ansOf (asksL l) c] M = .ok (.str s) M := by
  unfold ansOf
  cases hc : (asksL l)[c]? with
  | none => exact sh_repr ShD.non (by omega) (by omega)
  | some y =>
    rcases (h.an c y hc).1 with e | ⟨ys, e, hs⟩
    · show ∃ s, ∀ M, oRepr [y.ans] M = _
      rw [e]; exact sh_repr ShD.non (by omega) (by omega)
    · exact sh_repr hs (by omega) (by omega)
theorem sr_tail (h : KO M k st w lt op plan n0 l firm L okv) (sr : SR l n0 n3 m) (hl : l.length ≤ 400) {RW MO : List D} (e : RW ++ MO = l.map rwD) {c : Nat} {row : D} (hr : ∀ M, oIx row (.int 2) M = .ok (.int (c : Int)) M) (x3 x4 x5 x6 x7 x11 x12 x13 : Option D) :
    ∃ M', srTail [some (.ref k), some (ptD (n0, n3)), some row, x3, x4, x5, x6, x7, some (.tup RW), some (.tup MO), some (ansOf (asksL l) c), x11, x12, x13] M = .ok (.rt (.bl true)) M' ∧ KO M' k st w lt op plan n0 l l.length L okv ∧ M.length ≤ M'.length ∧ ∀ j, j < M.length → j ≠ st → M'[j]? = M[j]? := by
  have re := rows_eq h.ka
  obtain ⟨M3, ae, k3', le3, old3⟩ := answer_eq h.ka sr.ask sr.ok (by omega) c
  have k3 : KO M3 k st w lt op plan n0 l l.length L okv := h.go k3' fun i hi a _ => old3 i hi a
  have np := puts_len l (n0, n3)
  have te := ktable_eq k3.ka sr.ok sr.po sr.nd (by omega)
  have k4' := k3.ka.settle
  have k4 : KO (settM M3 st w l.length) k st w lt op plan n0 l l.length L okv := k3.go k4' fun i hi a _ => settM_old a
  have hd := handles_law (M := settM M3 st w l.length) (b := (n0, n3)) sr.po (put_w sr.po) (by omega : l.length ≤ 2000)
  obtain ⟨s1, hs1⟩ := rows_sh sr hl
  obtain ⟨s2, hs2⟩ := tbl_sh sr hl
  obtain ⟨s3, hs3⟩ := ans_sh sr c
  have ad : ∀ M, oAdd false (.tup RW) (.tup MO) M = .ok (.tup (l.map rwD)) M := fun M => by
    rw [oAddTT _ _ _ (by have := congrArg List.length e; rw [List.length_append, List.length_map] at this; omega), e]
  obtain ⟨kp, hk⟩ := h.at_
  obtain ⟨kp3, hk3⟩ := k3.at_
  have i0 := insOf_at hk
  have i3 := insOf_at hk3
  have l0 := lk_kn_rows plan (.str n0) (.int 6) (.int 3) (.ref st) (.ref lt) kp (.ref op)
  have l1 := lk_kn_answer plan (.str n0) (.int 6) (.int 3) (.ref st) (.ref lt) kp (.ref op)
  have l2 := lk_kn_table plan (.str n0) (.int 6) (.int 3) (.ref st) (.ref lt) kp3 (.ref op)
  have q1 : ∀ M, oEq true (.str s1) (.str s1) M = .ok (.bl false) M := fun M => oEq_exT rfl (Nat.zero_le _)
  have q3 : ∀ M, oEq true (.str s3) (.str s3) M = .ok (.bl false) M := fun M => oEq_exT rfl (Nat.zero_le _)
  have q2 : ∀ M, oEq false (.str s2) (.str s2) M = .ok (.bl true) M := fun M => oEq_exT rfl (Nat.zero_le _)
  have p1 : ∀ M, oIx (ptD (n0, n3)) (.int 1) M = .ok (.str n3) M := fun _ => rfl
  have m4l : (settM M3 st w l.length).length = M3.length := settM_len
  have o4 : ∀ j, j ≠ st → (settM M3 st w l.length)[j]? = M3[j]? := fun j hj => settM_old hj
  obtain ⟨M4, hM4⟩ : ∃ X, settM M3 st w l.length = X := ⟨_, rfl⟩
  rw [hM4] at te k4 hd m4l o4
  refine ⟨M4, ?_, k4, by omega, fun j hj a => by rw [o4 j a, old3 j hj a]⟩
  obtain ⟨RD, hRD⟩ : ∃ X, D.tup (l.map rwD) = X := ⟨_, rfl⟩
  rw [hRD] at re hd hs1 ad
  obtain ⟨PD, hPD⟩ : ∃ X, ptD (n0, n3) = X := ⟨_, rfl⟩
  rw [hPD] at hd p1 ⊢
  obtain ⟨TD, hTD⟩ : ∃ X, D.lst ((putsOf l (n0, n3)).zipIdx.map tblR) = X := ⟨_, rfl⟩
  rw [hTD] at te hd hs2
  obtain ⟨AD, hAD⟩ : ∃ X, ansOf (asksL l) c = X := ⟨_, rfl⟩
  rw [hAD] at ae hs3 ⊢
  obtain ⟨R1, hR1⟩ : ∃ X, D.tup RW = X := ⟨_, rfl⟩
  obtain ⟨R2, hR2⟩ : ∃ X, D.tup MO = X := ⟨_, rfl⟩
  rw [hR1, hR2] at ad ⊢
  push_cast [srTail, mMth_eq, i0, l0, re, hs1, ad, q1, hr, l1, ae, hs3, q3, i3, l2, p1, te, hs2, hd, q2]
end
section
variable {M : Mem} {k st w lt op : Nat} {plan : D} {n0 n1 n3 : Nm} {l : List Rw5} {firm : Nat} {L : List D} {okv : List (KK × D)} {m : Nat}
theorem sr_run (h : KO M k st w lt op plan n0 l firm L okv) {row d e : D} {c t : Nat} (hr : ∀ M, oIx row (.int 2) M = .ok (.int (c : Int)) M) {kn : D} {M1 M2 M4 : Mem} {firm1 : Nat} (ae : g_Kernel_answer [.ref k, .int (c : Int)] M = .ok kn M1) (h1 : KO M1 k st w lt op plan n0 l firm1 L okv) (tk : g_Kernel_take [.ref k, .str n1, d, .int (t : Int)] M1 = .ok .non M2) {MO : List D} {kn' : D} {x11 x12 x13 : Option D}
    (mid : srMid [some (.ref k), some (ptD (n0, n3)), some row, some (.tup [.str n1, d, e, .int (t : Int)]), some (.str n1), some d, some e, some (.int (t : Int)), some (.tup (l.map rwD)), some (.tup []), some kn, none, none, none] M2 = .ok (.nx [some (.ref k), some (ptD (n0, n3)), some row, some (.tup [.str n1, d, e, .int (t : Int)]), some (.str n1), some d, some e, some (.int (t : Int)), some (.tup (l.map rwD)), some (.tup MO), some kn', x11, x12, x13]) M2)
    (tl : srTail [some (.ref k), some (ptD (n0, n3)), some row, some (.tup [.str n1, d, e, .int (t : Int)]), some (.str n1), some d, some e, some (.int (t : Int)), some (.tup (l.map rwD)), some (.tup MO), some kn', x11, x12, x13] M2 = .ok (.rt (.bl true)) M4) :
    g_law_said_right [.ref k, ptD (n0, n3), row, .tup [.str n1, d, e, .int (t : Int)]] M = .ok (.bl true) M4 := by
  have re := rows_eq h.ka
  obtain ⟨kp, hk⟩ := h.at_
  obtain ⟨kp1, hk1⟩ := h1.at_
  have i0 := insOf_at hk
  have i1 := insOf_at hk1
  have l0 := lk_kn_rows plan (.str n0) (.int 6) (.int 3) (.ref st) (.ref lt) kp (.ref op)
  have l1 := lk_kn_answer plan (.str n0) (.int 6) (.int 3) (.ref st) (.ref lt) kp (.ref op)
  have l2 := lk_kn_take plan (.str n0) (.int 6) (.int 3) (.ref st) (.ref lt) kp1 (.ref op)
  refine runB_rt (N := 14) (?_ : B_law_said_right [some (.ref k), some (ptD (n0, n3)), some row, some (.tup [.str n1, d, e, .int (t : Int)]), none, none, none, none, none, none, none, none, none, none] M = _)
  obtain ⟨PD, hPD⟩ : ∃ X, ptD (n0, n3) = X := ⟨_, rfl⟩
  rw [hPD] at mid tl ⊢
  obtain ⟨RD, hRD⟩ : ∃ X, D.tup (l.map rwD) = X := ⟨_, rfl⟩
  rw [hRD] at re mid tl
  push_cast [srB, mPar_eq, mMth_eq, i0, l0, re, l1, hr, ae, i1, l2, tk, mid, tl]
theorem sr_mid_had {ys : List D} (x0 x1 x2 x3 x4 x5 x6 x7 x8 x9 : Option D) (M : Mem) : srMid [x0, x1, x2, x3, x4, x5, x6, x7, x8, x9, some (.tup ys), none, none, none] M = .ok (.nx [x0, x1, x2, x3, x4, x5, x6, x7, x8, x9, some (.tup ys), none, none, none]) M := by
  have nn : ∀ M, oIsN false (.tup ys) M = .ok (.bl false) M := fun _ => rfl
  push_cast [srMid, nn]
theorem sr_mid_open (x0 x1 x2 x3 x4 x5 x7 x8 x9 : Option D) (M : Mem) : srMid [x0, x1, x2, x3, x4, x5, some .non, x7, x8, x9, some .non, none, none, none] M = .ok (.nx [x0, x1, x2, x3, x4, x5, some .non, x7, x8, x9, some .non, none, none, none]) M := by
  have nn : ∀ M, oIsN false .non M = .ok (.bl true) M := fun _ => rfl
  have n2 : ∀ M, oIsN true .non M = .ok (.bl false) M := fun _ => rfl
  push_cast [srMid, nn, n2]
theorem sr_mid_plain {ys : List D} {row d : D} {c t : Nat} (hr : ∀ M, oIx row (.int 2) M = .ok (.int (c : Int)) M) {word : Nm} (h0 : ∀ M, oIx d (.int 0) M = .ok (.str word) M) (hw : word ≠ [102, 111, 117, 110, 100]) (x0 x1 x3 x4 x8 x9 : Option D) (M : Mem) :
    srMid [x0, x1, some row, x3, x4, some d, some (.tup ys), some (.int (t : Int)), x8, x9, some .non, none, none, none] M = .ok (.nx [x0, x1, some row, x3, x4, some d, some (.tup ys), some (.int (t : Int)), x8, some (.tup [rwD (answerR t c (.tup ys))]), some (.tup ys), none, none, none]) M := by
  have nn : ∀ M, oIsN false .non M = .ok (.bl true) M := fun _ => rfl
  have n2 : ∀ M, oIsN true (.tup ys) M = .ok (.bl true) M := fun _ => rfl
  have qf : ∀ M, oEq false (.str word) (.str [102, 111, 117, 110, 100]) M = .ok (.bl false) M := fun M => by rw [str_eq, decide_eq_false hw]
  have rd : rwD (answerR t c (.tup ys)) = .tup [.str [97, 110, 115, 119, 101, 114], .int (t : Int), .int (c : Int), .tup ys] := rfl
  rw [rd]
  push_cast [srMid, nn, n2, hr, h0, qf]
theorem sr_mid_found {ys : List D} {row : D} {c t : Nat} (hr : ∀ M, oIx row (.int 2) M = .ok (.int (c : Int)) M) {p : Pu} {a : Ak} (hpa : p.a = some a) (hp : p.h = n1) (po : ∀ r ∈ l, PutOk r) (ne : ∀ t' ho x, Rw5.oth putN t' (puL ho x) ∈ l → x.n ≠ p.n) (hl : l.length ≤ 5000) (x0 x3 x9 : Option D) (M : Mem) :
    srMid [x0, some (ptD (n0, n3)), some row, x3, some (.str n1), some (.tup [.str [102, 111, 117, 110, 100], askD a, .int p.n, ptD p.pl, strT p.rs, .int p.far]), some (.tup ys), some (.int (t : Int)), some (.tup (l.map rwD)), x9, some .non, none, none, none] M
      = .ok (.nx [x0, some (ptD (n0, n3)), some row, x3, some (.str n1), some (.tup [.str [102, 111, 117, 110, 100], askD a, .int p.n, ptD p.pl, strT p.rs, .int p.far]), some (.tup ys), some (.int (t : Int)), some (.tup (l.map rwD)), some (.tup [rwD (.oth putN t (puL (n0, n3) p)), rwD (answerR t c (.tup ys))]), some (.tup ys), some (.lst []), none, some (rwD (.oth putN t (puL (n0, n3) p)))]) M := by
  have nn : ∀ M, oIsN false .non M = .ok (.bl true) M := fun _ => rfl
  have n2 : ∀ M, oIsN true (.tup ys) M = .ok (.bl true) M := fun _ => rfl
  have qf : ∀ M, oEq false (.str [102, 111, 117, 110, 100]) (.str [102, 111, 117, 110, 100]) M = .ok (.bl true) M := fun M => by rw [str_eq]; rfl
  have rd : rwD (answerR t c (.tup ys)) = .tup [.str [97, 110, 115, 119, 101, 114], .int (t : Int), .int (c : Int), .tup ys] := rfl
  have pd : rwD (.oth putN t (puL (n0, n3) p)) = .tup [.str [112, 117, 116], .int (t : Int), ptD (n0, n3), .str n1, .int p.n, ptD p.pl, strT p.rs, .int p.far, askD a] := by
    show D.tup [.str putN, .int (t : Int), ptD (n0, n3), .str p.h, .int p.n, ptD p.pl, strT p.rs, .int p.far, oAsk p.a] = _
    rw [hpa, hp]; rfl
  have d0 : ∀ M, oIx (.tup [.str [102, 111, 117, 110, 100], askD a, .int p.n, ptD p.pl, strT p.rs, .int p.far]) (.int 0) M = .ok (.str [102, 111, 117, 110, 100]) M := fun _ => rfl
  have d1 : ∀ M, oIx (.tup [.str [102, 111, 117, 110, 100], askD a, .int p.n, ptD p.pl, strT p.rs, .int p.far]) (.int 1) M = .ok (askD a) M := fun _ => rfl
  have d2 : ∀ M, oIx (.tup [.str [102, 111, 117, 110, 100], askD a, .int p.n, ptD p.pl, strT p.rs, .int p.far]) (.int 2) M = .ok (.int (p.n : Int)) M := fun _ => rfl
  have sl : ∀ M, oSl false (.tup [.str [102, 111, 117, 110, 100], askD a, .int p.n, ptD p.pl, strT p.rs, .int p.far]) (some 2) none M = .ok (.tup [.int p.n, ptD p.pl, strT p.rs, .int p.far]) M := fun M => by rw [oSl_tup]; rfl
  rw [rd, pd]
  obtain ⟨DD, hDD⟩ : ∃ X, D.tup [.str [102, 111, 117, 110, 100], askD a, .int p.n, ptD p.pl, strT p.rs, .int p.far] = X := ⟨_, rfl⟩
  rw [hDD] at d0 d1 d2 sl ⊢
  have wp : ∀ a b c d e f g h i j x, wipeE [a, b, c, d, e, f, g, h, i, j, x, none, none, none] [12] = [a, b, c, d, e, f, g, h, i, j, x, none, none, none] := fun _ _ _ _ _ _ _ _ _ _ _ => rfl
  have cl := fun y9 => compL_fm (P := fun _ => True) (M := M) trivial (g := gN 12) (t := T_law_said_right_0) (f := C_law_said_right_1) (env := [x0, some (ptD (n0, n3)), some row, x3, some (.str n1), some DD, some (.tup ys), some (.int (t : Int)), some (.tup (l.map rwD)), y9, some .non, none, none, none]) rwD (fun _ => false) (fun _ => D.non) l fun r hr' => by
    obtain ⟨LD, hLD⟩ : ∃ X, D.tup (l.map rwD) = X := ⟨_, rfl⟩
    rw [hLD]
    obtain ⟨PD, hPD⟩ : ∃ X, ptD (n0, n3) = X := ⟨_, rfl⟩
    rw [hPD]
    refine ⟨_, rfl, ?_, fun z => by cases z⟩
    rcases put_case (po r hr') (n0, n3) with ⟨h1, _⟩ | ⟨t', ho, x, rfl, _⟩
    · have w0 := fun M => rw_w r M
      have q1 : ∀ M, oEq false (.str r.w) (.str [112, 117, 116]) M = .ok (.bl false) M := fun M => by rw [str_eq, decide_eq_false (show ¬ r.w = [112, 117, 116] from h1)]
      obtain ⟨RD, hRD⟩ : ∃ X, rwD r = X := ⟨_, rfl⟩
      rw [hRD] at w0 ⊢
      push_cast [T_law_said_right_0, w0, q1]
    · have w0 : ∀ M, oIx (rwD (.oth putN t' (puL ho x))) (.int 0) M = .ok (.str putN) M := fun _ => rfl
      have q1 : ∀ M, oEq false (.str putN) (.str [112, 117, 116]) M = .ok (.bl true) M := fun M => by rw [str_eq]; rfl
      have s3 : ∀ M, oSl false (rwD (.oth putN t' (puL ho x))) (some 3) (some 5) M = .ok (.tup [.str x.h, .int x.n]) M := fun M => by
        show oSl false (.tup [.str putN, .int (t' : Int), ptD ho, .str x.h, .int x.n, ptD x.pl, strT x.rs, .int x.far, oAsk x.a]) (some 3) (some 5) M = _
        rw [oSl_tup]; rfl
      have q2 : ∀ M, oEq false (.tup [.str x.h, .int x.n]) (.tup [.str n1, .int p.n]) M = .ok (.bl false) M := fun M => by
        refine oEq_exF rfl rfl (by simp [dpD, dpL]) fun z => ?_
        injection z with z
        injection z with _ z
        injection z with z
        injection z with z
        exact ne t' ho x hr' (Int.ofNat_inj.mp z)
      obtain ⟨RD, hRD⟩ : ∃ X, rwD (.oth putN t' (puL ho x)) = X := ⟨_, rfl⟩
      rw [hRD] at w0 s3 ⊢
      push_cast [T_law_said_right_0, w0, q1, s3, d2, q2]
  have fe : (l.filter fun _ => false).map (fun _ => D.non) = [] := by simp
  simp only [fe] at cl
  have qe : ∀ M, oEq false (.lst []) (.lst []) M = .ok (.bl true) M := fun M => oEq_exT rfl (by simp [dpD, dpL])
  have oi : ∀ M, oInt [.bl true] M = .ok (.int 1) M := fun _ => rfl
  have om : ∀ x M, oRep01 (.tup [x]) (.int 1) M = .ok (.tup [x]) M := fun _ _ => rfl
  have ll : (l.map rwD).length < 16777216 := by rw [List.length_map]; omega
  obtain ⟨LD, hLD⟩ : ∃ X, l.map rwD = X := ⟨_, rfl⟩
  rw [hLD] at cl ll ⊢
  have ss : srcOf M (.tup LD) = some ⟨LD, fun _ => True⟩ := rfl
  obtain ⟨PD, hPD⟩ : ∃ X, ptD (n0, n3) = X := ⟨_, rfl⟩
  rw [hPD] at cl ⊢
  push_cast [srMid, nn, n2, hr, d0, qf, mLc_eq, wp, ss, cl, if_pos ll, qe, oi, om, sl, d1, oAddTT]
end
section
variable {M : Mem} {k st w lt op : Nat} {plan : D} {n0 n1 n3 a5 a6 : Nm} {l : List Rw5} {firm : Nat} {L : List D} {okv : List (KK × D)} {m : Nat}
theorem ansOf_at {S : List As} {c : Nat} {y : As} (h : S[c]? = some y) : ansOf S c = y.ans := by unfold ansOf; rw [h]
theorem said_right_eq (h : KO M k st w lt op plan n0 l firm L okv) (sr : SR l n0 n3 m) (hl : l.length ≤ 300) (ho : okv.length ≤ 1000) (hm : m ≤ 1000) (w0 : Wd6 n0) (w1 : Wd6 n1) (w3 : Wd6 n3) (w5 : Wd6 a5) (w6 : Wd6 a6) {c t : Nat} (hc : c < m) (ht : t ≤ 1000) (what : D) {d e : D} (rep : RepOk n0 n1 a5 a6 (n0, c) d e) :
    ∃ M' l' okv', g_law_said_right [.ref k, ptD (n0, n3), rwD (askR 0 c what), .tup [.str n1, d, e, .int (t : Int)]] M = .ok (.bl true) M' ∧ KO M' k st w lt op plan n0 l' l'.length L okv' ∧ SR l' n0 n3 m ∧ l'.length ≤ l.length + 2 ∧ okv'.length ≤ okv.length + 1 ∧ M.length ≤ M'.length ∧ ∀ j, j < M.length → j ≠ st → j ≠ w → j ≠ op → M'[j]? = M[j]? := by
  have nm := sr.num
  obtain ⟨y, hy⟩ : ∃ y, (asksL l)[c]? = some y := ⟨_, List.getElem?_eq_getElem (by omega)⟩
  have hr : ∀ M, oIx (rwD (askR 0 c what)) (.int 2) M = .ok (.int (c : Int)) M := fun _ => rfl
  obtain ⟨ROW, hROW⟩ : ∃ X, rwD (askR 0 c what) = X := ⟨_, rfl⟩
  rw [hROW] at hr ⊢
  obtain ⟨M1, ae, k1', le1, old1⟩ := answer_eq h.ka sr.ask sr.ok (by omega) c
  have k1 : KO M1 k st w lt op plan n0 l l.length L okv := h.go k1' fun i hi a _ => old1 i hi a
  rw [ansOf_at hy] at ae
  rcases (sr.an c y hy).1 with yn | ⟨ys, ya, _⟩
  · rw [yn] at ae
    have pl : ∀ (word : Nm) (more : List D), word ≠ [111, 112, 101, 110] → word ≠ [102, 111, 117, 110, 100] → more.length ≤ 10 → d = .tup (.str word :: askD (n0, c) :: more) → e = .tup (.str word :: more) →
        (word = [111, 112, 101, 110] ∨ word = [110, 111] ∨ word = [116, 97, 107, 101, 110] ∨ word = [103, 111, 110, 101] ∨ word = [100, 111, 110, 101] ∨ word = [102, 111, 117, 110, 100]) →
        ∃ M' l' okv', g_law_said_right [.ref k, ptD (n0, n3), ROW, .tup [.str n1, d, e, .int (t : Int)]] M = .ok (.bl true) M' ∧ KO M' k st w lt op plan n0 l' l'.length L okv' ∧ SR l' n0 n3 m ∧ l'.length ≤ l.length + 2 ∧ okv'.length ≤ okv.length + 1 ∧ M.length ≤ M'.length ∧ ∀ j, j < M.length → j ≠ st → j ≠ w → j ≠ op → M'[j]? = M[j]? := by
      intro word more h1 h2 hm' hd he hw
      rcases rep.ans w0 w1 (show c ≤ 1000 by omega) with z | ⟨ys, he', ex, dp, sh⟩
      · rw [he] at z; cases z
      · obtain ⟨M2, ts, k2, le2, old2⟩ := said_plain k1 sr.ask sr.ok (by omega) (.str n1) word h1 h2 (n0, c) more hm' t hy yn
        have h0 : ∀ M, oIx d (.int 0) M = .ok (.str word) M := fun M => by rw [hd]; exact oIx_t0
        rw [← hd] at ts
        have tk := take_said_of k1 h0 hw ts
        rw [← he] at k2
        have s2 : SR (l ++ [answerR t c e]) n0 n3 m := sr.answer hm hy he' ex dp sh ht
        have md := sr_mid_plain (ys := .str word :: more) (d := d) (t := t) hr h0 h2 (some (.ref k)) (some (ptD (n0, n3))) (some (.tup [.str n1, d, e, .int (t : Int)])) (some (.str n1)) (some (.tup (l.map rwD))) (some (.tup [])) M2
        rw [← he] at md
        have an : ansOf (asksL (l ++ [answerR t c e])) c = e := by
          rw [asksL_snoc, askF_answer _ _ _ _ hy]
          exact ansOf_at (List.getElem?_set_self (by omega))
        obtain ⟨M4, tl, k4, le4, old4⟩ := sr_tail k2 s2 (by simp; omega) (RW := l.map rwD) (MO := [rwD (answerR t c e)]) (by simp) (c := c) hr (some (.tup [.str n1, d, e, .int (t : Int)])) (some (.str n1)) (some d) (some e) (some (.int (t : Int))) none none none
        rw [an] at tl
        exact ⟨M4, _, _, sr_run h hr ae k1 tk md tl, k4, s2, by simp, Nat.le_add_right _ _, by omega, fun j hj a b _ => by rw [old4 j (by omega) a, old2 j (by omega) b, old1 j hj a]⟩
    cases rep with
    | opn =>
      obtain ⟨M2, okv', ts, k2, ko, le2, old2⟩ := said_open k1 sr.ask sr.ok (by omega) (by omega) (.str n1) (n0, c) t hy yn
      have tk := take_said_of k1 (d := .tup [.str [111, 112, 101, 110], askD (n0, c)]) (fun _ => rfl) (.inl rfl) ts
      have md := sr_mid_open (some (.ref k)) (some (ptD (n0, n3))) (some ROW) (some (.tup [.str n1, .tup [.str [111, 112, 101, 110], askD (n0, c)], .non, .int (t : Int)])) (some (.str n1)) (some (.tup [.str [111, 112, 101, 110], askD (n0, c)])) (some (.int (t : Int))) (some (.tup (l.map rwD))) (some (.tup [])) M2
      have an : ansOf (asksL l) c = .non := by rw [ansOf_at hy, yn]
      obtain ⟨M4, tl, k4, le4, old4⟩ := sr_tail k2 sr (by omega) (RW := l.map rwD) (MO := []) (by simp) (c := c) hr (some (.tup [.str n1, .tup [.str [111, 112, 101, 110], askD (n0, c)], .non, .int (t : Int)])) (some (.str n1)) (some (.tup [.str [111, 112, 101, 110], askD (n0, c)])) (some .non) (some (.int (t : Int))) none none none
      rw [an] at tl
      exact ⟨M4, _, _, sr_run h hr ae k1 tk md tl, k4, sr, by omega, ko, by omega, fun j hj a b o => by rw [old4 j (by omega) a, old2 j (by omega) o, old1 j hj a]⟩
    | pln1 word h =>
      exact pl word [] (by rcases h with rfl | rfl <;> decide) (by rcases h with rfl | rfl <;> decide) (by simp) rfl rfl (by rcases h with rfl | rfl <;> simp)
    | no x h => exact pl [110, 111] [.str x] (by decide) (by decide) (by simp) rfl rfl (.inr (.inl rfl))
    | taken => exact pl [116, 97, 107, 101, 110] [.str n0, .int ((1 + c : Nat) : Int)] (by decide) (by decide) (by simp) rfl rfl (.inr (.inr (.inl rfl)))
    | found =>
      obtain ⟨p, hp⟩ : ∃ p : Pu, p = ⟨n1, 4 + c, (n1, a5), [a6], 0, some (n0, c)⟩ := ⟨_, rfl⟩
      have hpa : p.a = some (n0, c) := by rw [hp]
      have hph : p.h = n1 := by rw [hp]
      have hpn : p.n = 4 + c := by rw [hp]
      have ps : PuS p := by
        rw [hp]
        exact ⟨w1, w1, w5, ⟨by simp, fun v hv => by rw [List.mem_singleton] at hv; rw [hv]; exact w6⟩, by simp, by show 4 + c ≤ 100000; omega, .inr ⟨_, rfl, w0, by show c ≤ 100000; omega⟩⟩
      have ed : D.tup [.str [102, 111, 117, 110, 100], askD (n0, c), .int ((4 + (n0, c).2 : Nat) : Int), ptD (n1, a5), strT [a6], .int 0] = .tup [.str [102, 111, 117, 110, 100], askD (n0, c), .int p.n, ptD p.pl, strT p.rs, .int p.far] := by rw [hp]; rfl
      obtain ⟨w00, rest, hwh⟩ := (sr.an c y hy).2
      obtain ⟨M2, ts, k2, le2, old2⟩ := said_found k1 sr.ask sr.ok sr.po (by omega) p (n0, c) hpa (n0, n3) t hy yn hwh
      have sh : ShD 60 1 (.tup [.str [102, 111, 117, 110, 100], .str n1, .int ((4 + c : Nat) : Int)]) := (ShD.tup (n := 0) (ShLD.cons (ShD.str (n := 6) (by decide) (by decide)) (ShLD.cons (ShD.str w1.1 w1.2) (ShLD.cons (sh_nat (n := 4 + c) (by omega)) .nil)))).mono (by omega) (by omega)
      obtain ⟨ne, pr, s2⟩ := sr.found hm w0 w3 hy yn ps hpn (e := .tup [.str [102, 111, 117, 110, 100], .str n1, .int ((4 + c : Nat) : Int)]) rfl rfl (by simp [dpD, dpL]) sh ht
      rw [pr, hph, hpn] at k2
      have k2 : KO M2 k st w lt op plan n0 (l ++ [Rw5.oth putN t (puL (n0, n3) p)] ++ [answerR t c (.tup [.str [102, 111, 117, 110, 100], .str n1, .int ((4 + c : Nat) : Int)])]) l.length L okv := k2
      have tk := take_said_of k1 (d := .tup [.str [102, 111, 117, 110, 100], askD (n0, c), .int p.n, ptD p.pl, strT p.rs, .int p.far]) (fun _ => rfl) (.inr (.inr (.inr (.inr (.inr rfl))))) ts
      rw [hph] at tk
      have md := sr_mid_found (n0 := n0) (n3 := n3) (ys := [.str [102, 111, 117, 110, 100], .str n1, .int ((4 + c : Nat) : Int)]) (t := t) hr hpa hph sr.po ne (by omega) (some (.ref k)) (some (.tup [.str n1, .tup [.str [102, 111, 117, 110, 100], askD (n0, c), .int p.n, ptD p.pl, strT p.rs, .int p.far], .tup [.str [102, 111, 117, 110, 100], .str n1, .int ((4 + c : Nat) : Int)], .int (t : Int)])) (some (.tup [])) M2
      have pk1 : (Rw5.oth putN t (puL (n0, n3) p)).w ≠ askN := show putN ≠ askN by decide
      have pk2 : (Rw5.oth putN t (puL (n0, n3) p)).w ≠ answerN := show putN ≠ answerN by decide
      have s2' : asksL (l ++ [Rw5.oth putN t (puL (n0, n3) p)]) = asksL l := by rw [asksL_snoc, askF_other _ _ pk1 pk2]
      have an : ansOf (asksL (l ++ [Rw5.oth putN t (puL (n0, n3) p)] ++ [answerR t c (.tup [.str [102, 111, 117, 110, 100], .str n1, .int ((4 + c : Nat) : Int)])])) c = .tup [.str [102, 111, 117, 110, 100], .str n1, .int ((4 + c : Nat) : Int)] := by
        rw [asksL_snoc, s2', askF_answer _ _ _ _ hy]
        exact ansOf_at (List.getElem?_set_self (by omega))
      obtain ⟨M4, tl, k4, le4, old4⟩ := sr_tail k2 s2 (by simp; omega) (RW := l.map rwD) (MO := [rwD (.oth putN t (puL (n0, n3) p)), rwD (answerR t c (.tup [.str [102, 111, 117, 110, 100], .str n1, .int ((4 + c : Nat) : Int)]))]) (by simp) (c := c) hr (some (.tup [.str n1, .tup [.str [102, 111, 117, 110, 100], askD (n0, c), .int p.n, ptD p.pl, strT p.rs, .int p.far], .tup [.str [102, 111, 117, 110, 100], .str n1, .int ((4 + c : Nat) : Int)], .int (t : Int)])) (some (.str n1)) (some (.tup [.str [102, 111, 117, 110, 100], askD (n0, c), .int p.n, ptD p.pl, strT p.rs, .int p.far])) (some (.tup [.str [102, 111, 117, 110, 100], .str n1, .int ((4 + c : Nat) : Int)])) (some (.int (t : Int))) (some (.lst [])) none (some (rwD (.oth putN t (puL (n0, n3) p))))
      rw [an] at tl
      rw [ed]
      exact ⟨M4, _, _, sr_run h hr ae k1 tk md tl, k4, s2, by simp, Nat.le_add_right _ _, by omega, fun j hj a b _ => by rw [old4 j (by omega) a, old2 j (by omega) b, old1 j hj a]⟩
  · rw [ya] at ae
    obtain ⟨word, more, hd, hw, hm'⟩ : ∃ word more, d = .tup (.str word :: askD (n0, c) :: more) ∧ (word = [111, 112, 101, 110] ∨ word = [110, 111] ∨ word = [116, 97, 107, 101, 110] ∨ word = [103, 111, 110, 101] ∨ word = [100, 111, 110, 101] ∨ word = [102, 111, 117, 110, 100]) ∧ more.length ≤ 10 := by
      cases rep with
      | opn => exact ⟨_, _, rfl, .inl rfl, by simp⟩
      | pln1 word h => exact ⟨word, [], rfl, by rcases h with rfl | rfl <;> simp, by simp⟩
      | no x h => exact ⟨_, _, rfl, .inr (.inl rfl), by simp⟩
      | taken => exact ⟨_, _, rfl, .inr (.inr (.inl rfl)), by simp⟩
      | found => exact ⟨_, _, rfl, .inr (.inr (.inr (.inr (.inr rfl)))), by simp⟩
    obtain ⟨M2, ts, k2, le2, old2⟩ := said_none k1 sr.ask sr.ok (by omega) (.str n1) word (n0, c) more hm' t (.inr ⟨y, ys, hy, ya⟩)
    have h0 : ∀ M, oIx d (.int 0) M = .ok (.str word) M := fun M => by rw [hd]; exact oIx_t0
    rw [← hd] at ts
    have tk := take_said_of k1 h0 hw ts
    have md := sr_mid_had (ys := ys) (some (.ref k)) (some (ptD (n0, n3))) (some ROW) (some (.tup [.str n1, d, e, .int (t : Int)])) (some (.str n1)) (some d) (some e) (some (.int (t : Int))) (some (.tup (l.map rwD))) (some (.tup [])) M2
    have an : ansOf (asksL l) c = .tup ys := by rw [ansOf_at hy, ya]
    obtain ⟨M4, tl, k4, le4, old4⟩ := sr_tail k2 sr (by omega) (RW := l.map rwD) (MO := []) (by simp) (c := c) hr (some (.tup [.str n1, d, e, .int (t : Int)])) (some (.str n1)) (some d) (some e) (some (.int (t : Int))) none none none
    rw [an] at tl
    exact ⟨M4, _, _, sr_run h hr ae k1 tk md tl, k4, sr, by omega, by omega, by omega, fun j hj a b o => by rw [old4 j (by omega) a, old2 j (by omega), old1 j hj a]⟩
end
section
variable (a0 a1 a2 a3 a4 a5 a6 a7 a8 : Nm)
def HHs : List Hu := [⟨a0, [a3], [], [a5]⟩, ⟨a1, [a4], [⟨a7, [111, 119, 110], [(a8, .str a6)]⟩, ⟨a2, [115, 104, 101, 108, 102], [(a8, .int 3)]⟩], [a5]⟩]
def QQs : List Rt := [⟨(a0, a5), [a6], 2, (a0, a3), none⟩, ⟨(a1, a4), [[103, 105, 118, 101]], 1, (a0, a3), none⟩, ⟨(a1, a7), [[99, 97, 108, 108]], 1, (a0, a3), none⟩, ⟨(a1, a5), [a6], 1, (a1, a2), none⟩, ⟨(a1, a2), [[99, 97, 108, 108]], 1, (a0, a3), none⟩]
def PP0 : Pu := ⟨a0, 0, (a0, a5), [a6], 2, none⟩
def PP1 : Pu := ⟨a1, 0, (a1, a4), [[103, 105, 118, 101]], 1, none⟩
def PP2 : Pu := ⟨a1, 1, (a1, a7), [[99, 97, 108, 108]], 1, none⟩
def PP4 : Pu := ⟨a1, 3, (a1, a2), [[99, 97, 108, 108]], 1, none⟩
def LL0 : List Rw5 := [.root 0 ⟨0, (a0, a5), [a6], 2, (a0, a3), none⟩, .oth putN 0 (puL (a0, a3) (PP0 a0 a5 a6)), .oth putN 0 (puL (a0, a3) (PP1 a1 a4)), .oth putN 0 (puL (a0, a3) (PP2 a1 a7)), .oth putN 0 (puL (a0, a3) (PP4 a1 a2))]
variable {a0 a1 a2 a3 a4 a5 a6 a7 a8}
theorem bgW_eq (h : a0 ≠ a1) : bgW (QQs a0 a1 a2 a3 a4 a5 a6 a7) a0 = LL0 a0 a1 a2 a3 a4 a5 a6 a7 := by
  have h' : a1 ≠ a0 := Ne.symm h
  have e1 : rtsO (QQs a0 a1 a2 a3 a4 a5 a6 a7) a0 (QQs a0 a1 a2 a3 a4 a5 a6 a7).length = [(⟨(a0, a5), [a6], 2, (a0, a3), none⟩, 0)] := by
    simp [rtsO, QQs, List.zipIdx, List.filter, h', decide_eq_true]
  have e2 : ptsO (QQs a0 a1 a2 a3 a4 a5 a6 a7) a0 (QQs a0 a1 a2 a3 a4 a5 a6 a7).length = [(⟨(a0, a5), [a6], 2, (a0, a3), none⟩, 0), (⟨(a1, a4), [[103, 105, 118, 101]], 1, (a0, a3), none⟩, 1), (⟨(a1, a7), [[99, 97, 108, 108]], 1, (a0, a3), none⟩, 2), (⟨(a1, a2), [[99, 97, 108, 108]], 1, (a0, a3), none⟩, 4)] := by
    simp [ptsO, QQs, List.zipIdx, List.filter, h', decide_eq_true]
  have n0 : nmA (QQs a0 a1 a2 a3 a4 a5 a6 a7) 0 = 0 := by simp [nmA, numO, QQs]
  have n1 : nmA (QQs a0 a1 a2 a3 a4 a5 a6 a7) 1 = 0 := by simp [nmA, numO, QQs, h, List.filter]
  have n2 : nmA (QQs a0 a1 a2 a3 a4 a5 a6 a7) 2 = 1 := by simp [nmA, numO, QQs, h, List.filter]
  have n4 : nmA (QQs a0 a1 a2 a3 a4 a5 a6 a7) 4 = 3 := by simp [nmA, numO, QQs, h, List.filter]
  unfold bgW
  rw [e1, e2]
  simp only [List.map_cons, List.map_nil, rootW, putW, n0, n1, n2, n4, List.cons_append, List.nil_append]
  rfl
theorem LL0_puts : putsOf (LL0 a0 a1 a2 a3 a4 a5 a6 a7) (a0, a3) = [PP0 a0 a5 a6, PP1 a1 a4, PP2 a1 a7, PP4 a1 a2] := by
  unfold putsOf LL0
  have r : ∀ g, putOf (a0, a3) (.root 0 g) = none := fun _ => rfl
  simp only [List.filterMap_cons, r, putOf_put, List.filterMap_nil]
theorem plain_asks : ∀ {l : List Rw5}, (∀ r ∈ l, r.w ≠ askN ∧ r.w ≠ answerN) → asksL l = [] := fun {l} => by
  suffices ∀ (l : List Rw5) (S : List As), (∀ r ∈ l, r.w ≠ askN ∧ r.w ≠ answerN) → l.foldl askF S = S from this l []
  intro l
  induction l with
  | nil => intro S _; rfl
  | cons r l ih =>
    intro S h
    have h1 := h r (List.mem_cons_self ..)
    rw [List.foldl_cons, askF_other _ _ h1.1 h1.2]
    exact ih S fun x hx => h x (List.mem_cons_of_mem _ hx)
theorem LL0_mem {r : Rw5} (h : r ∈ LL0 a0 a1 a2 a3 a4 a5 a6 a7) : (∃ g, r = .root 0 g) ∨ ∃ x, (x = PP0 a0 a5 a6 ∨ x = PP1 a1 a4 ∨ x = PP2 a1 a7 ∨ x = PP4 a1 a2) ∧ r = .oth putN 0 (puL (a0, a3) x) := by
  unfold LL0 at h
  simp only [List.mem_cons, List.not_mem_nil, or_false] at h
  rcases h with rfl | rfl | rfl | rfl | rfl
  · exact .inl ⟨_, rfl⟩
  · exact .inr ⟨_, .inl rfl, rfl⟩
  · exact .inr ⟨_, .inr (.inl rfl), rfl⟩
  · exact .inr ⟨_, .inr (.inr (.inl rfl)), rfl⟩
  · exact .inr ⟨_, .inr (.inr (.inr rfl)), rfl⟩
theorem PP_s (w0 : Wd6 a0) (w1 : Wd6 a1) (w2 : Wd6 a2) (w4 : Wd6 a4) (w5 : Wd6 a5) (w6 : Wd6 a6) (w7 : Wd6 a7) {x : Pu} (h : x = PP0 a0 a5 a6 ∨ x = PP1 a1 a4 ∨ x = PP2 a1 a7 ∨ x = PP4 a1 a2) : PuS x ∧ x.n < 4 := by
  have one : ∀ w : Nm, Wd6 w → ([w].length ≤ 8 ∧ ∀ v ∈ [w], Wd6 v) := fun w hw => ⟨by simp, fun v hv => by rw [List.mem_singleton] at hv; rw [hv]; exact hw⟩
  have g : Wd6 [103, 105, 118, 101] := ⟨by decide, by decide⟩
  have c : Wd6 [99, 97, 108, 108] := ⟨by decide, by decide⟩
  rcases h with rfl | rfl | rfl | rfl
  · exact ⟨⟨w0, w0, w5, one _ w6, by simp [PP0], by simp [PP0], .inl rfl⟩, by simp [PP0]⟩
  · exact ⟨⟨w1, w1, w4, one _ g, by simp [PP1], by simp [PP1], .inl rfl⟩, by simp [PP1]⟩
  · exact ⟨⟨w1, w1, w7, one _ c, by simp [PP2], by simp [PP2], .inl rfl⟩, by simp [PP2]⟩
  · exact ⟨⟨w1, w1, w2, one _ c, by simp [PP4], by simp [PP4], .inl rfl⟩, by simp [PP4]⟩
theorem LL0_sr (h : a0 ≠ a1) (w0 : Wd6 a0) (w1 : Wd6 a1) (w2 : Wd6 a2) (w3 : Wd6 a3) (w4 : Wd6 a4) (w5 : Wd6 a5) (w6 : Wd6 a6) (w7 : Wd6 a7) : SR (LL0 a0 a1 a2 a3 a4 a5 a6 a7) a0 a3 0 := by
  have nw : ∀ r ∈ LL0 a0 a1 a2 a3 a4 a5 a6 a7, r.w ≠ askN ∧ r.w ≠ answerN := fun r hr => by
    rcases LL0_mem hr with ⟨g, rfl⟩ | ⟨x, _, rfl⟩
    · exact ⟨show rootN ≠ askN by decide, show rootN ≠ answerN by decide⟩
    · exact ⟨show putN ≠ askN by decide, show putN ≠ answerN by decide⟩
  have as := plain_asks nw
  have rh : ∀ r ∈ LL0 a0 a1 a2 a3 a4 a5 a6 a7, RowH r := fun r hr => by
    rw [← bgW_eq h] at hr; exact bg_rowh r hr
  refine ⟨fun r hr => rowh_ok (rh r hr), fun r hr => rowh_po (rh r hr), fun k r hk => .other _ (nw r (List.mem_of_getElem? hk)).1 (nw r (List.mem_of_getElem? hk)).2, fun r hr => ?_, ?_, fun t ho x hx => ?_, by rw [as]; rfl, fun c y hy => by rw [as] at hy; cases hy⟩
  · have hr0 := hr
    rcases LL0_mem hr with ⟨g, rfl⟩ | ⟨x, hx, rfl⟩
    · rw [← bgW_eq h] at hr0
      unfold bgW at hr0
      rcases List.mem_append.mp hr0 with h1 | h1
      · obtain ⟨x, hx, e⟩ := List.mem_map.mp h1
        rw [← e]
        have hq := rts_in hx
        have rs : RtS x.1 := by
          have one : ∀ w : Nm, Wd6 w → ([w].length ≤ 8 ∧ ∀ v ∈ [w], Wd6 v) := fun w hw => ⟨by simp, fun v hv => by rw [List.mem_singleton] at hv; rw [hv]; exact hw⟩
          have g : Wd6 [103, 105, 118, 101] := ⟨by decide, by decide⟩
          have c : Wd6 [99, 97, 108, 108] := ⟨by decide, by decide⟩
          unfold QQs at hq
          simp only [List.mem_cons, List.not_mem_nil, or_false] at hq
          rcases hq with z | z | z | z | z <;> rw [z]
          · exact ⟨w0, w5, w0, w3, one _ w6, by simp⟩
          · exact ⟨w1, w4, w0, w3, one _ g, by simp⟩
          · exact ⟨w1, w7, w0, w3, one _ c, by simp⟩
          · exact ⟨w1, w5, w1, w2, one _ w6, by simp⟩
          · exact ⟨w1, w2, w0, w3, one _ c, by simp⟩
        exact (sh_root (by simp [QQs]) rs).mono (by omega) (by omega)
      · obtain ⟨x, hx, e⟩ := List.mem_map.mp h1
        cases e
    · exact sh_putP (PP_s w0 w1 w2 w4 w5 w6 w7 hx).1 (by omega) w0 w3
  · rw [LL0_puts]
    simp [PP0, PP1, PP2, PP4, puT, h]
  · rcases LL0_mem hx with ⟨g, e⟩ | ⟨x', hx', e⟩
    · cases e
    · injection e with _ _ e
      obtain ⟨_, rfl⟩ := puL_inj e
      exact ⟨(PP_s w0 w1 w2 w4 w5 w6 w7 hx').1, .inl (PP_s w0 w1 w2 w4 w5 w6 w7 hx').2⟩
theorem HH_serv7 (Hh : a0 ≠ a1) : ∃ s, servAt (HHs a0 a1 a2 a3 a4 a5 a6 a7 a8) (a1, a7) = some s := by
  refine ⟨⟨a7, [111, 119, 110], [(a8, .str a6)]⟩, ?_⟩
  simp [servAt, HHs, servIn, List.findSome?, List.find?]
theorem HH_serv2 (Hh : a0 ≠ a1) (h7 : a7 ≠ a2) : ∃ s, servAt (HHs a0 a1 a2 a3 a4 a5 a6 a7 a8) (a1, a2) = some s := by
  refine ⟨⟨a2, [115, 104, 101, 108, 102], [(a8, .int 3)]⟩, ?_⟩
  simp [servAt, HHs, servIn, List.findSome?, List.find?, h7, decide_eq_false]
theorem HH_beng : (a1, a4) ∈ bengs (HHs a0 a1 a2 a3 a4 a5 a6 a7 a8) := by simp [bengs, HHs]
theorem HH_beng_len : (bengs (HHs a0 a1 a2 a3 a4 a5 a6 a7 a8)).length = 4 := by simp [bengs, HHs]
end
section
variable {M : Mem} {k st w lt op : Nat} {plan : D} {n0 n3 : Nm} {l : List Rw5} {okv : List (KK × D)} {m : Nat} {AK : List Rw5} {P : List Pu}
structure AT (M : Mem) (k st w lt op : Nat) (plan : D) (n0 n3 : Nm) (l AK : List Rw5) (m : Nat) (P : List Pu) (okv : List (KK × D)) : Prop where
  ko : ∃ firm, KO M k st w lt op plan n0 l firm [] okv
  sr : SR l n0 n3 m
  ak : l.filter (fun r => decide (r.w = askN)) = AK
  akl : AK.length = m
  aw : ∀ (j : Nat) r, AK[j]? = some r → ∃ what, r = askR 0 j what ∧ WhatOk what
  px : putsOf l (n0, n3) = P
theorem SR.asked (h : SR l n0 n3 m) (hm : m ≤ 1000) {what w0 : D} {rest : List D} (hw : what = .tup (w0 :: ptD (n0, n3) :: rest)) (ex : exD what = true) (dp : dpD what ≤ 3) (sh : ShD 500 2 what) : SR (l ++ [askR 0 m what]) n0 n3 (m + 1) ∧ putsOf (l ++ [askR 0 m what]) (n0, n3) = putsOf l (n0, n3) := by
  have nm := h.num
  have aw : asksL (l ++ [askR 0 m what]) = asksL l ++ [⟨0, what, .non⟩] := by rw [asksL_snoc, askF_ask]
  have mem : ∀ r, r ∈ l ++ [askR 0 m what] → r ∈ l ∨ r = askR 0 m what := fun r hr => by simpa using hr
  have nw : askN ≠ putN := by decide
  have hp : putsOf (l ++ [askR 0 m what]) (n0, n3) = putsOf l (n0, n3) := by
    unfold putsOf
    rw [List.filterMap_append]
    have : putOf (n0, n3) (askR 0 m what) = none := putOf_no _ _ nw
    simp [this]
  refine ⟨⟨fun r hr => ?_, fun r hr => ?_, h.ask.snoc (by rw [← nm]; exact .ask 0 what), fun r hr => ?_, by rw [hp]; exact h.nd, fun t' ho x hx' => ?_, by rw [aw, List.length_append, nm]; rfl, fun c' y' hy' => ?_⟩, hp⟩
  · rcases mem r hr with h1 | rfl
    · exact h.ok r h1
    · refine ⟨by decide, by decide, by decide, by decide, ?_, ?_, by simp⟩
      · simp [exL, ex, exD]
      · simp [dpL, dpD]; omega
  · rcases mem r hr with h1 | rfl
    · exact h.po r h1
    · exact ⟨by decide, fun z => absurd z nw⟩
  · rcases mem r hr with h1 | rfl
    · exact h.sh r h1
    · exact (ShD.tup (n := 2) (ShLD.cons ((ShD.str (n := 3) (w := askN) (by decide) (by decide)).mono (Nat.le_refl _) (Nat.zero_le _)) (ShLD.cons ((sh_nat (n := 0) (by omega)).mono (Nat.le_refl _) (Nat.zero_le _)) (ShLD.cons ((sh_nat (n := m) (by omega)).mono (Nat.le_refl _) (Nat.zero_le _)) (ShLD.cons sh .nil))))).mono (by omega) (by omega)
  · rcases mem _ hx' with h1 | h1
    · obtain ⟨p1, p2⟩ := h.pu t' ho x h1
      refine ⟨p1, p2.imp_right fun ⟨c', y', q1, q2, q3⟩ => ⟨c', y', q1, ?_, q3⟩⟩
      rw [aw, List.getElem?_append_left (List.getElem?_eq_some_iff.mp q2).1]
      exact q2
    · unfold askR at h1
      injection h1 with h2
      exact absurd h2.symm nw
  · rw [aw] at hy'
    by_cases cc : c' < (asksL l).length
    · rw [List.getElem?_append_left cc] at hy'
      exact h.an c' y' hy'
    · rw [List.getElem?_append_right (by omega)] at hy'
      have z : c' - (asksL l).length = 0 := by
        have := (List.getElem?_eq_some_iff.mp hy').1
        simp at this; omega
      rw [z] at hy'
      cases hy'
      exact ⟨.inl rfl, _, _, hw⟩
theorem AT.step (h : AT M k st w lt op plan n0 n3 l AK m P okv) (hm : m ≤ 1000) {what w0 : D} {rest : List D} (hw : what = .tup (w0 :: ptD (n0, n3) :: rest)) (ex : exD what = true) (dp : dpD what ≤ 3) (sh : ShD 500 2 what) (wo : WhatOk what) {M' : Mem} {firm' : Nat} (k' : KAt M' k st w lt plan n0 (l ++ [askR 0 (asksL l).length what]) firm' []) (old : ∀ i, i < M.length → i ≠ st → i ≠ w → M'[i]? = M[i]?) :
    AT M' k st w lt op plan n0 n3 (l ++ [askR 0 m what]) (AK ++ [askR 0 m what]) (m + 1) P okv := by
  rw [h.sr.num] at k'
  obtain ⟨firm, ko⟩ := h.ko
  obtain ⟨s1, s2⟩ := h.sr.asked hm hw ex dp sh
  refine ⟨⟨firm', ko.go k' old⟩, s1, ?_, by rw [List.length_append, h.akl]; rfl, fun j r hj => ?_, by rw [s2, h.px]⟩
  · rw [List.filter_append, h.ak]
    rfl
  · by_cases c : j < AK.length
    · rw [List.getElem?_append_left c] at hj
      exact h.aw j r hj
    · rw [List.getElem?_append_right (by omega)] at hj
      have z : j - AK.length = 0 := by
        have := (List.getElem?_eq_some_iff.mp hj).1
        simp at this; omega
      rw [z] at hj
      cases hj
      have : j = m := by have := h.akl; omega
      rw [this]
      exact ⟨what, rfl, wo⟩
theorem AT.rs (h : AT M k st w lt op plan n0 n3 l AK m P okv) (hl : l.length ≤ 400) : RsOk l n0 n3 := ⟨h.sr.ok, h.sr.po, h.sr.ask, h.sr.nd, by have := puts_len l (n0, n3); omega, by omega⟩
end
section
variable {M : Mem} {k st w lt op : Nat} {l : List Rw5} {okv : List (KK × D)} {m : Nat} {AK : List Rw5}
variable {a0 a1 a2 a3 a4 a5 a6 a7 a8 : Nm}
theorem ask3_turn (h01 : a0 ≠ a1) (h72 : a7 ≠ a2) (w0 : Wd6 a0) (w1 : Wd6 a1) (w2 : Wd6 a2) (w3 : Wd6 a3) (w4 : Wd6 a4) (w6 : Wd6 a6) (w7 : Wd6 a7) (w8 : Wd6 a8)
    (h : AT M k st w lt op (planD (HHs a0 a1 a2 a3 a4 a5 a6 a7 a8) (QQs a0 a1 a2 a3 a4 a5 a6 a7)) a0 a3 l AK m [PP0 a0 a5 a6, PP1 a1 a4, PP2 a1 a7, PP4 a1 a2] okv) (hm : m ≤ 100) (hl : l.length ≤ 300) (q : Nat) (x0 x1 x2 x4 x5 x6 x7 x8 x11 x12 x13 x14 x15 x16 : Option D) :
    ∃ M' l' AK', L_law_0 [x0, x1, x2, some (namL a0 a1 a2 a3 a4 a5 a6 a7 a8), x4, x5, x6, x7, x8, some (.ref k), some (.int (q : Int)), x11, x12, x13, x14, x15, x16] M = .ok (.nx [x0, x1, x2, some (namL a0 a1 a2 a3 a4 a5 a6 a7 a8), x4, x5, x6, x7, x8, some (.ref k), some (.int (q : Int)), x11, x12, x13, x14, x15, x16]) M' ∧
      AT M' k st w lt op (planD (HHs a0 a1 a2 a3 a4 a5 a6 a7 a8) (QQs a0 a1 a2 a3 a4 a5 a6 a7)) a0 a3 l' AK' (m + 3) [PP0 a0 a5 a6, PP1 a1 a4, PP2 a1 a7, PP4 a1 a2] okv ∧ l'.length = l.length + 3 ∧ M.length ≤ M'.length ∧ ∀ i, i < M.length → i ≠ st → i ≠ w → M'[i]? = M[i]? := by
  obtain ⟨f0, ko0⟩ := h.ko
  have sw : ∀ {v : Nm}, Wd6 v → ShD 6 1 (.str v) := fun hv => (ShD.str hv.1 hv.2).mono (Nat.le_refl _) (Nat.zero_le _)
  have si : ∀ {n : Nat}, n < 1000000 → ShD 31 1 (.int (n : Int)) := fun hn => (sh_nat hn).mono (Nat.le_refl _) (Nat.zero_le _)
  have cw : Wd6 [104, 97, 110, 100] := ⟨by decide, by decide⟩
  have cc : Wd6 [99, 117, 116] := ⟨by decide, by decide⟩
  have ca : Wd6 [99, 97, 108, 108] := ⟨by decide, by decide⟩
  -- hand
  have hx0 : (putsOf l (a0, a3))[0]? = some (PP0 a0 a5 a6) := by rw [h.px]; rfl
  have hx1 : (putsOf l (a0, a3))[1]? = some (PP1 a1 a4) := by rw [h.px]; rfl
  obtain ⟨M1, e1, k1, le1, old1⟩ := hand_eq ko0.ka (h.rs (by omega)) (by rw [HH_beng_len]; omega) hx0 hx1 (List.mem_singleton.mpr rfl) HH_beng (rights := [a6]) (fun r hr => hr) (far := 0) (show 0 < 2 by omega) 0
  obtain ⟨l1, AK1, A1, l1l⟩ : ∃ l1 AK1, AT M1 k st w lt op (planD (HHs a0 a1 a2 a3 a4 a5 a6 a7 a8) (QQs a0 a1 a2 a3 a4 a5 a6 a7)) a0 a3 l1 AK1 (m + 1) [PP0 a0 a5 a6, PP1 a1 a4, PP2 a1 a7, PP4 a1 a2] okv ∧ l1.length = l.length + 1 := ⟨_, _, h.step (by omega) (w0 := .str [104, 97, 110, 100]) rfl (by rfl) (by simp [dpD, dpL, ptD, strT]) ((ShD.tup (n := 1) (ShLD.cons (sw cw) (ShLD.cons (sh_pt w0 w3) (ShLD.cons (sw w0) (ShLD.cons (si (n := 0) (by omega)) (ShLD.cons (sh_rs (l := [a6]) ⟨by simp, fun v hv => by rw [List.mem_singleton] at hv; rw [hv]; exact w6⟩) (ShLD.cons (si (n := 0) (by omega)) (ShLD.cons (si (n := 0) (by omega)) (ShLD.cons (sh_pt w1 w4) .nil))))))))).mono (by omega) (by omega)) (.hand _) k1 old1, by simp⟩
  obtain ⟨f1, ko1⟩ := A1.ko
  have e1 : g_Kernel_hand [.ref k, .str a3, .tup [.int 0, .int 0], .tup [.int 1, .int 0], .tup [.str a6], .int 0, .int 0] M = .ok (.int ((asksL l).length : Int)) M1 := e1
  -- cut
  have hx1 : (putsOf l1 (a0, a3))[1]? = some (PP1 a1 a4) := by rw [A1.px]; rfl
  obtain ⟨M2, e2, k2, le2, old2⟩ := cut_eq ko1.ka (A1.rs (by omega)) hx1 0 0
  obtain ⟨l2, AK2, A2, l2l⟩ : ∃ l2 AK2, AT M2 k st w lt op (planD (HHs a0 a1 a2 a3 a4 a5 a6 a7 a8) (QQs a0 a1 a2 a3 a4 a5 a6 a7)) a0 a3 l2 AK2 (m + 1 + 1) [PP0 a0 a5 a6, PP1 a1 a4, PP2 a1 a7, PP4 a1 a2] okv ∧ l2.length = l1.length + 1 := ⟨_, _, A1.step (by omega) (w0 := .str [99, 117, 116]) rfl (by rfl) (by simp [dpD, dpL, ptD]) ((ShD.tup (n := 1) (ShLD.cons (sw cc) (ShLD.cons (sh_pt w0 w3) (ShLD.cons (sw w1) (ShLD.cons (si (n := 0) (by omega)) (ShLD.cons (si (n := 0) (by omega)) .nil)))))).mono (by omega) (by omega)) (.cut _) k2 old2, by simp⟩
  obtain ⟨f2, ko2⟩ := A2.ko
  have e2 : g_Kernel_cut [.ref k, .str a3, .tup [.int 1, .int 0], .int 0, .int 0] M1 = .ok (.int ((asksL l1).length : Int)) M2 := e2
  -- call
  have hx2 : (putsOf l2 (a0, a3))[2]? = some (PP2 a1 a7) := by rw [A2.px]; rfl
  have hx4 : (putsOf l2 (a0, a3))[3]? = some (PP4 a1 a2) := by rw [A2.px]; rfl
  obtain ⟨s7, hs7⟩ := HH_serv7 (a2 := a2) (a3 := a3) (a4 := a4) (a5 := a5) (a6 := a6) (a7 := a7) (a8 := a8) h01
  obtain ⟨s2, hs2⟩ := HH_serv2 (a2 := a2) (a3 := a3) (a4 := a4) (a5 := a5) (a6 := a6) (a7 := a7) (a8 := a8) h01 h72
  obtain ⟨kp, hk⟩ := ko0.at_
  obtain ⟨kp1, hk1⟩ := ko1.at_
  obtain ⟨kp2, hk2⟩ := ko2.at_
  have i0 := insOf_at hk
  have i1 := insOf_at hk1
  have i2 := insOf_at hk2
  obtain ⟨PLN, hPLN⟩ : ∃ X, planD (HHs a0 a1 a2 a3 a4 a5 a6 a7 a8) (QQs a0 a1 a2 a3 a4 a5 a6 a7) = X := ⟨_, rfl⟩
  have g1 := lk_kn_hand PLN (.str a0) (.int 6) (.int 3) (.ref st) (.ref lt) kp (.ref op)
  have g2 := lk_kn_cut PLN (.str a0) (.int 6) (.int 3) (.ref st) (.ref lt) kp1 (.ref op)
  have g3 := lk_kn_call PLN (.str a0) (.int 6) (.int 3) (.ref st) (.ref lt) kp2 (.ref op)
  have n3' : ∀ M, oIx (namL a0 a1 a2 a3 a4 a5 a6 a7 a8) (.int 3) M = .ok (.str a3) M := fun _ => rfl
  have n6' : ∀ M, oIx (namL a0 a1 a2 a3 a4 a5 a6 a7 a8) (.int 6) M = .ok (.str a6) M := fun _ => rfl
  have n8' : ∀ M, oIx (namL a0 a1 a2 a3 a4 a5 a6 a7 a8) (.int 8) M = .ok (.str a8) M := fun _ => rfl
  obtain ⟨NL, hNL⟩ : ∃ X, namL a0 a1 a2 a3 a4 a5 a6 a7 a8 = X := ⟨_, rfl⟩
  rw [hNL] at n3' n6' n8' ⊢
  have hq : q % 2 = 0 ∨ q % 2 = 1 := by omega
  rcases hq with hq | hq
  · obtain ⟨M3, e3, k3, le3, old3⟩ := kcall_eq ko2.ka (A2.rs (by omega)) hx2 (List.mem_singleton.mpr rfl) hs7 a8 .non 0
    have A3 := A2.step (by omega) (w0 := .str [99, 97, 108, 108]) rfl (by rfl) (by simp [dpD, dpL, ptD]) ((ShD.tup (n := 1) (ShLD.cons (sw ca) (ShLD.cons (sh_pt w0 w3) (ShLD.cons (si (n := 1) (by omega)) (ShLD.cons (sh_pt w1 w7) (ShLD.cons (sw w8) (ShLD.cons (ShD.non.mono (Nat.le_refl _) (Nat.zero_le _)) .nil))))))).mono (by omega) (by omega)) (.call _ _ (a1, a7) _) k3 old3
    have e3 : g_Kernel_call [.ref k, .str a3, .tup [.int 2, .int 0], .str a8, .non, .int 0] M2 = .ok (.int ((asksL l2).length : Int)) M3 := e3
    refine ⟨M3, _, _, ?_, A3, by rw [List.length_append, l2l, l1l]; rfl, by omega, fun i hi a b => by rw [old3 i (by omega) a b, old2 i (by omega) a b, old1 i hi a b]⟩
    have md : ∀ M, oMod (.int (q : Int)) (.int 2) M = .ok (.int 0) M := fun M => by rw [oMod_int _ _ (by omega)]; congr 2; omega
    have ad : ∀ M, oAdd false (.int 2) (.int 0) M = .ok (.int 2) M := fun _ => rfl
    rw [hPLN] at i0 i1 i2
    push_cast [L_law_0, mMth_eq, i0, g1, n3', n6', e1, i1, g2, e2, i2, g3, n8', md, ad, e3]
  · obtain ⟨M3, e3, k3, le3, old3⟩ := kcall_eq ko2.ka (A2.rs (by omega)) hx4 (List.mem_singleton.mpr rfl) hs2 a8 .non 0
    have A3 := A2.step (by omega) (w0 := .str [99, 97, 108, 108]) rfl (by rfl) (by simp [dpD, dpL, ptD]) ((ShD.tup (n := 1) (ShLD.cons (sw ca) (ShLD.cons (sh_pt w0 w3) (ShLD.cons (si (n := 3) (by omega)) (ShLD.cons (sh_pt w1 w2) (ShLD.cons (sw w8) (ShLD.cons (ShD.non.mono (Nat.le_refl _) (Nat.zero_le _)) .nil))))))).mono (by omega) (by omega)) (.call _ _ (a1, a2) _) k3 old3
    have e3 : g_Kernel_call [.ref k, .str a3, .tup [.int 3, .int 0], .str a8, .non, .int 0] M2 = .ok (.int ((asksL l2).length : Int)) M3 := e3
    refine ⟨M3, _, _, ?_, A3, by rw [List.length_append, l2l, l1l]; rfl, by omega, fun i hi a b => by rw [old3 i (by omega) a b, old2 i (by omega) a b, old1 i hi a b]⟩
    have md : ∀ M, oMod (.int (q : Int)) (.int 2) M = .ok (.int 1) M := fun M => by rw [oMod_int _ _ (by omega)]; congr 2; omega
    have ad : ∀ M, oAdd false (.int 2) (.int 1) M = .ok (.int 3) M := fun _ => rfl
    rw [hPLN] at i0 i1 i2
    push_cast [L_law_0, mMth_eq, i0, g1, n3', n6', e1, i1, g2, e2, i2, g3, n8', md, ad, e3]
end
theorem kernel_init2 {Q : List Rt} (hl : Q.length ≤ 900) (kQ : PaOk Q) (H : List Hu) (hn : Nm) (M : Mem) :
    ∃ m, g_Kernel___init__ [.ref M.length, planD H Q, .str hn, .int 6, .int 3] (M ++ [.ins 3 []]) = .ok .non m ∧ m.length = M.length + 6 ∧ KAt m M.length (M.length + 1) (M.length + 2) (M.length + 3) (planD H Q) hn (bgW Q hn) (bgW Q hn).length [] ∧ (∃ J, m = M ++ J) ∧ KO m M.length (M.length + 1) (M.length + 2) (M.length + 3) (M.length + 5) (planD H Q) hn (bgW Q hn) (bgW Q hn).length [] [] := by
  have fr := fun M => first_rows_eq hl kQ H hn M
  have KA : KAt (M ++ [.ins 3 (knF (planD H Q) (.str hn) (.int 6) (.int 3) (.ref (M.length + 1)) (.ref (M.length + 3)) (.ref (M.length + 4)) (.ref (M.length + 5))), .ins 2 (snF (.ref (M.length + 2)) (.int ((bgW Q hn).length : Int))), .lst ((bgW Q hn).map rwD), .lst [], .dt false [], .dk false []]) M.length (M.length + 1) (M.length + 2) (M.length + 3) (planD H Q) hn (bgW Q hn) (bgW Q hn).length [] := by
    refine ⟨⟨_, _, app_get0 rfl⟩, app_get1 rfl, ?_, ?_, by omega⟩
    · rw [List.getElem?_append_right (by omega), show M.length + 2 - M.length = 2 by omega]; rfl
    · rw [List.getElem?_append_right (by omega), show M.length + 3 - M.length = 3 by omega]; rfl
  refine ⟨M ++ [.ins 3 (knF (planD H Q) (.str hn) (.int 6) (.int 3) (.ref (M.length + 1)) (.ref (M.length + 3)) (.ref (M.length + 4)) (.ref (M.length + 5))), .ins 2 (snF (.ref (M.length + 2)) (.int ((bgW Q hn).length : Int))), .lst ((bgW Q hn).map rwD), .lst [], .dt false [], .dk false []], ?_, by simp, KA, ⟨_, rfl⟩, KA, ⟨_, app_get0 rfl⟩, ?_⟩
  rotate_left
  · rw [List.getElem?_append_right (by omega), show M.length + 5 - M.length = 5 by omega]; rfl
  · refine runB_nx (N := 5) (env := [some (.ref M.length), some (planD H Q), some (.str hn), some (.int 6), some (.int 3)]) ?_
    show B_Kernel___init__ [some (.ref M.length), some (planD H Q), some (.str hn), some (.int 6), some (.int 3)] (M ++ [.ins 3 []]) = _
    have gt : ∀ c (B : Mem), (M ++ c :: B)[M.length]? = some c := fun c B => app_get0 rfl
    have st : ∀ c d (B : Mem), (M ++ c :: B).set M.length d = M ++ d :: B := fun c d B => app_set0 rfl
    have le1 : ∀ c : Cell, (M ++ [c]).length = M.length + 1 := fun c => by simp
    have le3 : ∀ a b c : Cell, (M ++ [a, b, c]).length = M.length + 3 := fun a b c => by simp
    have le4 : ∀ a b c d : Cell, (M ++ [a, b, c, d]).length = M.length + 4 := fun a b c d => by simp
    have le5 : ∀ a b c d e : Cell, (M ++ [a, b, c, d, e]).length = M.length + 5 := fun a b c d e => by simp
    have ap3 : ∀ a b c x : Cell, (M ++ [a, b, c]) ++ [x] = M ++ [a, b, c, x] := fun a b c x => by simp
    have ap4 : ∀ a b c d x : Cell, (M ++ [a, b, c, d]) ++ [x] = M ++ [a, b, c, d, x] := fun a b c d x => by simp
    have ap5 : ∀ a b c d e x : Cell, (M ++ [a, b, c, d, e]) ++ [x] = M ++ [a, b, c, d, e, x] := fun a b c d e x => by simp
    have si : ∀ F, g_Stone___init__ [.ref (M.length + 1), .lst ((bgW Q hn).map rwD)] ((M ++ [.ins 3 F]) ++ [.ins 2 []]) = .ok .non (M ++ [.ins 3 F, .ins 2 (snF (.ref (M.length + 2)) (.int ((bgW Q hn).length : Int))), .lst ((bgW Q hn).map rwD)]) := fun F => by
      have := stone_init (M ++ [.ins 3 F]) (bgW Q hn)
      rw [le1] at this
      rw [this, List.append_assoc]; rfl
    have lt0 : (0 < 1000) = True := by simp
    have lt1 : (1 < 1000) = True := by simp
    have lt2 : (2 < 1000) = True := by simp
    have lt3 : (3 < 1000) = True := by simp
    have lt4 : (4 < 1000) = True := by simp
    have lt5 : (5 < 1000) = True := by simp
    have lt6 : (6 < 1000) = True := by simp
    have lt7 : (7 < 1000) = True := by simp
    have fin : ∀ a b c d e f g h, knF a b c d e f g h = ([("plan", a), ("house", b), ("lease", c), ("every", d), ("stone", e), ("letters", f), ("kept", g), ("opened", h)] : List (Str × D)) := fun _ _ _ _ _ _ _ _ => rfl
    rw [fin]
    obtain ⟨PD, hPD⟩ : ∃ X, planD H Q = X := ⟨_, rfl⟩
    rw [hPD] at fr ⊢
    obtain ⟨RL, hRL⟩ : ∃ X, (bgW Q hn).map rwD = X := ⟨_, rfl⟩
    rw [hRL] at fr si ⊢
    obtain ⟨SN, hSN⟩ : ∃ X, snF (.ref (M.length + 2)) (.int ((bgW Q hn).length : Int)) = X := ⟨_, rfl⟩
    rw [hSN] at si ⊢
    push_cast [B_Kernel___init__, mFldSet_eq, mMake_eq, mDNewT_eq, mDNewK_eq, insOf_at (gt _ _), st, kp0, kp1, kp2, kp3, kp4, kp5, kp6, kp7, fr, le1, si, le3, le4, le5, ap3, ap4, ap5, lt0, lt1, lt2, lt3, lt4, lt5, lt6, lt7]
section
variable {M : Mem} {k st w lt op i : Nat} {plan : D} {l : List Rw5} {firm : Nat} {L : List D} {okv : List (KK × D)} {m : Nat} {house : Nm}
theorem KO.keep (h : KO M k st w lt op plan house l firm L okv) {M' : Mem} (e : ∀ j, j ≠ i → M'[j]? = M[j]?) (hi : i ≠ k ∧ i ≠ st ∧ i ≠ w ∧ i ≠ lt ∧ i ≠ op) : KO M' k st w lt op plan house l firm L okv := by
  obtain ⟨i1, i2, i3, i4, i5⟩ := hi
  obtain ⟨kp, hk⟩ := h.at_
  exact ⟨h.ka.same (e _ (Ne.symm i1)) (e _ (Ne.symm i2)) (e _ (Ne.symm i3)) (e _ (Ne.symm i4)), ⟨kp, by rw [e _ (Ne.symm i1)]; exact hk⟩, by rw [e _ (Ne.symm i5)]; exact h.opn⟩
variable {a0 a1 a2 a3 a4 a5 a6 a7 a8 : Nm}
structure TT (M : Mem) (k st w lt op i : Nat) (plan : D) (a0 a3 : Nm) (m B : Nat) : Prop where
  ex : ∃ l firm okv, KO M k st w lt op plan a0 l firm [] okv ∧ SR l a0 a3 m ∧ l.length ≤ 100 + 2 * B ∧ okv.length ≤ B
  fi : FI M i
theorem tick39 (h : TT M k st w lt op i plan a0 a3 m t) (ht : t ≤ 20) (hi : i ≠ k ∧ i ≠ st ∧ i ≠ w ∧ i ≠ lt ∧ i ≠ op) (hm0 : 0 < m) (hm : m ≤ 100) (w0 : Wd6 a0) (w1 : Wd6 a1) (w3 : Wd6 a3) (w5 : Wd6 a5) (w6 : Wd6 a6)
    {AK : List Rw5} (akl : AK.length = m) (aw : ∀ (j : Nat) r, AK[j]? = some r → ∃ what, r = askR 0 j what ∧ WhatOk what) {FT : List D} (fl : FT.length = m) (fv : ∀ y ∈ FT, ∃ v : Nat, v < 4 ∧ y = .int v) (T : Nat) (hT : T ≤ 100) (x0 x1 x5 x6 x7 x8 x10 x12 x15 x16 : Option D) :
    ∃ M' y12 y15 y16, L_law_4 [x0, x1, some (.ref i), some (namL a0 a1 a2 a3 a4 a5 a6 a7 a8), some (ptD (a0, a3)), x5, x6, x7, x8, some (.ref k), x10, some (.lst (AK.map rwD)), x12, some (.lst FT), some (.int (T : Int)), x15, x16] M = .ok (.nx [x0, x1, some (.ref i), some (namL a0 a1 a2 a3 a4 a5 a6 a7 a8), some (ptD (a0, a3)), x5, x6, x7, x8, some (.ref k), x10, some (.lst (AK.map rwD)), y12, some (.lst FT), some (.int (T : Int)), y15, y16]) M' ∧ TT M' k st w lt op i plan a0 a3 m (t + 1) := by
  obtain ⟨⟨l, firm, okv, ko, sr, ll, lo⟩, fi⟩ := h
  obtain ⟨v, M1, v1, f1, ml1, old1, dr⟩ := fi.draw (m : Int) (by omega) (by omega)
  have ko1 := ko.keep old1 hi
  have hv : v < AK.length := by omega
  obtain ⟨r, hr⟩ : ∃ r, AK[v]? = some r := ⟨_, List.getElem?_eq_getElem hv⟩
  obtain ⟨what, rfl, wo⟩ := aw v r hr
  obtain ⟨y, hy⟩ : ∃ y, FT[v]? = some y := ⟨_, List.getElem?_eq_getElem (by omega)⟩
  obtain ⟨u, hu, rfl⟩ := fv y (List.mem_of_getElem? hy)
  obtain ⟨d, e, M2, re, rep, f2, ml2, old2⟩ := reply_eq f1 wo a0 a1 a2 a3 a4 a5 a6 a7 a8 (a0, v) hu
  have ko2 := ko1.keep old2 hi
  obtain ⟨M3, l', okv', se, ko3, sr3, l3, o3, le3, old3⟩ := said_right_eq ko2 sr (by omega) (by omega) (by omega) w0 w1 w3 w5 w6 (c := v) (t := T) (by omega) (by omega) what rep
  have il := f2
  obtain ⟨s2, _, hs2⟩ := f2
  have f3 : FI M3 i := il.same (old3 i (lt_of_get hs2) hi.2.1 hi.2.2.1 hi.2.2.2.2)
  refine ⟨M3, some (rwD (askR 0 v what)), some d, some e, ?_, ⟨l', _, okv', ko3, sr3, by omega, by omega⟩, f3⟩
  have ol : ∀ M, oLen [.lst (AK.map rwD)] M = .ok (.int (m : Int)) M := fun M => by
    have : oLen [.lst (AK.map rwD)] M = .ok (.int ((AK.map rwD).length : Int)) M := rfl
    rw [this, List.length_map, akl]
  have ix : ∀ M, oIx (.lst (AK.map rwD)) (.int (v : Int)) M = .ok (rwD (askR 0 v what)) M := fun M => by
    rw [oIx_lst, atI_nat (v := rwD (askR 0 v what)) (by rw [List.getElem?_map, hr]; rfl)]
  have ixf : ∀ M, oIx (.lst FT) (.int (v : Int)) M = .ok (.int (u : Int)) M := fun M => by
    rw [oIx_lst, atI_nat hy]
  have r2 : ∀ M, oIx (rwD (askR 0 v what)) (.int 2) M = .ok (.int (v : Int)) M := fun _ => rfl
  have r3 : ∀ M, oIx (rwD (askR 0 v what)) (.int 3) M = .ok what M := fun _ => rfl
  have q0 : ∀ M, oIx (namL a0 a1 a2 a3 a4 a5 a6 a7 a8) (.int 0) M = .ok (.str a0) M := fun _ => rfl
  have q1 : ∀ M, oIx (namL a0 a1 a2 a3 a4 a5 a6 a7 a8) (.int 1) M = .ok (.str a1) M := fun _ => rfl
  have ad : askD (a0, v) = .tup [.str a0, .int (v : Int)] := rfl
  rw [ad] at re
  obtain ⟨NL, hNL⟩ : ∃ X, namL a0 a1 a2 a3 a4 a5 a6 a7 a8 = X := ⟨_, rfl⟩
  rw [hNL] at re q0 q1 ⊢
  obtain ⟨ROW, hROW⟩ : ∃ X, rwD (askR 0 v what) = X := ⟨_, rfl⟩
  rw [hROW] at ix r2 r3 se ⊢
  obtain ⟨AD, hAD⟩ : ∃ X, D.lst (AK.map rwD) = X := ⟨_, rfl⟩
  rw [hAD] at ol ix ⊢
  obtain ⟨FD, hFD⟩ : ∃ X, D.lst FT = X := ⟨_, rfl⟩
  rw [hFD] at ixf ⊢
  obtain ⟨PD, hPD⟩ : ∃ X, ptD (a0, a3) = X := ⟨_, rfl⟩
  rw [hPD] at se ⊢
  push_cast [L_law_4, ol, dr, ix, r3, q0, r2, ixf, re, q1, se]
end
noncomputable def l5End : FS := (mIfS (tOrM (bOf (mUn (oIsN true) (mMth 3 "answer" 2 g_Kernel_answer [] (mVar 9) (aCons (mCall oLen (aCons (mVar 11) aNil)) aNil)))) (bOf (mUn (oIsN true) (mMth 3 "answer" 2 g_Kernel_answer [] (mVar 9) (aCons (mC (.int 99)) aNil))))) (mRet (mC (.bl false))) mPass)
noncomputable def l5Rest : FS := (mSeq (mFor (iR1 (aCons (mOp (oAdd false) (mC (.int 2)) (mFun 2 g_law_draw [] (aCons (mVar 2) (aCons (mC (.int 3)) aNil)))) aNil)) (gN 10) L_law_0) (mSeq (mSet 11 (mLc false [12] (iSq (mMth 3 "rows" 1 g_Kernel_rows [] (mVar 9) aNil)) (gN 12) T_law_1 C_law_2)) (mSeq (mSet 13 (mLc false [12] (iSq (mVar 11)) (gN 12) tsYes C_law_3)) (mSeq (mFor (iR2 (aCons (mC (.int 2)) (aCons (mC (.int 12)) aNil))) (gN 14) L_law_4) l5End))))
theorem l5_eq : L_law_5 = (mSeq (mSet 2 (mFun 2 g_law_flow [] (aCons (mVar 0) (aCons (mVar 1) aNil)))) (mSeq (mSet 3 (mFun 2 g_law_names [] (aCons (mVar 2) (aCons (mC (.int 9)) aNil)))) (mSeq (mSet 4 (mTup (aCons (mOp oIx (mVar 3) (mC (.int 0))) (aCons (mOp oIx (mVar 3) (mC (.int 3))) aNil)))) (mSeq (mSet 5 (mTup (aCons (mTup (aCons (mOp oIx (mVar 3) (mC (.int 7))) (aCons (mC (.str [111, 119, 110])) (aCons (mTupC (aCons (mTup (aCons (mOp oIx (mVar 3) (mC (.int 8))) (aCons (mOp oIx (mVar 3) (mC (.int 6))) aNil))) aNil)) aNil)))) (aCons (mTup (aCons (mOp oIx (mVar 3) (mC (.int 2))) (aCons (mC (.str [115, 104, 101, 108, 102])) (aCons (mTupC (aCons (mTup (aCons (mOp oIx (mVar 3) (mC (.int 8))) (aCons (mC (.int 3)) aNil))) aNil)) aNil)))) aNil)))) (mSeq (mSet 6 (mTup (aCons (mTup (aCons (mOp oIx (mVar 3) (mC (.int 0))) (aCons (mTup (aCons (mOp oIx (mVar 3) (mC (.int 3))) aNil)) (aCons (mTup aNil) (aCons (mTup (aCons (mOp oIx (mVar 3) (mC (.int 5))) aNil)) aNil))))) (aCons (mTup (aCons (mOp oIx (mVar 3) (mC (.int 1))) (aCons (mTup (aCons (mOp oIx (mVar 3) (mC (.int 4))) aNil)) (aCons (mVar 5) (aCons (mTup (aCons (mOp oIx (mVar 3) (mC (.int 5))) aNil)) aNil))))) aNil)))) (mSeq (mSet 7 (mTup (aCons (mTup (aCons (mTup (aCons (mOp oIx (mVar 3) (mC (.int 0))) (aCons (mOp oIx (mVar 3) (mC (.int 5))) aNil))) (aCons (mTup (aCons (mOp oIx (mVar 3) (mC (.int 6))) aNil)) (aCons (mC (.int 2)) (aCons (mVar 4) (aCons (mC .non) aNil)))))) aNil))) (mSeq (mSet 7 (mOp (oAdd false) (mVar 7) (mTup (aCons (mTup (aCons (mTup (aCons (mOp oIx (mVar 3) (mC (.int 1))) (aCons (mOp oIx (mVar 3) (mC (.int 4))) aNil))) (aCons (mTup (aCons (mC (.str [103, 105, 118, 101])) aNil)) (aCons (mC (.int 1)) (aCons (mVar 4) (aCons (mC .non) aNil)))))) aNil)))) (mSeq (mSet 7 (mOp (oAdd false) (mVar 7) (mTup (aCons (mTup (aCons (mTup (aCons (mOp oIx (mVar 3) (mC (.int 1))) (aCons (mOp oIx (mVar 3) (mC (.int 7))) aNil))) (aCons (mTup (aCons (mC (.str [99, 97, 108, 108])) aNil)) (aCons (mC (.int 1)) (aCons (mVar 4) (aCons (mC .non) aNil)))))) aNil)))) (mSeq (mSet 8 (mTup (aCons (mOp oIx (mVar 3) (mC (.int 1))) (aCons (mOp oIx (mVar 3) (mC (.int 2))) aNil)))) (mSeq (mSet 7 (mOp (oAdd false) (mVar 7) (mTup (aCons (mTup (aCons (mTup (aCons (mOp oIx (mVar 3) (mC (.int 1))) (aCons (mOp oIx (mVar 3) (mC (.int 5))) aNil))) (aCons (mTup (aCons (mOp oIx (mVar 3) (mC (.int 6))) aNil)) (aCons (mC (.int 1)) (aCons (mVar 8) (aCons (mC .non) aNil)))))) aNil)))) (mSeq (mSet 9 (mMake 3 5 g_Kernel___init__ [.int 6, .int 3] (aCons (mTup (aCons (mVar 6) (aCons (mOp (oAdd false) (mVar 7) (mTup (aCons (mTup (aCons (mVar 8) (aCons (mTup (aCons (mC (.str [99, 97, 108, 108])) aNil)) (aCons (mC (.int 1)) (aCons (mVar 4) (aCons (mC .non) aNil)))))) aNil))) aNil))) (aCons (mOp oIx (mVar 3) (mC (.int 0))) aNil)))) l5Rest))))))))))) := rfl
section
variable {M : Mem} {k st w lt op i : Nat} {plan : D} {l AK : List Rw5} {okv : List (KK × D)} {m : Nat} {n0 n3 : Nm} {P : List Pu}
theorem AT.keep (h : AT M k st w lt op plan n0 n3 l AK m P okv) {M' : Mem} (e : ∀ j, j ≠ i → M'[j]? = M[j]?) (hi : i ≠ k ∧ i ≠ st ∧ i ≠ w ∧ i ≠ lt ∧ i ≠ op) : AT M' k st w lt op plan n0 n3 l AK m P okv := by
  obtain ⟨firm, ko⟩ := h.ko
  exact ⟨⟨firm, ko.keep e hi⟩, h.sr, h.ak, h.akl, h.aw, h.px⟩
theorem lots39 (l : List Rw5) (M : Mem) (x0 x1 x2 x3 x4 x5 x6 x7 x8 x9 x10 x11 x13 x14 x15 x16 : Option D) :
    compL (fun _ => True) (gN 12) T_law_1 C_law_2 [x0, x1, x2, x3, x4, x5, x6, x7, x8, x9, x10, x11, none, x13, x14, x15, x16] (l.map rwD) M = .ok ((l.filter fun r => decide (r.w = askN)).map rwD) M :=
  compL_fm (P := fun _ => True) (M := M) trivial rwD (fun r => decide (r.w = askN)) rwD l fun r _ => by
    have w0 := fun M => rw_w r M
    have q1 : ∀ M, oEq false (.str r.w) (.str [97, 115, 107]) M = .ok (.bl (decide (r.w = askN))) M := fun M => str_eq _ _ _
    obtain ⟨RD, hRD⟩ : ∃ X, rwD r = X := ⟨_, rfl⟩
    rw [hRD] at w0 ⊢
    refine ⟨_, rfl, ?_, fun _ => ?_⟩
    · push_cast [T_law_1, w0, q1]
    · push_cast [C_law_2]
variable {a0 a1 a2 a3 a4 a5 a6 a7 a8 : Nm}
theorem end39 (h : TT M k st w lt op i plan a0 a3 m t) (ht : t ≤ 20) (hm : m ≤ 90) {AKD : List D} (akl : AKD.length = m) (x0 x1 x2 x3 x4 x5 x6 x7 x8 x10 x12 x13 x14 x15 x16 : Option D) :
    ∃ M', l5End [x0, x1, x2, x3, x4, x5, x6, x7, x8, some (.ref k), x10, some (.lst AKD), x12, x13, x14, x15, x16] M = .ok (.nx [x0, x1, x2, x3, x4, x5, x6, x7, x8, some (.ref k), x10, some (.lst AKD), x12, x13, x14, x15, x16]) M' := by
  obtain ⟨⟨l, firm, okv, ko, sr, ll, lo⟩, fi⟩ := h
  obtain ⟨M1, e1, k1', le1, old1⟩ := answer_eq ko.ka sr.ask sr.ok (by omega) m
  have k1 : KO M1 k st w lt op plan a0 l l.length [] okv := ko.go k1' fun i hi a _ => old1 i hi a
  obtain ⟨M2, e2, _, _, _⟩ := answer_eq k1.ka sr.ask sr.ok (by omega) 99
  have nm := sr.num
  have n1 : ansOf (asksL l) m = .non := by unfold ansOf; rw [List.getElem?_eq_none (by omega)]
  have n2 : ansOf (asksL l) 99 = .non := by unfold ansOf; rw [List.getElem?_eq_none (by omega)]
  rw [n1] at e1
  rw [n2] at e2
  have e2 : g_Kernel_answer [.ref k, .int 99] M1 = .ok .non M2 := e2
  obtain ⟨kp, hk⟩ := ko.at_
  obtain ⟨kp1, hk1⟩ := k1.at_
  have i0 := insOf_at hk
  have i1 := insOf_at hk1
  have l0 := lk_kn_answer plan (.str a0) (.int 6) (.int 3) (.ref st) (.ref lt) kp (.ref op)
  have l1 := lk_kn_answer plan (.str a0) (.int 6) (.int 3) (.ref st) (.ref lt) kp1 (.ref op)
  have ol : ∀ M, oLen [.lst AKD] M = .ok (.int (m : Int)) M := fun M => by
    have : oLen [.lst AKD] M = .ok (.int (AKD.length : Int)) M := rfl
    rw [this, akl]
  have nn : ∀ M, oIsN true .non M = .ok (.bl false) M := fun _ => rfl
  refine ⟨M2, ?_⟩
  obtain ⟨AD, hAD⟩ : ∃ X, D.lst AKD = X := ⟨_, rfl⟩
  rw [hAD] at ol ⊢
  push_cast [l5End, mMth_eq, i0, l0, ol, e1, nn, i1, l1, e2]
theorem rest39 (h01 : a0 ≠ a1) (h72 : a7 ≠ a2) (w0 : Wd6 a0) (w1 : Wd6 a1) (w2 : Wd6 a2) (w3 : Wd6 a3) (w4 : Wd6 a4) (w5 : Wd6 a5) (w6 : Wd6 a6) (w7 : Wd6 a7) (w8 : Wd6 a8)
    (h : AT M k st w lt op (planD (HHs a0 a1 a2 a3 a4 a5 a6 a7 a8) (QQs a0 a1 a2 a3 a4 a5 a6 a7)) a0 a3 l [] 0 [PP0 a0 a5 a6, PP1 a1 a4, PP2 a1 a7, PP4 a1 a2] []) (hl : l.length ≤ 10) (fi : FI M i) (hi : i ≠ k ∧ i ≠ st ∧ i ≠ w ∧ i ≠ lt ∧ i ≠ op) (x0 x1 x5 x6 x7 x8 x10 x11 x12 x13 x14 x15 x16 : Option D) :
    ∃ M' y10 y11 y12 y13 y14 y15 y16, l5Rest [x0, x1, some (.ref i), some (namL a0 a1 a2 a3 a4 a5 a6 a7 a8), some (ptD (a0, a3)), x5, x6, x7, x8, some (.ref k), x10, x11, x12, x13, x14, x15, x16] M = .ok (.nx [x0, x1, some (.ref i), some (namL a0 a1 a2 a3 a4 a5 a6 a7 a8), some (ptD (a0, a3)), x5, x6, x7, x8, some (.ref k), y10, y11, y12, y13, y14, y15, y16]) M' := by
  obtain ⟨v, M1, v1, f1, ml1, old1, dr⟩ := fi.draw 3 (by omega) (by omega)
  have A1 := h.keep old1 hi
  obtain ⟨env', M2, eA, l2, AK, y10, rfl, A2, l2l, f2⟩ := forL_inv (g := gN 10) (body := L_law_0) (fun j env m' => ∃ l2 AK y10, env = [x0, x1, some (.ref i), some (namL a0 a1 a2 a3 a4 a5 a6 a7 a8), some (ptD (a0, a3)), x5, x6, x7, x8, some (.ref k), y10, x11, x12, x13, x14, x15, x16] ∧ AT m' k st w lt op (planD (HHs a0 a1 a2 a3 a4 a5 a6 a7 a8) (QQs a0 a1 a2 a3 a4 a5 a6 a7)) a0 a3 l2 AK (3 * j) [PP0 a0 a5 a6, PP1 a1 a4, PP2 a1 a7, PP4 a1 a2] [] ∧ l2.length = l.length + 3 * j ∧ FI m' i) (rngItems 0 (2 + v)) 0 [x0, x1, some (.ref i), some (namL a0 a1 a2 a3 a4 a5 a6 a7 a8), some (ptD (a0, a3)), x5, x6, x7, x8, some (.ref k), x10, x11, x12, x13, x14, x15, x16] M1 ⟨l, [], x10, rfl, A1, rfl, f1⟩ (by
    rintro j d env m' hk ⟨l2, AK, y10, rfl, A, ll, f⟩
    obtain ⟨rfl, hj⟩ := rngItems_get hk
    rw [Nat.zero_add] at A ll ⊢
    obtain ⟨M', l', AK', e, A', l'l, le, old⟩ := ask3_turn h01 h72 w0 w1 w2 w3 w4 w6 w7 w8 A (by omega) (by omega) j x0 x1 (some (.ref i)) (some (ptD (a0, a3))) x5 x6 x7 x8 x11 x12 x13 x14 x15 x16
    have f0 := f
    obtain ⟨s, _, hs⟩ := f
    refine ⟨_, M', ?_, l', AK', some (.int (j : Int)), rfl, A', by omega, f0.same (old i (lt_of_get hs) hi.2.1 hi.2.2.1)⟩
    rw [gN_eq, R.bind_ok, show (0 : Int) + (j : Int) = (j : Int) by omega]
    exact e)
  rw [rngItems_len, Nat.zero_add] at A2 l2l
  obtain ⟨m, hmv⟩ : ∃ X, 3 * (2 + v) = X := ⟨_, rfl⟩
  rw [hmv] at A2 l2l
  have hm : 6 ≤ m ∧ m ≤ 12 := by omega
  obtain ⟨firm2, ko2⟩ := A2.ko
  have re := rows_eq ko2.ka
  have c1 := lots39 l2 M2 x0 x1 (some (.ref i)) (some (namL a0 a1 a2 a3 a4 a5 a6 a7 a8)) (some (ptD (a0, a3))) x5 x6 x7 x8 (some (.ref k)) y10 x11 x13 x14 x15 x16
  rw [A2.ak] at c1
  obtain ⟨FT, M3, eF, fl, fY, A3, f3⟩ := compL_inv (g := gN 12) (f := C_law_3) (env := [x0, x1, some (.ref i), some (namL a0 a1 a2 a3 a4 a5 a6 a7 a8), some (ptD (a0, a3)), x5, x6, x7, x8, some (.ref k), y10, some (.lst (AK.map rwD)), none, x13, x14, x15, x16]) (fun _ m' => AT m' k st w lt op (planD (HHs a0 a1 a2 a3 a4 a5 a6 a7 a8) (QQs a0 a1 a2 a3 a4 a5 a6 a7)) a0 a3 l2 AK m [PP0 a0 a5 a6, PP1 a1 a4, PP2 a1 a7, PP4 a1 a2] [] ∧ FI m' i) (fun _ _ y => ∃ v : Nat, v < 4 ∧ y = .int v) (AK.map rwD) 0 M2 ⟨A2, f2⟩ (by
    rintro j d m' hk ⟨A, f⟩
    obtain ⟨u, M', hu, f', _, old, e⟩ := f.draw 4 (by omega) (by omega)
    refine ⟨.int u, M', ?_, ⟨u, by omega, rfl⟩, A.keep old hi, f'⟩
    rw [gN_eq, R.bind_ok]
    obtain ⟨AD, hAD⟩ : ∃ X, D.lst (AK.map rwD) = X := ⟨_, rfl⟩
    rw [hAD]
    obtain ⟨NL, hNL⟩ : ∃ X, namL a0 a1 a2 a3 a4 a5 a6 a7 a8 = X := ⟨_, rfl⟩
    rw [hNL]
    push_cast [C_law_3, e])
  have fv : ∀ y ∈ FT, ∃ v : Nat, v < 4 ∧ y = .int v := fun y hy => allY (Y := fun y => ∃ v : Nat, v < 4 ∧ y = D.int v) fl fY hy
  rw [List.length_map, A2.akl] at fl
  obtain ⟨firm3, ko3⟩ := A3.ko
  have T3 : TT M3 k st w lt op i (planD (HHs a0 a1 a2 a3 a4 a5 a6 a7 a8) (QQs a0 a1 a2 a3 a4 a5 a6 a7)) a0 a3 m 0 := ⟨⟨l2, firm3, [], ko3, A3.sr, by omega, by simp⟩, f3⟩
  obtain ⟨env', M4, eT, y12, y14, y15, y16, rfl, T4⟩ := forL_inv (g := gN 14) (body := L_law_4) (fun j env m' => ∃ y12 y14 y15 y16, env = [x0, x1, some (.ref i), some (namL a0 a1 a2 a3 a4 a5 a6 a7 a8), some (ptD (a0, a3)), x5, x6, x7, x8, some (.ref k), y10, some (.lst (AK.map rwD)), y12, some (.lst FT), y14, y15, y16] ∧ TT m' k st w lt op i (planD (HHs a0 a1 a2 a3 a4 a5 a6 a7 a8) (QQs a0 a1 a2 a3 a4 a5 a6 a7)) a0 a3 m j) (rngItems 2 10) 0 [x0, x1, some (.ref i), some (namL a0 a1 a2 a3 a4 a5 a6 a7 a8), some (ptD (a0, a3)), x5, x6, x7, x8, some (.ref k), y10, some (.lst (AK.map rwD)), x12, some (.lst FT), x14, x15, x16] M3 ⟨_, _, _, _, rfl, T3⟩ (by
    rintro j d env m' hk ⟨y12, y14, y15, y16, rfl, T⟩
    obtain ⟨rfl, hj⟩ := rngItems_get hk
    rw [Nat.zero_add] at T ⊢
    obtain ⟨M', z12, z15, z16, e, T'⟩ := tick39 T (by omega) hi (by omega) (by omega) w0 w1 w3 w5 w6 A2.akl A2.aw fl fv (2 + j) (by omega) x0 x1 x5 x6 x7 x8 y10 y12 y15 y16 (a2 := a2) (a4 := a4) (a7 := a7) (a8 := a8)
    refine ⟨_, M', ?_, z12, some (.int ((2 + j : Nat) : Int)), z15, z16, rfl, T'⟩
    rw [gN_eq, R.bind_ok, show (2 : Int) + (j : Int) = ((2 + j : Nat) : Int) by omega]
    exact e)
  rw [rngItems_len, Nat.zero_add] at T4
  obtain ⟨M5, eE⟩ := end39 T4 (by omega) (by omega) (AKD := AK.map rwD) (by rw [List.length_map, A2.akl]) x0 x1 (some (.ref i)) (some (namL a0 a1 a2 a3 a4 a5 a6 a7 a8)) (some (ptD (a0, a3))) x5 x6 x7 x8 y10 y12 (some (.lst FT)) y14 y15 y16
  refine ⟨M5, y10, some (.lst (AK.map rwD)), y12, some (.lst FT), y14, y15, y16, ?_⟩
  have ro : rngOk ((2 + v : Nat) : Int) = true := rngOk_of (by omega) (by omega)
  have tc : ((2 + v : Nat) : Int).toNat = 2 + v := by omega
  have sm : (2 : Int) + (v : Int) = ((2 + v : Nat) : Int) := by omega
  have ro2 : rngOk 2 = true := rngOk_of (by omega) (by omega)
  have ro12 : rngOk 12 = true := rngOk_of (by omega) (by omega)
  have t10 : ((12 : Int) - 2).toNat = 10 := by decide
  have wp : ∀ a b c d e f g h i j k l x n o p q : Option D, wipeE [a, b, c, d, e, f, g, h, i, j, k, l, x, n, o, p, q] [12] = [a, b, c, d, e, f, g, h, i, j, k, l, none, n, o, p, q] := fun _ _ _ _ _ _ _ _ _ _ _ _ _ _ _ _ _ => rfl
  obtain ⟨kp, hk⟩ := ko2.at_
  have i2 := insOf_at hk
  obtain ⟨PLN, hPLN⟩ : ∃ X, planD (HHs a0 a1 a2 a3 a4 a5 a6 a7 a8) (QQs a0 a1 a2 a3 a4 a5 a6 a7) = X := ⟨_, rfl⟩
  rw [hPLN] at i2
  have l0 := lk_kn_rows PLN (.str a0) (.int 6) (.int 3) (.ref st) (.ref lt) kp (.ref op)
  have ll1 : (l2.map rwD).length < 16777216 := by rw [List.length_map]; omega
  have ll2 : (AK.map rwD).length < 16777216 := by rw [List.length_map, A2.akl]; omega
  obtain ⟨NL, hNL⟩ : ∃ X, namL a0 a1 a2 a3 a4 a5 a6 a7 a8 = X := ⟨_, rfl⟩
  rw [hNL] at eA c1 eF eT eE ⊢
  obtain ⟨PD, hPD⟩ : ∃ X, ptD (a0, a3) = X := ⟨_, rfl⟩
  rw [hPD] at eA c1 eF eT eE ⊢
  obtain ⟨LD, hLD⟩ : ∃ X, l2.map rwD = X := ⟨_, rfl⟩
  rw [hLD] at re c1 ll1
  obtain ⟨AD, hAD⟩ : ∃ X, AK.map rwD = X := ⟨_, rfl⟩
  rw [hAD] at c1 eF eT eE ll2 ⊢
  have s1 : ∀ M, srcOf M (.tup LD) = some ⟨LD, fun _ => True⟩ := fun _ => rfl
  have s2 : ∀ M, srcOf M (.lst AD) = some ⟨AD, fun _ => True⟩ := fun _ => rfl
  push_cast [l5Rest, mFor_eq, dr, sm, ro, tc, eA, mLc_eq, mMth_eq, i2, l0, re, s1, if_pos ll1, wp, c1, s2, if_pos ll2, eF, ro2, ro12, t10, eT, eE]
end
theorem nine {F : List Nm} (h : F.length = 9) : ∃ a0 a1 a2 a3 a4 a5 a6 a7 a8, F = [a0, a1, a2, a3, a4, a5, a6, a7, a8] := by
  match F, h with
  | [a0, a1, a2, a3, a4, a5, a6, a7, a8], _ => exact ⟨a0, a1, a2, a3, a4, a5, a6, a7, a8, rfl⟩
theorem nm_6 {w : Nm} (h : bw w) : Wd6 w := by
  obtain ⟨h1, h2, h3⟩ := isNm_iff.mp h
  refine ⟨h2, fun c hc => ?_⟩
  have := h3 c hc
  have all : ∀ c ∈ abc, c < 1000000 := by decide
  exact all c this
theorem turn39 (ns : List Int) (n : Nat) (hn : n < 1000) (M : Mem) (x2 x3 x4 x5 x6 x7 x8 x9 x10 x11 x12 x13 x14 x15 x16 : Option D) :
    ∃ M' y2 y3 y4 y5 y6 y7 y8 y9 y10 y11 y12 y13 y14 y15 y16, L_law_5 [some (.fz (intsD ns)), some (.int (n : Int)), x2, x3, x4, x5, x6, x7, x8, x9, x10, x11, x12, x13, x14, x15, x16] M = .ok (.nx [some (.fz (intsD ns)), some (.int (n : Int)), y2, y3, y4, y5, y6, y7, y8, y9, y10, y11, y12, y13, y14, y15, y16]) M' := by
  obtain ⟨s, hs, ef⟩ := flow_eq ns n M hn
  have f0 : FlAt (M ++ [s.c]) M.length (M ++ [s.c]) := FlAt.start hs (by simp)
  obtain ⟨F, M1, Fw, Fn, Fl, f1, en⟩ := names_eq f0 9 (by omega)
  obtain ⟨a0, a1, a2, a3, a4, a5, a6, a7, a8, rfl⟩ := nine Fl
  have W : ∀ w ∈ [a0, a1, a2, a3, a4, a5, a6, a7, a8], Wd6 w := fun w hw => nm_6 (Fw w hw)
  have h01 : a0 ≠ a1 := fun z => by subst z; simp at Fn
  have h72 : a7 ≠ a2 := fun z => by subst z; simp at Fn
  have w0 : Wd6 a0 := W _ (by simp)
  have w1 : Wd6 a1 := W _ (by simp)
  have w2 : Wd6 a2 := W _ (by simp)
  have w3 : Wd6 a3 := W _ (by simp)
  have w4 : Wd6 a4 := W _ (by simp)
  have w5 : Wd6 a5 := W _ (by simp)
  have w6 : Wd6 a6 := W _ (by simp)
  have w7 : Wd6 a7 := W _ (by simp)
  have w8 : Wd6 a8 := W _ (by simp)
  have m1l : M1.length = M.length + 1 := by rw [f1.len]; simp
  obtain ⟨s', hs', hf1, _⟩ := f1.get
  have pa : PaOk (QQs a0 a1 a2 a3 a4 a5 a6 a7) := fun k g hk p hp => by
    have hm := List.mem_of_getElem? hk
    unfold QQs at hm
    simp only [List.mem_cons, List.not_mem_nil, or_false] at hm
    rcases hm with z | z | z | z | z <;> rw [z] at hp <;> cases hp
  obtain ⟨M2, ki, m2l, _, ⟨J, hJ⟩, ko⟩ := kernel_init2 (Q := QQs a0 a1 a2 a3 a4 a5 a6 a7) (by simp [QQs]) pa (HHs a0 a1 a2 a3 a4 a5 a6 a7 a8) a0 M1
  rw [bgW_eq h01] at ko
  have fi : FI M2 M.length := ⟨s', hs', by rw [hJ, List.getElem?_append_left (by omega)]; exact hf1⟩
  have sr := LL0_sr h01 w0 w1 w2 w3 w4 w5 w6 w7
  have at0 : AT M2 M1.length (M1.length + 1) (M1.length + 2) (M1.length + 3) (M1.length + 5) (planD (HHs a0 a1 a2 a3 a4 a5 a6 a7 a8) (QQs a0 a1 a2 a3 a4 a5 a6 a7)) a0 a3 (LL0 a0 a1 a2 a3 a4 a5 a6 a7) [] 0 [PP0 a0 a5 a6, PP1 a1 a4, PP2 a1 a7, PP4 a1 a2] [] := by
    refine ⟨⟨_, ko⟩, sr, ?_, rfl, fun j r hj => by simp at hj, LL0_puts⟩
    apply List.filter_eq_nil_iff.mpr
    intro r hr
    rcases LL0_mem hr with ⟨g, rfl⟩ | ⟨x, _, rfl⟩
    · exact (by decide : ¬ decide (rootN = askN) = true)
    · exact (by decide : ¬ decide (putN = askN) = true)
  have ki : g_Kernel___init__ [.ref M1.length, .tup [.tup [.tup [.str a0, .tup [.str a3], .tup [], .tup [.str a5]], .tup [.str a1, .tup [.str a4], .tup [.tup [.str a7, .str [111, 119, 110], .ct [.tup [.str a8, .str a6]]], .tup [.str a2, .str [115, 104, 101, 108, 102], .ct [.tup [.str a8, .int 3]]]], .tup [.str a5]]],
      .tup [.tup [.tup [.str a0, .str a5], .tup [.str a6], .int 2, .tup [.str a0, .str a3], .non], .tup [.tup [.str a1, .str a4], .tup [.str [103, 105, 118, 101]], .int 1, .tup [.str a0, .str a3], .non], .tup [.tup [.str a1, .str a7], .tup [.str [99, 97, 108, 108]], .int 1, .tup [.str a0, .str a3], .non], .tup [.tup [.str a1, .str a5], .tup [.str a6], .int 1, .tup [.str a1, .str a2], .non], .tup [.tup [.str a1, .str a2], .tup [.str [99, 97, 108, 108]], .int 1, .tup [.str a0, .str a3], .non]]], .str a0, .int 6, .int 3] (M1 ++ [.ins 3 []]) = .ok .non M2 := ki
  obtain ⟨M3, y10, y11, y12, y13, y14, y15, y16, er⟩ := rest39 h01 h72 w0 w1 w2 w3 w4 w5 w6 w7 w8 at0 (by simp [LL0]) fi (by omega) (some (.fz (intsD ns))) (some (.int (n : Int)))
    (some (.tup [.tup [.str a7, .str [111, 119, 110], .ct [.tup [.str a8, .str a6]]], .tup [.str a2, .str [115, 104, 101, 108, 102], .ct [.tup [.str a8, .int 3]]]]))
    (some (.tup [.tup [.str a0, .tup [.str a3], .tup [], .tup [.str a5]], .tup [.str a1, .tup [.str a4], .tup [.tup [.str a7, .str [111, 119, 110], .ct [.tup [.str a8, .str a6]]], .tup [.str a2, .str [115, 104, 101, 108, 102], .ct [.tup [.str a8, .int 3]]]], .tup [.str a5]]]))
    (some (.tup [.tup [.tup [.str a0, .str a5], .tup [.str a6], .int 2, .tup [.str a0, .str a3], .non], .tup [.tup [.str a1, .str a4], .tup [.str [103, 105, 118, 101]], .int 1, .tup [.str a0, .str a3], .non], .tup [.tup [.str a1, .str a7], .tup [.str [99, 97, 108, 108]], .int 1, .tup [.str a0, .str a3], .non], .tup [.tup [.str a1, .str a5], .tup [.str a6], .int 1, .tup [.str a1, .str a2], .non]]))
    (some (.tup [.str a1, .str a2])) x10 x11 x12 x13 x14 x15 x16
  have hol : ptD (a0, a3) = .tup [.str a0, .str a3] := rfl
  rw [hol] at er
  have en : g_law_names [.ref M.length, .int 9] (M ++ [s.c]) = .ok (namL a0 a1 a2 a3 a4 a5 a6 a7 a8) M1 := en
  have q0 : ∀ M, oIx (namL a0 a1 a2 a3 a4 a5 a6 a7 a8) (.int 0) M = .ok (.str a0) M := fun _ => rfl
  have q1 : ∀ M, oIx (namL a0 a1 a2 a3 a4 a5 a6 a7 a8) (.int 1) M = .ok (.str a1) M := fun _ => rfl
  have q2 : ∀ M, oIx (namL a0 a1 a2 a3 a4 a5 a6 a7 a8) (.int 2) M = .ok (.str a2) M := fun _ => rfl
  have q3 : ∀ M, oIx (namL a0 a1 a2 a3 a4 a5 a6 a7 a8) (.int 3) M = .ok (.str a3) M := fun _ => rfl
  have q4 : ∀ M, oIx (namL a0 a1 a2 a3 a4 a5 a6 a7 a8) (.int 4) M = .ok (.str a4) M := fun _ => rfl
  have q5 : ∀ M, oIx (namL a0 a1 a2 a3 a4 a5 a6 a7 a8) (.int 5) M = .ok (.str a5) M := fun _ => rfl
  have q6 : ∀ M, oIx (namL a0 a1 a2 a3 a4 a5 a6 a7 a8) (.int 6) M = .ok (.str a6) M := fun _ => rfl
  have q7 : ∀ M, oIx (namL a0 a1 a2 a3 a4 a5 a6 a7 a8) (.int 7) M = .ok (.str a7) M := fun _ => rfl
  have q8 : ∀ M, oIx (namL a0 a1 a2 a3 a4 a5 a6 a7 a8) (.int 8) M = .ok (.str a8) M := fun _ => rfl
  obtain ⟨NL, hNL⟩ : ∃ X, namL a0 a1 a2 a3 a4 a5 a6 a7 a8 = X := ⟨_, rfl⟩
  rw [hNL] at en q0 q1 q2 q3 q4 q5 q6 q7 q8 er
  refine ⟨M3, some (.ref M.length), some NL, some (.tup [.str a0, .str a3]), some (.tup [.tup [.str a7, .str [111, 119, 110], .ct [.tup [.str a8, .str a6]]], .tup [.str a2, .str [115, 104, 101, 108, 102], .ct [.tup [.str a8, .int 3]]]]), some (.tup [.tup [.str a0, .tup [.str a3], .tup [], .tup [.str a5]], .tup [.str a1, .tup [.str a4], .tup [.tup [.str a7, .str [111, 119, 110], .ct [.tup [.str a8, .str a6]]], .tup [.str a2, .str [115, 104, 101, 108, 102], .ct [.tup [.str a8, .int 3]]]], .tup [.str a5]]]), some (.tup [.tup [.tup [.str a0, .str a5], .tup [.str a6], .int 2, .tup [.str a0, .str a3], .non], .tup [.tup [.str a1, .str a4], .tup [.str [103, 105, 118, 101]], .int 1, .tup [.str a0, .str a3], .non], .tup [.tup [.str a1, .str a7], .tup [.str [99, 97, 108, 108]], .int 1, .tup [.str a0, .str a3], .non], .tup [.tup [.str a1, .str a5], .tup [.str a6], .int 1, .tup [.str a1, .str a2], .non]]), some (.tup [.str a1, .str a2]), some (.ref M1.length), y10, y11, y12, y13, y14, y15, y16, ?_⟩
  push_cast [l5_eq, ef, en, mTupC_eq, q0, q1, q2, q3, q4, q5, q6, q7, q8, oAddTT, mMake_eq, ki, er]
theorem law_holds : ∀ ns : List Int, ns.length ≤ 63 → ∃ m, g_law [.fz (ns.map .int)] [] = .ok (.bl true) m := by
  intro ns hn
  show ∃ m, g_law [.fz (intsD ns)] [] = .ok (.bl true) m
  have il : (intsD ns).length = ns.length := by simp [intsD]
  obtain ⟨c, hc, hm1, hm2⟩ : ∃ c : Nat, c ≤ 2 ∧ (∀ M, oMin [.int 2, .int (ns.length : Int)] M = .ok (.int (min 2 ns.length : Nat)) M) ∧ (∀ M, oMax [.int 1, .int (min 2 ns.length : Nat)] M = .ok (.int (c : Int)) M) := by
    refine ⟨max 1 (min 2 ns.length), by omega, fun M => ?_, fun M => ?_⟩
    · rw [oMin_int]; congr 2; split <;> omega
    · rw [oMax_int]; congr 2; split <;> omega
  obtain ⟨env', M1, e1, x1, x2, x3, x4, x5, x6, x7, x8, x9, x10, x11, x12, x13, x14, x15, x16, rfl⟩ := forL_inv (g := gN 1) (body := L_law_5) (fun _ env m' => ∃ x1 x2 x3 x4 x5 x6 x7 x8 x9 x10 x11 x12 x13 x14 x15 x16, env = [some (.fz (intsD ns)), x1, x2, x3, x4, x5, x6, x7, x8, x9, x10, x11, x12, x13, x14, x15, x16]) (rngItems 0 c) 0 [some (.fz (intsD ns)), none, none, none, none, none, none, none, none, none, none, none, none, none, none, none, none] [] ⟨_, _, _, _, _, _, _, _, _, _, _, _, _, _, _, _, rfl⟩ (by
    rintro j d env m' hk ⟨x1, x2, x3, x4, x5, x6, x7, x8, x9, x10, x11, x12, x13, x14, x15, x16, rfl⟩
    obtain ⟨rfl, hj⟩ := rngItems_get hk
    obtain ⟨M', y2, y3, y4, y5, y6, y7, y8, y9, y10, y11, y12, y13, y14, y15, y16, e⟩ := turn39 ns j (by omega) m' x2 x3 x4 x5 x6 x7 x8 x9 x10 x11 x12 x13 x14 x15 x16
    refine ⟨_, M', ?_, some (.int (j : Int)), y2, y3, y4, y5, y6, y7, y8, y9, y10, y11, y12, y13, y14, y15, y16, rfl⟩
    rw [gN_eq, R.bind_ok, show (0 : Int) + (j : Int) = (j : Int) by omega]
    exact e)
  refine ⟨M1, runB_rt (N := 17) (?_ : B_law [some (.fz (intsD ns)), none, none, none, none, none, none, none, none, none, none, none, none, none, none, none, none] [] = _)⟩
  have ro : rngOk (c : Int) = true := rngOk_of (by omega) (by omega)
  have tc : (c : Int).toNat = c := by omega
  have ol : ∀ M, oLen [.fz (intsD ns)] M = .ok (.int (ns.length : Int)) M := fun M => by rw [oLen_fz, il]
  push_cast [B_law, ol, hm1, hm2, mFor_eq, ro, tc, e1]
end K39
set_option pp.deepTerms false
set_option pp.maxSteps 400
set_option Elab.async false
set_option linter.all false
set_option maxRecDepth 100000
set_option maxHeartbeats 4000000
namespace K39
open PySem PySem.Spec PyProof.Rows L2 Fn
set_option genInjectivity false
set_option genSizeOf false
def _root_.PySem.W.Fast.tw17412448613469259580 : Nat := 0
def _root_.PySem.W.Fast.tw5890220584695410444 : Nat := 0
def _root_.PySem.W.Fast.tw15723686656926797907 : Nat := 0
def _root_.PySem.W.Fast.tw2816634833764410702 : Nat := 0
def _root_.PySem.W.Fast.tw60897531125045085 : Nat := 0
def _root_.PySem.W.Fast.tw16918418349167673604 : Nat := 0
def _root_.PySem.W.Fast.tw9026394099922370289 : Nat := 0
def _root_.PySem.W.Fast.tw2792677172807377927 : Nat := 0
def _root_.PySem.W.Fast.tw1061060460707111488 : Nat := 0
def _root_.PySem.W.Fast.tw8389600848481653584 : Nat := 0
def _root_.PySem.W.Fast.tw13395971984307328578 : Nat := 0
def _root_.PySem.W.Fast.tw15759446537795845677 : Nat := 0
def _root_.PySem.W.Fast.tw18376749935487368197 : Nat := 0
def _root_.PySem.W.Fast.tw14398018215972448019 : Nat := 0
/-- what the top has written -/
structure Tx (K : PySem.W.Frag) (mg : Str → Option Value) (cl : Nat → Addr) where
  a_root_numbers : Addr
  d_root_numbers : FuncData
  f_root_numbers : Fun K "root_numbers" "root_numbers" s_root_numbers a_root_numbers d_root_numbers
  m_root_numbers : mg "root_numbers" = some (.ref a_root_numbers)
  b_root_numbers : Binds K d_root_numbers ["plan"] []
  a_Table___init__ : Addr
  d_Table___init__ : FuncData
  f_Table___init__ : Fun K "__init__" "Table.__init__" s_Table___init__ a_Table___init__ d_Table___init__
  b_Table___init__ : Binds K d_Table___init__ ["self"] []
  a_Table_free_place : Addr
  d_Table_free_place : FuncData
  f_Table_free_place : Fun K "free_place" "Table.free_place" s_Table_free_place a_Table_free_place d_Table_free_place
  me_Table_free_place : Meth K (cl 0) "free_place" a_Table_free_place
  b_Table_free_place : Binds K d_Table_free_place ["self"] []
  a_Table_leads : Addr
  d_Table_leads : FuncData
  f_Table_leads : Fun K "leads" "Table.leads" s_Table_leads a_Table_leads d_Table_leads
  me_Table_leads : Meth K (cl 0) "leads" a_Table_leads
  b_Table_leads : Binds K d_Table_leads ["self", "handle"] []
  a_Table_handles : Addr
  d_Table_handles : FuncData
  f_Table_handles : Fun K "handles" "Table.handles" s_Table_handles a_Table_handles d_Table_handles
  me_Table_handles : Meth K (cl 0) "handles" a_Table_handles
  b_Table_handles : Binds K d_Table_handles ["self"] []
  a_ever : Addr
  d_ever : FuncData
  f_ever : Fun K "ever" "ever" s_ever a_ever d_ever
  m_ever : mg "ever" = some (.ref a_ever)
  b_ever : Binds K d_ever ["rows", "being"] []
  a_asks : Addr
  d_asks : FuncData
  f_asks : Fun K "asks" "asks" s_asks a_asks d_asks
  m_asks : mg "asks" = some (.ref a_asks)
  b_asks : Binds K d_asks ["rows"] []
  a_beings : Addr
  d_beings : FuncData
  f_beings : Fun K "beings" "beings" s_beings a_beings d_beings
  m_beings : mg "beings" = some (.ref a_beings)
  b_beings : Binds K d_beings ["plan"] []
  a_servant_at : Addr
  d_servant_at : FuncData
  f_servant_at : Fun K "servant_at" "servant_at" s_servant_at a_servant_at d_servant_at
  m_servant_at : mg "servant_at" = some (.ref a_servant_at)
  b_servant_at : Binds K d_servant_at ["plan", "place"] []
  a_Stone___init__ : Addr
  d_Stone___init__ : FuncData
  f_Stone___init__ : FunV K "__init__" "Stone.__init__" s_Stone___init__ a_Stone___init__ d_Stone___init__
  b_Stone___init__ : Binds K d_Stone___init__ ["self", "rows"] []
  a_Stone_write : Addr
  d_Stone_write : FuncData
  f_Stone_write : Fun K "write" "Stone.write" s_Stone_write a_Stone_write d_Stone_write
  me_Stone_write : Meth K (cl 2) "write" a_Stone_write
  b_Stone_write : Binds K d_Stone_write ["self", "row"] []
  a_Stone_settle : Addr
  d_Stone_settle : FuncData
  f_Stone_settle : Fun K "settle" "Stone.settle" s_Stone_settle a_Stone_settle d_Stone_settle
  me_Stone_settle : Meth K (cl 2) "settle" a_Stone_settle
  b_Stone_settle : Binds K d_Stone_settle ["self"] []
  a_Stone_rows : Addr
  d_Stone_rows : FuncData
  f_Stone_rows : Fun K "rows" "Stone.rows" s_Stone_rows a_Stone_rows d_Stone_rows
  me_Stone_rows : Meth K (cl 2) "rows" a_Stone_rows
  b_Stone_rows : Binds K d_Stone_rows ["self"] []
  a_law_cell : Addr
  d_law_cell : FuncData
  f_law_cell : Fun K "_law_cell" "_law_cell" s_law_cell a_law_cell d_law_cell
  m_law_cell : mg "_law_cell" = some (.ref a_law_cell)
  b_law_cell : Binds K d_law_cell ["_law_script", "_law_k"] []
  a_law_draw : Addr
  d_law_draw : FuncData
  f_law_draw : Fun K "_law_draw" "_law_draw" s_law_draw a_law_draw d_law_draw
  m_law_draw : mg "_law_draw" = some (.ref a_law_draw)
  b_law_draw : Binds K d_law_draw ["_law_flow_here", "_law_many"] []
  a_law_handles : Addr
  d_law_handles : FuncData
  f_law_handles : Fun K "_law_handles" "_law_handles" s_law_handles a_law_handles d_law_handles
  m_law_handles : mg "_law_handles" = some (.ref a_law_handles)
  b_law_handles : Binds K d_law_handles ["_law_rows", "_law_being"] []
  a_Table_put : Addr
  d_Table_put : FuncData
  f_Table_put : Fun K "put" "Table.put" s_Table_put a_Table_put d_Table_put
  me_Table_put : Meth K (cl 0) "put" a_Table_put
  b_Table_put : Binds K d_Table_put ["self", "house", "number"] []
  a_Table_drop : Addr
  d_Table_drop : FuncData
  f_Table_drop : Fun K "drop" "Table.drop" s_Table_drop a_Table_drop d_Table_drop
  me_Table_drop : Meth K (cl 0) "drop" a_Table_drop
  b_Table_drop : Binds K d_Table_drop ["self", "handle"] []
  a_put_row : Addr
  d_put_row : FuncData
  f_put_row : Fun K "put_row" "put_row" s_put_row a_put_row d_put_row
  m_put_row : mg "put_row" = some (.ref a_put_row)
  b_put_row : Binds K d_put_row ["rows", "tick", "house", "what"] []
  a_first_rows : Addr
  d_first_rows : FuncData
  f_first_rows : Fun K "first_rows" "first_rows" s_first_rows a_first_rows d_first_rows
  m_first_rows : mg "first_rows" = some (.ref a_first_rows)
  b_first_rows : Binds K d_first_rows ["plan", "house"] []
  a_Kernel_rows : Addr
  d_Kernel_rows : FuncData
  f_Kernel_rows : Fun K "rows" "Kernel.rows" s_Kernel_rows a_Kernel_rows d_Kernel_rows
  me_Kernel_rows : Meth K (cl 3) "rows" a_Kernel_rows
  b_Kernel_rows : Binds K d_Kernel_rows ["self"] []
  a_Kernel_wrote : Addr
  d_Kernel_wrote : FuncData
  f_Kernel_wrote : Fun K "wrote" "Kernel.wrote" s_Kernel_wrote a_Kernel_wrote d_Kernel_wrote
  me_Kernel_wrote : Meth K (cl 3) "wrote" a_Kernel_wrote
  b_Kernel_wrote : Binds K d_Kernel_wrote ["self", "row"] []
  a_Kernel_answer : Addr
  d_Kernel_answer : FuncData
  f_Kernel_answer : Fun K "answer" "Kernel.answer" s_Kernel_answer a_Kernel_answer d_Kernel_answer
  me_Kernel_answer : Meth K (cl 3) "answer" a_Kernel_answer
  b_Kernel_answer : Binds K d_Kernel_answer ["self", "count"] []
  a_law_flow : Addr
  d_law_flow : FuncData
  f_law_flow : Fun K "_law_flow" "_law_flow" s_law_flow a_law_flow d_law_flow
  m_law_flow : mg "_law_flow" = some (.ref a_law_flow)
  b_law_flow : Binds K d_law_flow ["_law_script", "_law_k"] []
  a_law_names : Addr
  d_law_names : FuncData
  f_law_names : Fun K "_law_names" "_law_names" s_law_names a_law_names d_law_names
  m_law_names : mg "_law_names" = some (.ref a_law_names)
  b_law_names : Binds K d_law_names ["_law_flow_here", "_law_many"] []
  a_law_reply : Addr
  d_law_reply : FuncData
  f_law_reply : Fun K "_law_reply" "_law_reply" s_law_reply a_law_reply d_law_reply
  m_law_reply : mg "_law_reply" = some (.ref a_law_reply)
  b_law_reply : Binds K d_law_reply ["_law_flow_here", "_law_what", "_law_ask", "_law_lots"] []
  a_replayed : Addr
  d_replayed : FuncData
  f_replayed : Fun K "replayed" "replayed" s_replayed a_replayed d_replayed
  m_replayed : mg "replayed" = some (.ref a_replayed)
  b_replayed : Binds K d_replayed ["rows", "being"] []
  a_Kernel___init__ : Addr
  d_Kernel___init__ : FuncData
  f_Kernel___init__ : Fun K "__init__" "Kernel.__init__" s_Kernel___init__ a_Kernel___init__ d_Kernel___init__
  a_Kernel_asked : Addr
  d_Kernel_asked : FuncData
  f_Kernel_asked : Fun K "asked" "Kernel.asked" s_Kernel_asked a_Kernel_asked d_Kernel_asked
  me_Kernel_asked : Meth K (cl 3) "asked" a_Kernel_asked
  b_Kernel_asked : Binds K d_Kernel_asked ["self", "tick", "what"] []
  a_Kernel_take_said : Addr
  d_Kernel_take_said : FuncData
  f_Kernel_take_said : Fun K "take_said" "Kernel.take_said" s_Kernel_take_said a_Kernel_take_said d_Kernel_take_said
  me_Kernel_take_said : Meth K (cl 3) "take_said" a_Kernel_take_said
  b_Kernel_take_said : Binds K d_Kernel_take_said ["self", "sender", "what", "tick"] []
  a_table : Addr
  d_table : FuncData
  f_table : Fun K "table" "table" s_table a_table d_table
  m_table : mg "table" = some (.ref a_table)
  b_table : Binds K d_table ["rows", "being"] []
  a_Kernel_take : Addr
  d_Kernel_take : FuncData
  f_Kernel_take : Fun K "take" "Kernel.take" s_Kernel_take a_Kernel_take d_Kernel_take
  me_Kernel_take : Meth K (cl 3) "take" a_Kernel_take
  b_Kernel_take : Binds K d_Kernel_take ["self", "sender", "what", "tick"] []
  a_Kernel_led : Addr
  d_Kernel_led : FuncData
  f_Kernel_led : Fun K "led" "Kernel.led" s_Kernel_led a_Kernel_led d_Kernel_led
  me_Kernel_led : Meth K (cl 3) "led" a_Kernel_led
  b_Kernel_led : Binds K d_Kernel_led ["self", "person", "handle"] []
  a_Kernel_table : Addr
  d_Kernel_table : FuncData
  f_Kernel_table : Fun K "table" "Kernel.table" s_Kernel_table a_Kernel_table d_Kernel_table
  me_Kernel_table : Meth K (cl 3) "table" a_Kernel_table
  b_Kernel_table : Binds K d_Kernel_table ["self", "person"] []
  a_Kernel_hand : Addr
  d_Kernel_hand : FuncData
  f_Kernel_hand : Fun K "hand" "Kernel.hand" s_Kernel_hand a_Kernel_hand d_Kernel_hand
  me_Kernel_hand : Meth K (cl 3) "hand" a_Kernel_hand
  b_Kernel_hand : Binds K d_Kernel_hand ["self", "person", "handle", "way", "rights", "far", "tick"] []
  a_Kernel_cut : Addr
  d_Kernel_cut : FuncData
  f_Kernel_cut : Fun K "cut" "Kernel.cut" s_Kernel_cut a_Kernel_cut d_Kernel_cut
  me_Kernel_cut : Meth K (cl 3) "cut" a_Kernel_cut
  b_Kernel_cut : Binds K d_Kernel_cut ["self", "person", "own", "number", "tick"] []
  a_Kernel_call : Addr
  d_Kernel_call : FuncData
  f_Kernel_call : Fun K "call" "Kernel.call" s_Kernel_call a_Kernel_call d_Kernel_call
  me_Kernel_call : Meth K (cl 3) "call" a_Kernel_call
  b_Kernel_call : Binds K d_Kernel_call ["self", "person", "way", "word", "what", "tick"] []
  a_law_said_right : Addr
  d_law_said_right : FuncData
  f_law_said_right : Fun K "_law_said_right" "_law_said_right" s_law_said_right a_law_said_right d_law_said_right
  m_law_said_right : mg "_law_said_right" = some (.ref a_law_said_right)
  b_law_said_right : Binds K d_law_said_right ["_law_kernel", "_law_holder", "_law_row", "_law_lots"] []
  a_law : Addr
  d_law : FuncData
  f_law : Fun K "law" "law" s_law a_law d_law
  m_law : mg "law" = some (.ref a_law)
  b_law : Binds K d_law ["_law_script"] []
  m_table_replay : mg "table_replay" = some (.ref a_table)
  cls_Table : Cls K (cl 0)
  c_Table : mg "Table" = some (.ref (cl 0))
  cls_Stone : Cls K (cl 2)
  c_Stone : mg "Stone" = some (.ref (cl 2))
  cls_Kernel : Cls K (cl 3)
  c_Kernel : mg "Kernel" = some (.ref (cl 3))
  mk_Table : Mk K (cl 0) a_Table___init__
  mk_Stone : Mk K (cl 2) a_Stone___init__
  mk_Kernel : Mk K (cl 3) a_Kernel___init__
  na_Table_used : NoAttr K (cl 0) "used"
  na_Table_there : NoAttr K (cl 0) "there"
  na_Table_known : NoAttr K (cl 0) "known"
  na_Stone_written : NoAttr K (cl 2) "written"
  na_Stone_firm : NoAttr K (cl 2) "firm"
  na_Kernel_stone : NoAttr K (cl 3) "stone"
  na_Kernel_plan : NoAttr K (cl 3) "plan"
  na_Kernel_house : NoAttr K (cl 3) "house"
  na_Kernel_lease : NoAttr K (cl 3) "lease"
  na_Kernel_every : NoAttr K (cl 3) "every"
  na_Kernel_letters : NoAttr K (cl 3) "letters"
  na_Kernel_kept : NoAttr K (cl 3) "kept"
  na_Kernel_opened : NoAttr K (cl 3) "opened"
  dv_Kernel___init___2 : List Value
  du_Kernel___init___2 : List V
  bd_Kernel___init___2 : Binds K d_Kernel___init__ ["self", "plan", "house", "lease", "again"] dv_Kernel___init___2
  vd_Kernel___init___2 : Vals du_Kernel___init___2 dv_Kernel___init___2
  cd_Kernel___init___2 : ClosedK K cl [.int 6, .int 3] du_Kernel___init___2
  n_abs : mg "abs" = none
  n_enumerate : mg "enumerate" = none
  n_int : mg "int" = none
  n_len : mg "len" = none
  n_list : mg "list" = none
  n_max : mg "max" = none
  n_min : mg "min" = none
  n_range : mg "range" = none
  n_repr : mg "repr" = none
  n_sorted : mg "sorted" = none
  n_tuple : mg "tuple" = none
section
variable {P : Program} {w : World} {K : PySem.W.Frag} {mg : Str → Option Value} {base : Heap} {cl : Nat → Addr}
theorem ok_root_numbers (T : Tx K mg cl) : FnOk P w K mg base CX0 1 T.a_root_numbers T.d_root_numbers ["plan"] (spOf ⟨K, cl⟩ 1 g_root_numbers) := by
  refine fn_def (B := B_root_numbers) T.f_root_numbers sc_root_numbers (fun cdv A outer s H E hr => ?_) (fun ds M _ => ref_gc B_root_numbers 9 ds M)
  have hu := huE hr
  have hu1 := hu1E hr
  exact (sb_cons (ss_par (i := 1) (j := 2) rfl sc_root_numbers.nd rfl rfl (by decide) rfl rfl (sa_cons (sn_lst true sa_nil) (sa_cons sn_dnewK sa_nil)) (by rfl)) (sb_cons (ss_for (sl := [3, 4, 5, 6, 7]) PassesOwn.never rfl (si_seq (sn_ixA hu (sn_var (pv 0)) sn_int)) (sg_tup rfl (sgs_cons (sg_name (pg_name (i := 3) sc_root_numbers.nd rfl (.inl rfl)) (by decide)) (sgs_cons (sg_name (pg_name (i := 4) sc_root_numbers.nd rfl (.inl rfl)) (by decide)) (sgs_cons (sg_name (pg_name (i := 5) sc_root_numbers.nd rfl (.inl rfl)) (by decide)) (sgs_cons (sg_name (pg_name (i := 6) sc_root_numbers.nd rfl (.inl rfl)) (by decide)) (sgs_cons (sg_name (pg_name (i := 7) sc_root_numbers.nd rfl (.inl rfl)) (by decide)) sgs_nil)))))) (sb_cons (ss_set (i := 8) (sn_ixA hu (sn_var (pv 3)) sn_int) sc_root_numbers.nd rfl (.inl rfl)) (sb_cons (ss_expr (sn_meth PySem.F.plainAttrs_list PySem.F.slot_list_append PySem.F.type_list_append mt_append mt1_append (sn_var (pv 1)) (sa_cons (sn_meth PySem.F.plainAttrs_dict PySem.F.slot_dict_get PySem.F.type_dict_get (mt_dget hu) mt1_dget (sn_var (pv 2)) (sa_cons (sn_var (pv 8)) (sa_cons sn_int sa_nil))) sa_nil))) (sb_one (ss_asg (sl := []) (sn_add false (sn_meth PySem.F.plainAttrs_dict PySem.F.slot_dict_get PySem.F.type_dict_get (mt_dget hu) mt1_dget (sn_var (pv 2)) (sa_cons (sn_var (pv 8)) (sa_cons sn_int sa_nil))) sn_int) (sg_ixA hu (sn_var (pv 2)) (sn_var (pv 8)))))))) (sb_one (ss_ret (sn_var (pv 1))))))
theorem ok_Table___init__ (T : Tx K mg cl) : FnOk P w K mg base CX0 1 T.a_Table___init__ T.d_Table___init__ ["self"] (spOf ⟨K, cl⟩ 1 g_Table___init__) := by
  refine fn_def (B := B_Table___init__) T.f_Table___init__ sc_Table___init__ (fun cdv A outer s H E hr => ?_) (fun ds M _ => ref_run B_Table___init__ 1 ds M)
  have hu := huE hr
  have hu1 := hu1E hr
  exact (sb_cons (ss_fld (c0 := 0) T.cls_Table T.na_Table_used (sn_var (pv 0)) (sn_lst true sa_nil)) (sb_cons (ss_fld (c0 := 0) T.cls_Table T.na_Table_there (sn_var (pv 0)) sn_dnewK) (sb_one (ss_fld (c0 := 0) T.cls_Table T.na_Table_known (sn_var (pv 0)) sn_dnewT))))
theorem ok_Table_free_place (T : Tx K mg cl) : FnOk P w K mg base CX0 1 T.a_Table_free_place T.d_Table_free_place ["self"] (spOf ⟨K, cl⟩ 1 g_Table_free_place) := by
  refine fn_def (B := B_Table_free_place) T.f_Table_free_place sc_Table_free_place (fun cdv A outer s H E hr => ?_) (fun ds M _ => ref_run B_Table_free_place 2 ds M)
  have hu := huE hr
  have hu1 := hu1E hr
  exact (sb_cons (ss_set (i := 1) sn_int sc_Table_free_place.nd rfl (.inl rfl)) (sb_cons (ss_while PassesOwn.never (st_cmp (op_inA hu) op2_inA rfl (sn_var (pv 1)) (sn_fld (c0 := 0) T.cls_Table T.na_Table_there (sn_var (pv 0)))) (sb_one (ss_aug (i := 1) ip2_add sn_int ip_add sc_Table_free_place.nd rfl (.inl rfl)))) (sb_one (ss_ret (sn_var (pv 1))))))
theorem ok_Table_leads (T : Tx K mg cl) : FnOk P w K mg base CX0 1 T.a_Table_leads T.d_Table_leads ["self", "handle"] (spOf ⟨K, cl⟩ 2 g_Table_leads) := by
  refine fn_def (B := B_Table_leads) T.f_Table_leads sc_Table_leads (fun cdv A outer s H E hr => ?_) (fun ds M _ => ref_run B_Table_leads 4 ds M)
  have hu := huE hr
  have hu1 := hu1E hr
  exact (sb_cons (ss_asg (sl := [2, 3]) (sn_var (pv 1)) (sg_tup rfl (sgs_cons (sg_name (pg_name (i := 2) sc_Table_leads.nd rfl (.inl rfl)) (by decide)) (sgs_cons (sg_name (pg_name (i := 3) sc_Table_leads.nd rfl (.inl rfl)) (by decide)) sgs_nil)))) (sb_cons (ss_if (PW.pt (sw_or (st_cmp (op_notInA hu) op2_notInA rfl (sn_var (pv 2)) (sn_fld (c0 := 0) T.cls_Table T.na_Table_there (sn_var (pv 0)))) (sw_or1 (st_cmp (op_neP hu) op2_ne (nomark _) (sn_ixA hu (sn_ixA hu (sn_fld (c0 := 0) T.cls_Table T.na_Table_there (sn_var (pv 0))) (sn_var (pv 2))) sn_int) (sn_var (pv 3)))))) (sb_one (ss_ret sn_non)) sb_nil) (sb_one (ss_ret (sn_ixA hu (sn_ixA hu (sn_fld (c0 := 0) T.cls_Table T.na_Table_there (sn_var (pv 0))) (sn_var (pv 2))) sn_int)))))
theorem ok_Table_handles (T : Tx K mg cl) : FnOk P w K mg base CX0 1 T.a_Table_handles T.d_Table_handles ["self"] (spOf ⟨K, cl⟩ 1 g_Table_handles) := by
  refine fn_def (B := B_Table_handles) T.f_Table_handles sc_Table_handles (fun cdv A outer s H E hr => ?_) (fun ds M _ => ref_run B_Table_handles 4 ds M)
  have hu := huE hr
  have hu1 := hu1E hr
  exact (sb_one (ss_ret (sn_callB (cr_sortedD hu) (fn_sorted (c := false)) rfl T.n_sorted (by decide +kernel) (sa_cons (sn_lock (mFld 0 "there" (mVar 0)) (sn_lc false (own := [("place", 1), ("turn", 2), ("thing", 3)]) rfl sc_Table_handles.nd (si_itemsA (sn_fld (c0 := 0) T.cls_Table T.na_Table_there (sn_var (pv 0)))) (blkOk_by (N := ["self", "place", "turn", "thing"]) (sc := defScope s_Table_handles) (by decide +kernel)) (fun _ _ _ _ _ => (sg_tup rfl (sgs_cons (sg_name (pg_name (i := 1) sc_Table_handles.nd rfl (.inl rfl)) (by decide)) (sgs_cons (sg_tup rfl (sgs_cons (sg_name (pg_name (i := 2) sc_Table_handles.nd rfl (.inl rfl)) (by decide)) (sgs_cons (sg_name (pg_name (i := 3) sc_Table_handles.nd rfl (.inl rfl)) (by decide)) sgs_nil))) sgs_nil)))) (fun _ _ _ _ _ => sts_nil) (fun _ _ _ _ _ => (sn_tup (sa_cons (sn_var (pv 1)) (sa_cons (sn_var (pv 2)) sa_nil)))))) sa_nil))))
theorem ok_ever (T : Tx K mg cl) : FnOk P w K mg base CX0 1 T.a_ever T.d_ever ["rows", "being"] (spOf ⟨K, cl⟩ 2 g_ever) := by
  refine fn_def (B := B_ever) T.f_ever sc_ever (fun cdv A outer s H E hr => ?_) (fun ds M _ => ref_run B_ever 3 ds M)
  have hu := huE hr
  have hu1 := hu1E hr
  exact (sb_one (ss_ret (sn_lc false (own := [("row", 2)]) rfl sc_ever.nd (si_seq (sn_var (pv 0))) (blkOk_by (N := ["rows", "being", "row"]) (sc := defScope s_ever) (by decide +kernel)) (fun _ _ _ _ _ => (sg_name (pg_name (i := 2) sc_ever.nd rfl (.inl rfl)) (by decide))) (fun _ _ _ _ _ => (sts_one (PW.pt (sw_and (st_cmp (op_eqP hu) op2_eq (nomark _) (sn_ix (sn_var (pv 2)) sn_int) (sn_strL (by decide +kernel))) (sw_and1 (st_cmp (op_eqP hu) op2_eq (nomark _) (sn_ix (sn_var (pv 2)) sn_int) (sn_var (pv 1)))))))) (fun _ _ _ _ _ => (sn_tup (sa_cons (sn_ix (sn_var (pv 2)) sn_int) (sa_cons (sn_ix (sn_var (pv 2)) sn_int) sa_nil)))))))
theorem ok_asks (T : Tx K mg cl) : FnOk P w K mg base CX0 1 T.a_asks T.d_asks ["rows"] (spOf ⟨K, cl⟩ 1 g_asks) := by
  refine fn_def (B := B_asks) T.f_asks sc_asks (fun cdv A outer s H E hr => ?_) (fun ds M _ => ref_run B_asks 6 ds M)
  have hu := huE hr
  have hu1 := hu1E hr
  exact (sb_cons (ss_set (i := 1) sn_dnewK sc_asks.nd rfl (.inr rfl)) (sb_cons (ss_for (sl := [2, 3, 4]) PassesOwn.never rfl (si_seq (sn_var (pv 0))) (sg_star (i := 2) rfl (sgs_cons (sg_name (pg_name (i := 2) sc_asks.nd rfl (.inl rfl)) (by decide)) (sgs_cons (sg_name (pg_name (i := 3) sc_asks.nd rfl (.inl rfl)) (by decide)) (sgs_star (sg_name (pg_name (i := 4) sc_asks.nd rfl (.inl rfl)) (by decide)) sgs_nil))) (by decide)) (sb_cons (ss_if (st_cmp (op_eqP hu) op2_eq (nomark _) (sn_var (pv 2)) (sn_strL (by decide +kernel))) (sb_one (ss_asg (sl := []) (sn_tup (sa_cons (sn_var (pv 3)) (sa_cons (sn_ixA hu (sn_var (pv 4)) sn_int) (sa_cons sn_non sa_nil)))) (sg_ixA hu (sn_var (pv 1)) (sn_ixA hu (sn_var (pv 4)) sn_int)))) sb_nil) (sb_one (ss_if (st_cmp (op_eqP hu) op2_eq (nomark _) (sn_var (pv 2)) (sn_strL (by decide +kernel))) (sb_one (ss_asg (sl := []) (sn_add false (sn_sl false (sn_ixA hu (sn_var (pv 1)) (sn_ixA hu (sn_var (pv 4)) sn_int)) sp_none (sp_some sn_int)) (sn_tup (sa_cons (sn_ixA hu (sn_var (pv 4)) sn_int) sa_nil))) (sg_ixA hu (sn_var (pv 1)) (sn_ixA hu (sn_var (pv 4)) sn_int)))) sb_nil)))) (sb_one (ss_ret (sn_dc (own := [("count", 5)]) rfl sc_asks.nd (si_seq (sn_callB (cr_sortS rfl hu) (fn_sortS (c := false)) rfl T.n_sorted (by decide +kernel) (sa_cons (sn_var (pv 1)) sa_nil))) (blkOk_by (N := ["rows", "found", "word", "tick", "parts", "count"]) (sc := defScope s_asks) (by decide +kernel)) (fun _ _ _ _ _ => (sg_name (pg_name (i := 5) sc_asks.nd rfl (.inl rfl)) (by decide))) (fun _ _ _ _ _ => sts_nil) (fun _ _ _ _ _ => (sn_var (pv 5))) (fun _ _ _ _ _ => (sn_ixA hu (sn_var (pv 1)) (sn_var (pv 5)))))))))
theorem ok_beings (T : Tx K mg cl) : FnOk P w K mg base CX0 1 T.a_beings T.d_beings ["plan"] (spOf ⟨K, cl⟩ 1 g_beings) := by
  refine fn_def (B := B_beings) T.f_beings sc_beings (fun cdv A outer s H E hr => ?_) (fun ds M _ => ref_gc B_beings 8 ds M)
  have hu := huE hr
  have hu1 := hu1E hr
  exact (sb_cons (ss_set (i := 1) (sn_lst true sa_nil) sc_beings.nd rfl (.inl rfl)) (sb_cons (ss_for (sl := [2, 3, 4, 5]) PassesOwn.never rfl (si_seq (sn_ix (sn_var (pv 0)) sn_int)) (sg_tup rfl (sgs_cons (sg_name (pg_name (i := 2) sc_beings.nd rfl (.inr rfl)) (by decide)) (sgs_cons (sg_name (pg_name (i := 3) sc_beings.nd rfl (.inl rfl)) (by decide)) (sgs_cons (sg_name (pg_name (i := 4) sc_beings.nd rfl (.inl rfl)) (by decide)) (sgs_cons (sg_name (pg_name (i := 5) sc_beings.nd rfl (.inl rfl)) (by decide)) sgs_nil))))) (sb_one (ss_expr (sn_meth PySem.F.plainAttrs_list PySem.F.slot_list_extend PySem.F.type_list_extend mt_extend mt1_extend (sn_var (pv 1)) (sa_cons (sn_lc false (own := [("one", 6)]) rfl sc_beings.nd (si_seq (sn_add false (sn_callTy call_list_of (fn_list (c := false)) rfl T.n_list (by decide +kernel) (sa_cons (sn_var (pv 3)) sa_nil)) (sn_lc false (own := [("servant", 7)]) rfl sc_beings.nd (si_seq (sn_var (pv 4))) (blkOk_by (N := ["plan", "found", "name", "persons", "servants", "things", "one", "servant"]) (sc := defScope s_beings) (by decide +kernel)) (fun _ _ _ _ _ => (sg_name (pg_name (i := 7) sc_beings.nd rfl (.inl rfl)) (by decide))) (fun _ _ _ _ _ => sts_nil) (fun _ _ _ _ _ => (sn_ix (sn_var (pv 7)) sn_int))))) (blkOk_by (N := ["plan", "found", "name", "persons", "servants", "things", "one", "servant"]) (sc := defScope s_beings) (by decide +kernel)) (fun _ _ _ _ _ => (sg_name (pg_name (i := 6) sc_beings.nd rfl (.inl rfl)) (by decide))) (fun _ _ _ _ _ => sts_nil) (fun _ _ _ _ _ => (sn_tup (sa_cons (sn_var (pv 2)) (sa_cons (sn_var (pv 6)) sa_nil))))) sa_nil))))) (sb_one (ss_ret (sn_callTy call_tuple_of fn_tuple rfl T.n_tuple (by decide +kernel) (sa_cons (sn_var (pv 1)) sa_nil))))))
theorem ok_servant_at (T : Tx K mg cl) : FnOk P w K mg base CX0 1 T.a_servant_at T.d_servant_at ["plan", "place"] (spOf ⟨K, cl⟩ 2 g_servant_at) := by
  refine fn_def (B := B_servant_at) T.f_servant_at sc_servant_at (fun cdv A outer s H E hr => ?_) (fun ds M _ => ref_run B_servant_at 7 ds M)
  have hu := huE hr
  have hu1 := hu1E hr
  exact (sb_cons (ss_for (sl := [2, 3, 4, 5]) PassesOwn.never rfl (si_seq (sn_ix (sn_var (pv 0)) sn_int)) (sg_tup rfl (sgs_cons (sg_name (pg_name (i := 2) sc_servant_at.nd rfl (.inl rfl)) (by decide)) (sgs_cons (sg_name (pg_name (i := 3) sc_servant_at.nd rfl (.inl rfl)) (by decide)) (sgs_cons (sg_name (pg_name (i := 4) sc_servant_at.nd rfl (.inl rfl)) (by decide)) (sgs_cons (sg_name (pg_name (i := 5) sc_servant_at.nd rfl (.inl rfl)) (by decide)) sgs_nil))))) (sb_one (ss_for (sl := [6]) PassesOwn.never rfl (si_seq (sn_var (pv 4))) (sg_name (pg_name (i := 6) sc_servant_at.nd rfl (.inl rfl)) (by decide)) (sb_one (ss_if (st_cmp (op_eqP hu) op2_eq (nomark _) (sn_tup (sa_cons (sn_var (pv 2)) (sa_cons (sn_ix (sn_var (pv 6)) sn_int) sa_nil))) (sn_var (pv 1))) (sb_one (ss_ret (sn_var (pv 6)))) sb_nil))))) (sb_one (ss_ret sn_non)))
theorem ok_Stone___init__ (T : Tx K mg cl) : FnOk P w K mg base CX0 1 T.a_Stone___init__ T.d_Stone___init__ ["self", "rows"] (spOf ⟨K, cl⟩ 2 g_Stone___init__) := by
  refine fn_defV (B := B_Stone___init__) T.f_Stone___init__ sc_Stone___init__ (fun cdv A outer s H E hr => ?_) (fun ds M _ => ref_run B_Stone___init__ 2 ds M)
  have hu := huE hr
  have hu1 := hu1E hr
  exact (sb_cons (ss_fld (c0 := 2) T.cls_Stone T.na_Stone_written (sn_var (pv 0)) (sn_callTy call_list_of (fn_list (c := true)) rfl T.n_list (by decide +kernel) (sa_cons (sn_var (pv 1)) sa_nil))) (sb_one (ss_fld (c0 := 2) T.cls_Stone T.na_Stone_firm (sn_var (pv 0)) (sn_callB call_lenA fn_len rfl T.n_len PySem.boot_len (sa_cons (sn_fld (c0 := 2) T.cls_Stone T.na_Stone_written (sn_var (pv 0))) sa_nil)))))
theorem ok_Stone_write (T : Tx K mg cl) : FnOk P w K mg base CX0 1 T.a_Stone_write T.d_Stone_write ["self", "row"] (spOf ⟨K, cl⟩ 2 g_Stone_write) := by
  refine fn_def (B := B_Stone_write) T.f_Stone_write sc_Stone_write (fun cdv A outer s H E hr => ?_) (fun ds M _ => ref_run B_Stone_write 2 ds M)
  have hu := huE hr
  have hu1 := hu1E hr
  exact (sb_one (ss_expr (sn_meth PySem.F.plainAttrs_list PySem.F.slot_list_append PySem.F.type_list_append mt_append mt1_append (sn_fld (c0 := 2) T.cls_Stone T.na_Stone_written (sn_var (pv 0))) (sa_cons (sn_var (pv 1)) sa_nil))))
theorem ok_Stone_settle (T : Tx K mg cl) : FnOk P w K mg base CX0 1 T.a_Stone_settle T.d_Stone_settle ["self"] (spOf ⟨K, cl⟩ 1 g_Stone_settle) := by
  refine fn_def (B := B_Stone_settle) T.f_Stone_settle sc_Stone_settle (fun cdv A outer s H E hr => ?_) (fun ds M _ => ref_run B_Stone_settle 1 ds M)
  have hu := huE hr
  have hu1 := hu1E hr
  exact (sb_one (ss_fld (c0 := 2) T.cls_Stone T.na_Stone_firm (sn_var (pv 0)) (sn_callB call_lenA fn_len rfl T.n_len PySem.boot_len (sa_cons (sn_fld (c0 := 2) T.cls_Stone T.na_Stone_written (sn_var (pv 0))) sa_nil))))
theorem ok_Stone_rows (T : Tx K mg cl) : FnOk P w K mg base CX0 1 T.a_Stone_rows T.d_Stone_rows ["self"] (spOf ⟨K, cl⟩ 1 g_Stone_rows) := by
  refine fn_def (B := B_Stone_rows) T.f_Stone_rows sc_Stone_rows (fun cdv A outer s H E hr => ?_) (fun ds M _ => ref_run B_Stone_rows 1 ds M)
  have hu := huE hr
  have hu1 := hu1E hr
  exact (sb_one (ss_ret (sn_callTy call_tuple_of fn_tuple rfl T.n_tuple (by decide +kernel) (sa_cons (sn_fld (c0 := 2) T.cls_Stone T.na_Stone_written (sn_var (pv 0))) sa_nil))))
theorem ok_law_cell (T : Tx K mg cl) : FnOk P w K mg base CX0 1 T.a_law_cell T.d_law_cell ["_law_script", "_law_k"] (spOf ⟨K, cl⟩ 2 g_law_cell) := by
  refine fn_def (B := B_law_cell) T.f_law_cell sc_law_cell (fun cdv A outer s H E hr => ?_) (fun ds M _ => ref_run B_law_cell 3 ds M)
  have hu := huE hr
  have hu1 := hu1E hr
  exact (sb_cons (ss_if (st_cmp (op_lt.or op_lt_str) op2_ord (nomark _) (sn_var (pv 1)) (sn_callB call_lenA fn_len rfl T.n_len PySem.boot_len (sa_cons (sn_var (pv 0)) sa_nil))) (sb_one (ss_ret (sn_ix (sn_var (pv 0)) (sn_var (pv 1))))) sb_nil) (sb_cons (ss_set (i := 2) (sn_add false (sn_mul false (sn_var (pv 1)) sn_int) sn_int) sc_law_cell.nd rfl (.inl rfl)) (sb_cons (ss_if (st_cmp (op_gt.or op_gt_str) op2_ord (nomark _) (sn_callB call_lenA fn_len rfl T.n_len PySem.boot_len (sa_cons (sn_var (pv 0)) sa_nil)) sn_int) (sb_one (ss_set (i := 2) (sn_add false (sn_mul false (sn_mod (sn_ix (sn_var (pv 0)) (sn_mod (sn_mul false (sn_var (pv 1)) sn_int) (sn_callB call_lenA fn_len rfl T.n_len PySem.boot_len (sa_cons (sn_var (pv 0)) sa_nil)))) sn_int) sn_int) (sn_mul false (sn_var (pv 1)) sn_int)) sc_law_cell.nd rfl (.inl rfl))) sb_nil) (sb_one (ss_ret (sn_mul false (sn_mod (sn_var (pv 2)) sn_int) sn_int))))))
theorem ok_law_draw (T : Tx K mg cl) : FnOk P w K mg base CX0 1 T.a_law_draw T.d_law_draw ["_law_flow_here", "_law_many"] (spOf ⟨K, cl⟩ 2 g_law_draw) := by
  refine fn_def (B := B_law_draw) T.f_law_draw sc_law_draw (fun cdv A outer s H E hr => ?_) (fun ds M _ => ref_run B_law_draw 3 ds M)
  have hu := huE hr
  have hu1 := hu1E hr
  exact (sb_cons (ss_if (st_cmp (op_gt.or op_gt_str) op2_ord (nomark _) (sn_ix (sn_var (pv 0)) sn_int) sn_int) (sb_cons (ss_set (i := 2) (sn_mod (sn_ix (sn_var (pv 0)) sn_int) (sn_var (pv 1))) sc_law_draw.nd rfl (.inl rfl)) (sb_cons (ss_asg (sl := []) (sn_div (sn_ix (sn_var (pv 0)) sn_int) (sn_var (pv 1))) (sg_ix (sn_var (pv 0)) sn_int)) (sb_one (ss_ret (sn_var (pv 2)))))) sb_nil) (sb_cons (ss_asg (sl := []) (sn_add false (sn_ix (sn_var (pv 0)) sn_int) sn_int) (sg_ix (sn_var (pv 0)) sn_int)) (sb_cons (ss_asg (sl := []) (sn_mod (sn_add false (sn_add false (sn_mul false (sn_ix (sn_var (pv 0)) sn_int) sn_int) sn_int) (sn_ix (sn_var (pv 0)) sn_int)) sn_int) (sg_ix (sn_var (pv 0)) sn_int)) (sb_one (ss_ret (sn_mod (sn_div (sn_ix (sn_var (pv 0)) sn_int) sn_int) (sn_var (pv 1))))))))
theorem ok_law_handles (T : Tx K mg cl) : FnOk P w K mg base CX0 1 T.a_law_handles T.d_law_handles ["_law_rows", "_law_being"] (spOf ⟨K, cl⟩ 2 g_law_handles) := by
  refine fn_def (B := B_law_handles) T.f_law_handles sc_law_handles (fun cdv A outer s H E hr => ?_) (fun ds M _ => ref_gc B_law_handles 6 ds M)
  have hu := huE hr
  have hu1 := hu1E hr
  exact (sb_cons (ss_asg (sl := [2, 3]) (sn_tup (sa_cons sn_dnewK (sa_cons sn_dnewK sa_nil))) (sg_tup rfl (sgs_cons (sg_name (pg_name (i := 2) sc_law_handles.nd rfl (.inl rfl)) (by decide)) (sgs_cons (sg_name (pg_name (i := 3) sc_law_handles.nd rfl (.inr rfl)) (by decide)) sgs_nil)))) (sb_cons (ss_for (sl := [4]) PassesOwn.never rfl (si_seq (sn_var (pv 0))) (sg_name (pg_name (i := 4) sc_law_handles.nd rfl (.inl rfl)) (by decide)) (sb_cons (ss_if (PW.pt (sw_and (st_cmp (op_eqP hu) op2_eq (nomark _) (sn_ixA hu (sn_var (pv 4)) sn_int) (sn_strL (by decide +kernel))) (sw_and1 (st_cmp (op_eqP hu) op2_eq (nomark _) (sn_ixA hu (sn_var (pv 4)) sn_int) (sn_var (pv 1)))))) (sb_cons (ss_set (i := 5) sn_int sc_law_handles.nd rfl (.inl rfl)) (sb_cons (ss_while PassesOwn.never (st_cmp (op_inA hu) op2_inA rfl (sn_var (pv 5)) (sn_var (pv 3))) (sb_one (ss_set (i := 5) (sn_add false (sn_var (pv 5)) sn_int) sc_law_handles.nd rfl (.inl rfl)))) (sb_cons (ss_asg (sl := []) (sn_add false (sn_tup (sa_cons (sn_tup (sa_cons (sn_var (pv 5)) (sa_cons (sn_meth PySem.F.plainAttrs_dict PySem.F.slot_dict_get PySem.F.type_dict_get (mt_dget hu) mt1_dget (sn_var (pv 2)) (sa_cons (sn_var (pv 5)) (sa_cons sn_int sa_nil))) sa_nil))) sa_nil)) (sn_sl false (sn_var (pv 4)) (sp_some sn_int) (sp_some sn_int))) (sg_ixA hu (sn_var (pv 3)) (sn_var (pv 5)))) (sb_one (ss_asg (sl := []) (sn_add false (sn_meth PySem.F.plainAttrs_dict PySem.F.slot_dict_get PySem.F.type_dict_get (mt_dget hu) mt1_dget (sn_var (pv 2)) (sa_cons (sn_var (pv 5)) (sa_cons sn_int sa_nil))) sn_int) (sg_ixA hu (sn_var (pv 2)) (sn_var (pv 5)))))))) sb_nil) (sb_one (ss_if (PW.pt (sw_and (st_cmp (op_eqP hu) op2_eq (nomark _) (sn_ixA hu (sn_var (pv 4)) sn_int) (sn_strL (by decide +kernel))) (sw_and1 (st_cmp (op_eqP hu) op2_eq (nomark _) (sn_ixA hu (sn_var (pv 4)) sn_int) (sn_var (pv 1)))))) (sb_one (ss_expr (sn_meth PySem.F.plainAttrs_dict PySem.F.slot_dict_pop PySem.F.type_dict_pop (mt_popE hu) mt1_popE (sn_var (pv 3)) (sa_cons (sn_ixA hu (sn_var (pv 4)) sn_int) sa_nil)))) sb_nil)))) (sb_one (ss_ret (sn_lc false (own := [("_law_spot", 5)]) rfl sc_law_handles.nd (si_seq (sn_callB (cr_sortedD hu) (fn_sorted (c := false)) rfl T.n_sorted (by decide +kernel) (sa_cons (sn_callTy (call_listA rfl) (fn_listA (c := false)) rfl T.n_list (by decide +kernel) (sa_cons (sn_var (pv 3)) sa_nil)) sa_nil))) (blkOk_by (N := ["_law_rows", "_law_being", "_law_used", "_law_now", "_law_row", "_law_spot"]) (sc := defScope s_law_handles) (by decide +kernel)) (fun _ _ _ _ _ => (sg_name (pg_name (i := 5) sc_law_handles.nd rfl (.inl rfl)) (by decide))) (fun _ _ _ _ _ => sts_nil) (fun _ _ _ _ _ => (sn_ixA hu (sn_var (pv 3)) (sn_var (pv 5)))))))))
theorem ok_Table_put (T : Tx K mg cl) : FnOk P w K mg base CX0 2 T.a_Table_put T.d_Table_put ["self", "house", "number"] (spOf ⟨K, cl⟩ 3 g_Table_put) := by
  refine fn_def (B := B_Table_put) T.f_Table_put sc_Table_put (fun cdv A outer s H E hr => ?_) (fun ds M _ => ref_run B_Table_put 6 ds M)
  have hu := huE hr
  have hu1 := hu1E hr
  exact (sb_cons (ss_set (i := 3) (sn_tup (sa_cons (sn_var (pv 1)) (sa_cons (sn_var (pv 2)) sa_nil))) sc_Table_put.nd rfl (.inl rfl)) (sb_cons (ss_if (st_cmp (op_inA hu) op2_inA rfl (sn_var (pv 3)) (sn_fld (c0 := 0) T.cls_Table T.na_Table_known (sn_var (pv 0)))) (sb_one (ss_ret sn_non)) sb_nil) (sb_cons (ss_asg (sl := []) sn_bl (sg_ixA hu (sn_fld (c0 := 0) T.cls_Table T.na_Table_known (sn_var (pv 0))) (sn_var (pv 3)))) (sb_cons (ss_set (i := 4) (sn_mth0 (c0 := 0) (sn_var (pv 0)) T.cls_Table T.me_Table_free_place (ok_Table_free_place T) (hr.mono (by decide)) T.b_Table_free_place .nil closedK_nil passA) sc_Table_put.nd rfl (.inl rfl)) (sb_cons (ss_if (st_cmp (op_eqP hu) op2_eq (nomark _) (sn_var (pv 4)) (sn_callB call_lenAA fn_lenA rfl T.n_len PySem.boot_len (sa_cons (sn_fld (c0 := 0) T.cls_Table T.na_Table_used (sn_var (pv 0))) sa_nil))) (sb_one (ss_expr (sn_meth PySem.F.plainAttrs_list PySem.F.slot_list_append PySem.F.type_list_append mt_append mt1_append (sn_fld (c0 := 0) T.cls_Table T.na_Table_used (sn_var (pv 0))) (sa_cons sn_int sa_nil)))) sb_nil) (sb_cons (ss_set (i := 5) (sn_ixA hu (sn_fld (c0 := 0) T.cls_Table T.na_Table_used (sn_var (pv 0))) (sn_var (pv 4))) sc_Table_put.nd rfl (.inl rfl)) (sb_cons (ss_augIx ip2_add ip_add hu (sn_fld (c0 := 0) T.cls_Table T.na_Table_used (sn_var (pv 0))) (sn_var (pv 4)) sn_int) (sb_cons (ss_asg (sl := []) (sn_tup (sa_cons (sn_var (pv 5)) (sa_cons (sn_var (pv 3)) sa_nil))) (sg_ixA hu (sn_fld (c0 := 0) T.cls_Table T.na_Table_there (sn_var (pv 0))) (sn_var (pv 4)))) (sb_one (ss_ret (sn_tup (sa_cons (sn_var (pv 4)) (sa_cons (sn_var (pv 5)) sa_nil)))))))))))))
theorem ok_Table_drop (T : Tx K mg cl) : FnOk P w K mg base CX0 2 T.a_Table_drop T.d_Table_drop ["self", "handle"] (spOf ⟨K, cl⟩ 2 g_Table_drop) := by
  refine fn_def (B := B_Table_drop) T.f_Table_drop sc_Table_drop (fun cdv A outer s H E hr => ?_) (fun ds M _ => ref_run B_Table_drop 2 ds M)
  have hu := huE hr
  have hu1 := hu1E hr
  exact (sb_cons (ss_if (st_isN (sn_mth (c0 := 0) (sn_var (pv 0)) T.cls_Table T.me_Table_leads (ok_Table_leads T) (hr.mono (by decide)) T.b_Table_leads .nil closedK_nil passA (sa_cons (sn_var (pv 1)) sa_nil))) (sb_one (ss_ret sn_bl)) sb_nil) (sb_cons (ss_expr (sn_meth PySem.F.plainAttrs_dict PySem.F.slot_dict_pop PySem.F.type_dict_pop (mt_popE hu) mt1_popE (sn_fld (c0 := 0) T.cls_Table T.na_Table_there (sn_var (pv 0))) (sa_cons (sn_ixA hu (sn_var (pv 1)) sn_int) sa_nil))) (sb_one (ss_ret sn_bl))))
theorem ok_put_row (T : Tx K mg cl) : FnOk P w K mg base CX0 2 T.a_put_row T.d_put_row ["rows", "tick", "house", "what"] (spOf ⟨K, cl⟩ 4 g_put_row) := by
  refine fn_def (B := B_put_row) T.f_put_row sc_put_row (fun cdv A outer s H E hr => ?_) (fun ds M _ => ref_run B_put_row 11 ds M)
  have hu := huE hr
  have hu1 := hu1E hr
  exact (sb_cons (ss_asg (sl := [4, 5, 6, 7, 8, 9, 10]) (sn_var (pv 3)) (sg_tup rfl (sgs_cons (sg_name (pg_name (i := 4) sc_put_row.nd rfl (.inl rfl)) (by decide)) (sgs_cons (sg_name (pg_name (i := 5) sc_put_row.nd rfl (.inl rfl)) (by decide)) (sgs_cons (sg_name (pg_name (i := 6) sc_put_row.nd rfl (.inl rfl)) (by decide)) (sgs_cons (sg_name (pg_name (i := 7) sc_put_row.nd rfl (.inl rfl)) (by decide)) (sgs_cons (sg_name (pg_name (i := 8) sc_put_row.nd rfl (.inl rfl)) (by decide)) (sgs_cons (sg_name (pg_name (i := 9) sc_put_row.nd rfl (.inl rfl)) (by decide)) (sgs_cons (sg_name (pg_name (i := 10) sc_put_row.nd rfl (.inl rfl)) (by decide)) sgs_nil))))))))) (sb_cons (ss_if (st_cmp (op_inP hu) op2_inD rfl (sn_tup (sa_cons (sn_var (pv 2)) (sa_cons (sn_var (pv 6)) sa_nil))) (sn_call (ok_ever T) (hr.mono (by decide)) rfl T.m_ever T.f_ever.kp T.b_ever .nil closed_nil passA (sa_cons (sn_var (pv 0)) (sa_cons (sn_var (pv 10)) sa_nil)))) (sb_one (ss_ret sn_non)) sb_nil) (sb_one (ss_ret (sn_tup (sa_cons (sn_strL (by decide +kernel)) (sa_cons (sn_var (pv 1)) (sa_cons (sn_var (pv 10)) (sa_cons (sn_var (pv 2)) (sa_cons (sn_var (pv 6)) (sa_cons (sn_var (pv 7)) (sa_cons (sn_var (pv 8)) (sa_cons (sn_var (pv 9)) (sa_cons (sn_var (pv 5)) sa_nil))))))))))))))
theorem ok_first_rows (T : Tx K mg cl) : FnOk P w K mg base CX0 2 T.a_first_rows T.d_first_rows ["plan", "house"] (spOf ⟨K, cl⟩ 2 g_first_rows) := by
  refine fn_def (B := B_first_rows) T.f_first_rows sc_first_rows (fun cdv A outer s H E hr => ?_) (fun ds M _ => ref_gc B_first_rows 12 ds M)
  have hu := huE hr
  have hu1 := hu1E hr
  exact (sb_cons (ss_set (i := 2) (sn_call (ok_root_numbers T) (hr.mono (by decide)) rfl T.m_root_numbers T.f_root_numbers.kp T.b_root_numbers .nil closed_nil passA (sa_cons (sn_var (pv 0)) sa_nil)) sc_first_rows.nd rfl (.inl rfl)) (sb_cons (ss_par (i := 3) (j := 4) rfl sc_first_rows.nd rfl rfl (by decide) rfl rfl (sa_cons (sn_lst true sa_nil) (sa_cons (sn_lst true sa_nil) sa_nil)) (by rfl)) (sb_cons (ss_for (sl := [5, 6, 7, 8, 9, 10]) PassesOwn.never rfl (si_enumX rfl T.n_enumerate (sn_ix (sn_var (pv 0)) sn_int)) (sg_tup rfl (sgs_cons (sg_name (pg_name (i := 5) sc_first_rows.nd rfl (.inl rfl)) (by decide)) (sgs_cons (sg_tup rfl (sgs_cons (sg_name (pg_name (i := 6) sc_first_rows.nd rfl (.inl rfl)) (by decide)) (sgs_cons (sg_name (pg_name (i := 7) sc_first_rows.nd rfl (.inl rfl)) (by decide)) (sgs_cons (sg_name (pg_name (i := 8) sc_first_rows.nd rfl (.inl rfl)) (by decide)) (sgs_cons (sg_name (pg_name (i := 9) sc_first_rows.nd rfl (.inl rfl)) (by decide)) (sgs_cons (sg_name (pg_name (i := 10) sc_first_rows.nd rfl (.inl rfl)) (by decide)) sgs_nil)))))) sgs_nil))) (sb_cons (ss_set (i := 11) (sn_if (st_isN (sn_var (pv 10))) sn_non (sn_ix (sn_var (pv 2)) (sn_var (pv 10)))) sc_first_rows.nd rfl (.inl rfl)) (sb_cons (ss_if (st_cmp (op_eqP hu) op2_eq (nomark _) (sn_ix (sn_var (pv 6)) sn_int) (sn_var (pv 1))) (sb_one (ss_expr (sn_meth PySem.F.plainAttrs_list PySem.F.slot_list_append PySem.F.type_list_append mt_append mt1_append (sn_var (pv 3)) (sa_cons (sn_tup (sa_cons (sn_strL (by decide +kernel)) (sa_cons sn_int (sa_cons (sn_ix (sn_var (pv 2)) (sn_var (pv 5))) (sa_cons (sn_var (pv 6)) (sa_cons (sn_var (pv 7)) (sa_cons (sn_var (pv 8)) (sa_cons (sn_var (pv 9)) (sa_cons (sn_var (pv 11)) sa_nil))))))))) sa_nil)))) sb_nil) (sb_one (ss_if (st_cmp (op_eqP hu) op2_eq (nomark _) (sn_ix (sn_var (pv 9)) sn_int) (sn_var (pv 1))) (sb_one (ss_expr (sn_meth PySem.F.plainAttrs_list PySem.F.slot_list_append PySem.F.type_list_append mt_append mt1_append (sn_var (pv 4)) (sa_cons (sn_tup (sa_cons (sn_strL (by decide +kernel)) (sa_cons sn_int (sa_cons (sn_var (pv 9)) (sa_cons (sn_ix (sn_var (pv 6)) sn_int) (sa_cons (sn_ix (sn_var (pv 2)) (sn_var (pv 5))) (sa_cons (sn_var (pv 6)) (sa_cons (sn_var (pv 7)) (sa_cons (sn_var (pv 8)) (sa_cons sn_non sa_nil)))))))))) sa_nil)))) sb_nil))))) (sb_one (ss_ret (sn_add false (sn_var (pv 3)) (sn_var (pv 4))))))))
theorem ok_Kernel_rows (T : Tx K mg cl) : FnOk P w K mg base CX0 2 T.a_Kernel_rows T.d_Kernel_rows ["self"] (spOf ⟨K, cl⟩ 1 g_Kernel_rows) := by
  refine fn_def (B := B_Kernel_rows) T.f_Kernel_rows sc_Kernel_rows (fun cdv A outer s H E hr => ?_) (fun ds M _ => ref_run B_Kernel_rows 1 ds M)
  have hu := huE hr
  have hu1 := hu1E hr
  exact (sb_one (ss_ret (sn_mth0 (c0 := 2) (sn_fld (c0 := 3) T.cls_Kernel T.na_Kernel_stone (sn_var (pv 0))) T.cls_Stone T.me_Stone_rows (ok_Stone_rows T) (hr.mono (by decide)) T.b_Stone_rows .nil closedK_nil passA)))
theorem ok_Kernel_wrote (T : Tx K mg cl) : FnOk P w K mg base CX0 2 T.a_Kernel_wrote T.d_Kernel_wrote ["self", "row"] (spOf ⟨K, cl⟩ 2 g_Kernel_wrote) := by
  refine fn_def (B := B_Kernel_wrote) T.f_Kernel_wrote sc_Kernel_wrote (fun cdv A outer s H E hr => ?_) (fun ds M _ => ref_run B_Kernel_wrote 2 ds M)
  have hu := huE hr
  have hu1 := hu1E hr
  exact (sb_cons (ss_expr (sn_mth (c0 := 2) (sn_fld (c0 := 3) T.cls_Kernel T.na_Kernel_stone (sn_var (pv 0))) T.cls_Stone T.me_Stone_write (ok_Stone_write T) (hr.mono (by decide)) T.b_Stone_write .nil closedK_nil passA (sa_cons (sn_var (pv 1)) sa_nil))) (sb_one (ss_expr (sn_mth0 (c0 := 2) (sn_fld (c0 := 3) T.cls_Kernel T.na_Kernel_stone (sn_var (pv 0))) T.cls_Stone T.me_Stone_settle (ok_Stone_settle T) (hr.mono (by decide)) T.b_Stone_settle .nil closedK_nil passA))))
theorem ok_Kernel_answer (T : Tx K mg cl) : FnOk P w K mg base CX0 2 T.a_Kernel_answer T.d_Kernel_answer ["self", "count"] (spOf ⟨K, cl⟩ 2 g_Kernel_answer) := by
  refine fn_def (B := B_Kernel_answer) T.f_Kernel_answer sc_Kernel_answer (fun cdv A outer s H E hr => ?_) (fun ds M _ => ref_run B_Kernel_answer 3 ds M)
  have hu := huE hr
  have hu1 := hu1E hr
  exact (sb_cons (ss_expr (sn_mth0 (c0 := 2) (sn_fld (c0 := 3) T.cls_Kernel T.na_Kernel_stone (sn_var (pv 0))) T.cls_Stone T.me_Stone_settle (ok_Stone_settle T) (hr.mono (by decide)) T.b_Stone_settle .nil closedK_nil passA)) (sb_cons (ss_set (i := 2) (sn_call (ok_asks T) (hr.mono (by decide)) rfl T.m_asks T.f_asks.kp T.b_asks .nil closed_nil passA (sa_cons (sn_mth0 (c0 := 2) (sn_fld (c0 := 3) T.cls_Kernel T.na_Kernel_stone (sn_var (pv 0))) T.cls_Stone T.me_Stone_rows (ok_Stone_rows T) (hr.mono (by decide)) T.b_Stone_rows .nil closedK_nil passA) sa_nil)) sc_Kernel_answer.nd rfl (.inl rfl)) (sb_one (ss_ret (sn_if (st_cmp (op_inA hu) op2_inA rfl (sn_var (pv 1)) (sn_var (pv 2))) (sn_ixA hu (sn_ixA hu (sn_var (pv 2)) (sn_var (pv 1))) sn_int) sn_non)))))
theorem ok_law_flow (T : Tx K mg cl) : FnOk P w K mg base CX0 2 T.a_law_flow T.d_law_flow ["_law_script", "_law_k"] (spOf ⟨K, cl⟩ 2 g_law_flow) := by
  refine fn_def (B := B_law_flow) T.f_law_flow sc_law_flow (fun cdv A outer s H E hr => ?_) (fun ds M _ => ref_run B_law_flow 3 ds M)
  have hu := huE hr
  have hu1 := hu1E hr
  exact (sb_cons (ss_set (i := 2) (sn_callB call_abs fn_abs rfl T.n_abs (by decide +kernel) (sa_cons (sn_call (ok_law_cell T) (hr.mono (by decide)) rfl T.m_law_cell T.f_law_cell.kp T.b_law_cell .nil closed_nil passA (sa_cons (sn_var (pv 0)) (sa_cons (sn_var (pv 1)) sa_nil))) sa_nil)) sc_law_flow.nd rfl (.inl rfl)) (sb_one (ss_ret (sn_lst true (sa_cons (sn_mul false (sn_var (pv 2)) (sn_callTy call_int1 fn_int rfl T.n_int (by decide +kernel) (sa_cons (sn_ge (sn_var (pv 2)) (sn_pow sn_int sn_int)) sa_nil))) (sa_cons sn_int (sa_cons (sn_add false (sn_mod (sn_var (pv 2)) sn_int) (sn_mul false sn_int (sn_var (pv 1)))) sa_nil)))))))
theorem ok_law_names (T : Tx K mg cl) : FnOk P w K mg base CX0 2 T.a_law_names T.d_law_names ["_law_flow_here", "_law_many"] (spOf ⟨K, cl⟩ 2 g_law_names) := by
  refine fn_def (B := B_law_names) T.f_law_names sc_law_names (fun cdv A outer s H E hr => ?_) (fun ds M _ => ref_gc B_law_names 11 ds M)
  have hu := huE hr
  have hu1 := hu1E hr
  exact (sb_cons (ss_set (i := 2) (sn_strL (by decide +kernel)) sc_law_names.nd rfl (.inr rfl)) (sb_cons (ss_set (i := 3) (sn_meth PySem.F.plainAttrs_str PySem.F.slot_str_join PySem.F.type_str_join mt_join mt1_join (sn_strL (by decide +kernel)) (sa_cons (sn_lc false (own := [("_law_j", 4)]) rfl sc_law_names.nd (si_range1 rfl T.n_range (sa_cons (sn_call (ok_law_draw T) (hr.mono (by decide)) rfl T.m_law_draw T.f_law_draw.kp T.b_law_draw .nil closed_nil passA (sa_cons (sn_var (pv 0)) (sa_cons sn_int sa_nil))) sa_nil)) (blkOk_by (N := ["_law_flow_here", "_law_many", "_law_some", "_law_word", "_law_j", "_law_at", "_law_first", "_law_longer", "_law_found", "_law_k", "_law_name"]) (sc := defScope s_law_names) (by decide +kernel)) (fun _ _ _ _ _ => (sg_name (pg_name (i := 4) sc_law_names.nd rfl (.inl rfl)) (by decide))) (fun _ _ _ _ _ => sts_nil) (fun _ _ _ _ _ => (sn_ix (sn_var (pv 2)) (sn_call (ok_law_draw T) (hr.mono (by decide)) rfl T.m_law_draw T.f_law_draw.kp T.b_law_draw .nil closed_nil passA (sa_cons (sn_var (pv 0)) (sa_cons sn_int sa_nil)))))) sa_nil)) sc_law_names.nd rfl (.inl rfl)) (sb_cons (ss_par3 (i := 5) (j := 6) (l := 7) rfl sc_law_names.nd rfl rfl rfl (by decide) (by decide) (by decide) rfl rfl rfl (sa_cons (sn_call (ok_law_draw T) (hr.mono (by decide)) rfl T.m_law_draw T.f_law_draw.kp T.b_law_draw .nil closed_nil passA (sa_cons (sn_var (pv 0)) (sa_cons (sn_add false (sn_callB call_lenA fn_len rfl T.n_len PySem.boot_len (sa_cons (sn_var (pv 3)) sa_nil)) sn_int) sa_nil))) (sa_cons (sn_call (ok_law_draw T) (hr.mono (by decide)) rfl T.m_law_draw T.f_law_draw.kp T.b_law_draw .nil closed_nil passA (sa_cons (sn_var (pv 0)) (sa_cons sn_int sa_nil))) (sa_cons (sn_call (ok_law_draw T) (hr.mono (by decide)) rfl T.m_law_draw T.f_law_draw.kp T.b_law_draw .nil closed_nil passA (sa_cons (sn_var (pv 0)) (sa_cons sn_int sa_nil))) sa_nil))) (by rfl)) (sb_cons (ss_set (i := 8) (sn_lst true sa_nil) sc_law_names.nd rfl (.inl rfl)) (sb_cons (ss_for (sl := [9]) PassesOwn.never rfl (si_range1 rfl T.n_range (sa_cons (sn_var (pv 1)) sa_nil)) (sg_name (pg_name (i := 9) sc_law_names.nd rfl (.inl rfl)) (by decide)) (sb_cons (ss_set (i := 10) (sn_add false (sn_add false (sn_sl false (sn_var (pv 3)) sp_none (sp_some (sn_var (pv 5)))) (sn_ix (sn_var (pv 2)) (sn_mod (sn_add false (sn_var (pv 6)) (sn_mul false sn_int (sn_var (pv 9)))) sn_int))) (sn_sl false (sn_var (pv 3)) (sp_some (sn_var (pv 5))) sp_none)) sc_law_names.nd rfl (.inl rfl)) (sb_cons (ss_if (st_cmp (op_gt.or op_gt_str) op2_ord (nomark _) (sn_mul false (sn_var (pv 7)) (sn_mod (sn_var (pv 9)) sn_int)) sn_int) (sb_one (ss_set (i := 10) (sn_add false (sn_sl false (sn_ix (sn_var (pv 8)) (sn_neg sn_int)) sp_none (sp_some (sn_callB call_lenA fn_len rfl T.n_len PySem.boot_len (sa_cons (sn_var (pv 10)) sa_nil)))) (sn_ix (sn_var (pv 2)) (sn_mod (sn_add false (sn_var (pv 6)) (sn_mul false sn_int (sn_var (pv 9)))) sn_int))) sc_law_names.nd rfl (.inl rfl))) sb_nil) (sb_one (ss_expr (sn_meth PySem.F.plainAttrs_list PySem.F.slot_list_append PySem.F.type_list_append mt_append mt1_append (sn_var (pv 8)) (sa_cons (sn_var (pv 10)) sa_nil))))))) (sb_one (ss_ret (sn_var (pv 8)))))))))
theorem ok_law_reply (T : Tx K mg cl) : FnOk P w K mg base CX0 2 T.a_law_reply T.d_law_reply ["_law_flow_here", "_law_what", "_law_ask", "_law_lots"] (spOf ⟨K, cl⟩ 4 g_law_reply) := by
  refine fn_def (B := B_law_reply) T.f_law_reply sc_law_reply (fun cdv A outer s H E hr => ?_) (fun ds M _ => ref_run B_law_reply 9 ds M)
  have hu := huE hr
  have hu1 := hu1E hr
  exact (sb_cons (ss_asg (sl := [4, 5]) (sn_var (pv 3)) (sg_tup rfl (sgs_cons (sg_name (pg_name (i := 4) sc_law_reply.nd rfl (.inl rfl)) (by decide)) (sgs_cons (sg_name (pg_name (i := 5) sc_law_reply.nd rfl (.inl rfl)) (by decide)) sgs_nil)))) (sb_cons (ss_if (st_cmp (op_eqP hu) op2_eq (nomark _) (sn_ix (sn_var (pv 1)) sn_int) (sn_strL (by decide +kernel))) (sb_cons (ss_set (i := 6) (sn_lst false (sa_cons (sn_tup (sa_cons (sn_tup (sa_cons (sn_strL (by decide +kernel)) (sa_cons (sn_var (pv 2)) (sa_cons (sn_strL (by decide +kernel)) sa_nil)))) (sa_cons (sn_tup (sa_cons (sn_strL (by decide +kernel)) (sa_cons (sn_strL (by decide +kernel)) sa_nil))) sa_nil))) (sa_cons (sn_tup (sa_cons (sn_tup (sa_cons (sn_strL (by decide +kernel)) (sa_cons (sn_var (pv 2)) (sa_cons (sn_strL (by decide +kernel)) sa_nil)))) (sa_cons (sn_tup (sa_cons (sn_strL (by decide +kernel)) (sa_cons (sn_strL (by decide +kernel)) sa_nil))) sa_nil))) sa_nil))) sc_law_reply.nd rfl (.inl rfl)) (sb_cons (ss_set (i := 7) (sn_tup (sa_cons (sn_tup (sa_cons (sn_strL (by decide +kernel)) (sa_cons (sn_var (pv 2)) (sa_cons (sn_ix (sn_var (pv 4)) sn_int) (sa_cons (sn_add false sn_int (sn_ix (sn_var (pv 2)) sn_int)) sa_nil))))) (sa_cons (sn_tup (sa_cons (sn_strL (by decide +kernel)) (sa_cons (sn_ix (sn_var (pv 4)) sn_int) (sa_cons (sn_add false sn_int (sn_ix (sn_var (pv 2)) sn_int)) sa_nil)))) sa_nil))) sc_law_reply.nd rfl (.inl rfl)) (sb_cons (ss_if (PW.pt (sw_and (st_cmp (op_gt.or op_gt_str) op2_ord (nomark _) (sn_var (pv 5)) sn_int) (sw_and1 (st_cmp (op_eqP hu) op2_eq (nomark _) (sn_call (ok_law_draw T) (hr.mono (by decide)) rfl T.m_law_draw T.f_law_draw.kp T.b_law_draw .nil closed_nil passA (sa_cons (sn_var (pv 0)) (sa_cons sn_int sa_nil))) sn_int)))) (sb_one (ss_ret (sn_tup (sa_cons (sn_tup (sa_cons (sn_strL (by decide +kernel)) (sa_cons (sn_var (pv 2)) sa_nil))) (sa_cons sn_non sa_nil))))) sb_nil) (sb_one (ss_ret (sn_ix (sn_add false (sn_var (pv 6)) (sn_lst false (sa_cons (sn_var (pv 7)) (sa_cons (sn_var (pv 7)) sa_nil)))) (sn_var (pv 5)))))))) sb_nil) (sb_cons (ss_if (st_cmp (op_eqP hu) op2_eq (nomark _) (sn_ix (sn_var (pv 1)) sn_int) (sn_strL (by decide +kernel))) (sb_one (ss_ret (sn_ix (sn_lst false (sa_cons (sn_tup (sa_cons (sn_tup (sa_cons (sn_strL (by decide +kernel)) (sa_cons (sn_var (pv 2)) sa_nil))) (sa_cons (sn_tup (sa_cons (sn_strL (by decide +kernel)) sa_nil)) sa_nil))) (sa_cons (sn_tup (sa_cons (sn_tup (sa_cons (sn_strL (by decide +kernel)) (sa_cons (sn_var (pv 2)) (sa_cons (sn_strL (by decide +kernel)) sa_nil)))) (sa_cons (sn_tup (sa_cons (sn_strL (by decide +kernel)) (sa_cons (sn_strL (by decide +kernel)) sa_nil))) sa_nil))) sa_nil))) (sn_mod (sn_var (pv 5)) sn_int)))) sb_nil) (sb_cons (ss_if (st_cmp (op_eqP hu) op2_eq (nomark _) (sn_ix (sn_ix (sn_var (pv 1)) sn_int) sn_int) (sn_ix (sn_var (pv 4)) sn_int)) (sb_one (ss_ret (sn_ix (sn_lst false (sa_cons (sn_tup (sa_cons (sn_tup (sa_cons (sn_strL (by decide +kernel)) (sa_cons (sn_var (pv 2)) sa_nil))) (sa_cons (sn_tup (sa_cons (sn_strL (by decide +kernel)) sa_nil)) sa_nil))) (sa_cons (sn_tup (sa_cons (sn_tup (sa_cons (sn_strL (by decide +kernel)) (sa_cons (sn_var (pv 2)) (sa_cons (sn_strL (by decide +kernel)) sa_nil)))) (sa_cons (sn_tup (sa_cons (sn_strL (by decide +kernel)) (sa_cons (sn_strL (by decide +kernel)) sa_nil))) sa_nil))) sa_nil))) (sn_mod (sn_var (pv 5)) sn_int)))) sb_nil) (sb_cons (ss_set (i := 8) (sn_tup (sa_cons (sn_strL (by decide +kernel)) (sa_cons (sn_var (pv 2)) (sa_cons (sn_add false sn_int (sn_ix (sn_var (pv 2)) sn_int)) (sa_cons (sn_tup (sa_cons (sn_ix (sn_var (pv 4)) sn_int) (sa_cons (sn_ix (sn_var (pv 4)) sn_int) sa_nil))) (sa_cons (sn_tup (sa_cons (sn_ix (sn_var (pv 4)) sn_int) sa_nil)) (sa_cons sn_int sa_nil))))))) sc_law_reply.nd rfl (.inl rfl)) (sb_one (ss_ret (sn_ix (sn_lst false (sa_cons (sn_tup (sa_cons (sn_var (pv 8)) (sa_cons (sn_tup (sa_cons (sn_strL (by decide +kernel)) (sa_cons (sn_ix (sn_var (pv 4)) sn_int) (sa_cons (sn_add false sn_int (sn_ix (sn_var (pv 2)) sn_int)) sa_nil)))) sa_nil))) (sa_cons (sn_tup (sa_cons (sn_tup (sa_cons (sn_strL (by decide +kernel)) (sa_cons (sn_var (pv 2)) (sa_cons (sn_strL (by decide +kernel)) sa_nil)))) (sa_cons (sn_tup (sa_cons (sn_strL (by decide +kernel)) (sa_cons (sn_strL (by decide +kernel)) sa_nil))) sa_nil))) sa_nil))) (sn_div (sn_var (pv 5)) sn_int)))))))))
theorem ok_replayed (T : Tx K mg cl) : FnOk P w K mg base CX0 3 T.a_replayed T.d_replayed ["rows", "being"] (spOf ⟨K, cl⟩ 2 g_replayed) := by
  refine fn_def (B := B_replayed) T.f_replayed sc_replayed (fun cdv A outer s H E hr => ?_) (fun ds M _ => ref_run B_replayed 8 ds M)
  have hu := huE hr
  have hu1 := hu1E hr
  exact (sb_cons (ss_par (i := 2) (j := 3) rfl sc_replayed.nd rfl rfl (by decide) rfl rfl (sa_cons (sn_make0 (c0 := 0) T.mk_Table (ok_Table___init__ T) (hr.mono (by decide)) rfl T.c_Table T.b_Table___init__ .nil closedK_nil passA) (sa_cons sn_dnewT sa_nil)) (by rfl)) (sb_cons (ss_for (sl := [4, 5, 6]) PassesOwn.never rfl (si_seq (sn_var (pv 0))) (sg_star (i := 2) rfl (sgs_cons (sg_name (pg_name (i := 4) sc_replayed.nd rfl (.inl rfl)) (by decide)) (sgs_cons (sg_name (pg_name (i := 5) sc_replayed.nd rfl (.inl rfl)) (by decide)) (sgs_star (sg_name (pg_name (i := 6) sc_replayed.nd rfl (.inl rfl)) (by decide)) sgs_nil))) (by decide)) (sb_cons (ss_if (PW.pt (sw_and (st_cmp (op_eqP hu) op2_eq (nomark _) (sn_var (pv 4)) (sn_strL (by decide +kernel))) (sw_and1 (st_cmp (op_eqP hu) op2_eq (nomark _) (sn_ixA hu (sn_var (pv 6)) sn_int) (sn_var (pv 1)))))) (sb_cons (ss_expr (sn_mth (c0 := 0) (sn_var (pv 2)) T.cls_Table T.me_Table_put (ok_Table_put T) (hr.mono (by decide)) T.b_Table_put .nil closedK_nil passA (sa_cons (sn_ixA hu (sn_var (pv 6)) sn_int) (sa_cons (sn_ixA hu (sn_var (pv 6)) sn_int) sa_nil)))) (sb_one (ss_asg (sl := []) (sn_callTy call_tuple_of fn_tuple rfl T.n_tuple (by decide +kernel) (sa_cons (sn_sl false (sn_var (pv 6)) (sp_some sn_int) (sp_some sn_int)) sa_nil)) (sg_ixA hu (sn_var (pv 3)) (sn_tup (sa_cons (sn_ixA hu (sn_var (pv 6)) sn_int) (sa_cons (sn_ixA hu (sn_var (pv 6)) sn_int) sa_nil))))))) sb_nil) (sb_one (ss_if (PW.pt (sw_and (st_cmp (op_eqP hu) op2_eq (nomark _) (sn_var (pv 4)) (sn_strL (by decide +kernel))) (sw_and1 (st_cmp (op_eqP hu) op2_eq (nomark _) (sn_ixA hu (sn_var (pv 6)) sn_int) (sn_var (pv 1)))))) (sb_one (ss_for (sl := [7]) PassesOwn.never rfl (si_seq (sn_mth0 (c0 := 0) (sn_var (pv 2)) T.cls_Table T.me_Table_handles (ok_Table_handles T) (hr.mono (by decide)) T.b_Table_handles .nil closedK_nil passA)) (sg_name (pg_name (i := 7) sc_replayed.nd rfl (.inl rfl)) (by decide)) (sb_one (ss_if (st_cmp (op_eqP hu) op2_eq (nomark _) (sn_ixA hu (sn_var (pv 7)) sn_int) (sn_ixA hu (sn_var (pv 6)) sn_int)) (sb_one (ss_expr (sn_mth (c0 := 0) (sn_var (pv 2)) T.cls_Table T.me_Table_drop (ok_Table_drop T) (hr.mono (by decide)) T.b_Table_drop .nil closedK_nil passA (sa_cons (sn_var (pv 7)) sa_nil)))) sb_nil)))) sb_nil)))) (sb_one (ss_ret (sn_tup (sa_cons (sn_var (pv 2)) (sa_cons (sn_var (pv 3)) sa_nil)))))))
theorem ok_Kernel___init__ (T : Tx K mg cl) : FnOk P w K mg base CX0 3 T.a_Kernel___init__ T.d_Kernel___init__ ["self", "plan", "house", "lease", "again"] (spOf ⟨K, cl⟩ 5 g_Kernel___init__) := by
  refine fn_def (B := B_Kernel___init__) T.f_Kernel___init__ sc_Kernel___init__ (fun cdv A outer s H E hr => ?_) (fun ds M _ => ref_run B_Kernel___init__ 5 ds M)
  have hu := huE hr
  have hu1 := hu1E hr
  exact (sb_cons (ss_fld (c0 := 3) T.cls_Kernel T.na_Kernel_plan (sn_var (pv 0)) (sn_var (pv 1))) (sb_cons (ss_fld (c0 := 3) T.cls_Kernel T.na_Kernel_house (sn_var (pv 0)) (sn_var (pv 2))) (sb_cons (ss_fld (c0 := 3) T.cls_Kernel T.na_Kernel_lease (sn_var (pv 0)) (sn_var (pv 3))) (sb_cons (ss_fld (c0 := 3) T.cls_Kernel T.na_Kernel_every (sn_var (pv 0)) (sn_var (pv 4))) (sb_cons (ss_fld (c0 := 3) T.cls_Kernel T.na_Kernel_stone (sn_var (pv 0)) (sn_make (c0 := 2) T.mk_Stone (ok_Stone___init__ T) (hr.mono (by decide)) rfl T.c_Stone T.b_Stone___init__ .nil closedK_nil passA (sa_cons (sn_call (ok_first_rows T) (hr.mono (by decide)) rfl T.m_first_rows T.f_first_rows.kp T.b_first_rows .nil closed_nil passA (sa_cons (sn_var (pv 1)) (sa_cons (sn_var (pv 2)) sa_nil))) sa_nil))) (sb_cons (ss_fld (c0 := 3) T.cls_Kernel T.na_Kernel_letters (sn_var (pv 0)) (sn_lst true sa_nil)) (sb_cons (ss_fld (c0 := 3) T.cls_Kernel T.na_Kernel_kept (sn_var (pv 0)) sn_dnewT) (sb_one (ss_fld (c0 := 3) T.cls_Kernel T.na_Kernel_opened (sn_var (pv 0)) sn_dnewK)))))))))
theorem ok_Kernel_asked (T : Tx K mg cl) : FnOk P w K mg base CX0 3 T.a_Kernel_asked T.d_Kernel_asked ["self", "tick", "what"] (spOf ⟨K, cl⟩ 3 g_Kernel_asked) := by
  refine fn_def (B := B_Kernel_asked) T.f_Kernel_asked sc_Kernel_asked (fun cdv A outer s H E hr => ?_) (fun ds M _ => ref_run B_Kernel_asked 4 ds M)
  have hu := huE hr
  have hu1 := hu1E hr
  exact (sb_cons (ss_set (i := 3) (sn_callB call_lenAA fn_lenA rfl T.n_len PySem.boot_len (sa_cons (sn_call (ok_asks T) (hr.mono (by decide)) rfl T.m_asks T.f_asks.kp T.b_asks .nil closed_nil passA (sa_cons (sn_mth0 (c0 := 2) (sn_fld (c0 := 3) T.cls_Kernel T.na_Kernel_stone (sn_var (pv 0))) T.cls_Stone T.me_Stone_rows (ok_Stone_rows T) (hr.mono (by decide)) T.b_Stone_rows .nil closedK_nil passA) sa_nil)) sa_nil)) sc_Kernel_asked.nd rfl (.inl rfl)) (sb_cons (ss_expr (sn_mth (c0 := 3) (sn_var (pv 0)) T.cls_Kernel T.me_Kernel_wrote (ok_Kernel_wrote T) (hr.mono (by decide)) T.b_Kernel_wrote .nil closedK_nil passA (sa_cons (sn_tup (sa_cons (sn_strL (by decide +kernel)) (sa_cons (sn_var (pv 1)) (sa_cons (sn_var (pv 3)) (sa_cons (sn_var (pv 2)) sa_nil))))) sa_nil))) (sb_one (ss_ret (sn_var (pv 3))))))
theorem ok_Kernel_take_said (T : Tx K mg cl) : FnOk P w K mg base CX0 3 T.a_Kernel_take_said T.d_Kernel_take_said ["self", "sender", "what", "tick"] (spOf ⟨K, cl⟩ 4 g_Kernel_take_said) := by
  refine fn_def (B := B_Kernel_take_said) T.f_Kernel_take_said sc_Kernel_take_said (fun cdv A outer s H E hr => ?_) (fun ds M _ => ref_run B_Kernel_take_said 12 ds M)
  have hu := huE hr
  have hu1 := hu1E hr
  exact (sb_cons (ss_asg (sl := [4, 5, 6, 7]) (sn_var (pv 2)) (sg_star (i := 2) rfl (sgs_cons (sg_name (pg_name (i := 4) sc_Kernel_take_said.nd rfl (.inl rfl)) (by decide)) (sgs_cons (sg_tup rfl (sgs_cons (sg_name (pg_name (i := 5) sc_Kernel_take_said.nd rfl (.inl rfl)) (by decide)) (sgs_cons (sg_name (pg_name (i := 6) sc_Kernel_take_said.nd rfl (.inl rfl)) (by decide)) sgs_nil))) (sgs_star (sg_name (pg_name (i := 7) sc_Kernel_take_said.nd rfl (.inl rfl)) (by decide)) sgs_nil))) (by decide))) (sb_cons (ss_set (i := 8) (sn_mth0 (c0 := 2) (sn_fld (c0 := 3) T.cls_Kernel T.na_Kernel_stone (sn_var (pv 0))) T.cls_Stone T.me_Stone_rows (ok_Stone_rows T) (hr.mono (by decide)) T.b_Stone_rows .nil closedK_nil passA) sc_Kernel_take_said.nd rfl (.inl rfl)) (sb_cons (ss_set (i := 9) (sn_call (ok_asks T) (hr.mono (by decide)) rfl T.m_asks T.f_asks.kp T.b_asks .nil closed_nil passA (sa_cons (sn_var (pv 8)) sa_nil)) sc_Kernel_take_said.nd rfl (.inl rfl)) (sb_cons (ss_if (PW.pt (sw_or (st_cmp (op_notInA hu) op2_notInA rfl (sn_var (pv 6)) (sn_var (pv 9))) (sw_or1 (st_notN (sn_ixA hu (sn_ixA hu (sn_var (pv 9)) (sn_var (pv 6))) sn_int))))) (sb_one ss_retN) sb_nil) (sb_cons (ss_if (st_cmp (op_eqP hu) op2_eq (nomark _) (sn_var (pv 4)) (sn_strL (by decide +kernel))) (sb_cons (ss_asg (sl := []) (sn_meth PySem.F.plainAttrs_dict PySem.F.slot_dict_get PySem.F.type_dict_get (mt_dget hu) mt1_dget (sn_fld (c0 := 3) T.cls_Kernel T.na_Kernel_opened (sn_var (pv 0))) (sa_cons (sn_var (pv 6)) (sa_cons (sn_var (pv 3)) sa_nil))) (sg_ixA hu (sn_fld (c0 := 3) T.cls_Kernel T.na_Kernel_opened (sn_var (pv 0))) (sn_var (pv 6)))) (sb_one ss_retN)) sb_nil) (sb_cons (ss_set (i := 10) (sn_add false (sn_tup (sa_cons (sn_var (pv 4)) sa_nil)) (sn_callTy call_tuple_of fn_tuple rfl T.n_tuple (by decide +kernel) (sa_cons (sn_var (pv 7)) sa_nil))) sc_Kernel_take_said.nd rfl (.inl rfl)) (sb_cons (ss_if (st_cmp (op_eqP hu) op2_eq (nomark _) (sn_var (pv 4)) (sn_strL (by decide +kernel))) (sb_cons (ss_set (i := 11) (sn_call (ok_put_row T) (hr.mono (by decide)) rfl T.m_put_row T.f_put_row.kp T.b_put_row .nil closed_nil passA (sa_cons (sn_var (pv 8)) (sa_cons (sn_var (pv 3)) (sa_cons (sn_var (pv 1)) (sa_cons (sn_add false (sn_var (pv 2)) (sn_tup (sa_cons (sn_ixA hu (sn_ixA hu (sn_ixA hu (sn_var (pv 9)) (sn_var (pv 6))) sn_int) sn_int) sa_nil))) sa_nil))))) sc_Kernel_take_said.nd rfl (.inl rfl)) (sb_cons (ss_if (st_notN (sn_var (pv 11))) (sb_one (ss_expr (sn_mth (c0 := 2) (sn_fld (c0 := 3) T.cls_Kernel T.na_Kernel_stone (sn_var (pv 0))) T.cls_Stone T.me_Stone_write (ok_Stone_write T) (hr.mono (by decide)) T.b_Stone_write .nil closedK_nil passA (sa_cons (sn_var (pv 11)) sa_nil)))) sb_nil) (sb_one (ss_set (i := 10) (sn_tup (sa_cons (sn_strL (by decide +kernel)) (sa_cons (sn_var (pv 1)) (sa_cons (sn_ixA hu (sn_var (pv 7)) sn_int) sa_nil)))) sc_Kernel_take_said.nd rfl (.inl rfl))))) sb_nil) (sb_one (ss_expr (sn_mth (c0 := 2) (sn_fld (c0 := 3) T.cls_Kernel T.na_Kernel_stone (sn_var (pv 0))) T.cls_Stone T.me_Stone_write (ok_Stone_write T) (hr.mono (by decide)) T.b_Stone_write .nil closedK_nil passA (sa_cons (sn_tup (sa_cons (sn_strL (by decide +kernel)) (sa_cons (sn_var (pv 3)) (sa_cons (sn_var (pv 6)) (sa_cons (sn_var (pv 10)) sa_nil))))) sa_nil)))))))))))
theorem ok_table (T : Tx K mg cl) : FnOk P w K mg base CX0 4 T.a_table T.d_table ["rows", "being"] (spOf ⟨K, cl⟩ 2 g_table) := by
  refine fn_def (B := B_table) T.f_table sc_table (fun cdv A outer s H E hr => ?_) (fun ds M _ => ref_gc B_table 5 ds M)
  have hu := huE hr
  have hu1 := hu1E hr
  exact (sb_cons (ss_asg (sl := [2, 3]) (sn_call (ok_replayed T) (hr.mono (by decide)) rfl T.m_replayed T.f_replayed.kp T.b_replayed .nil closed_nil passA (sa_cons (sn_var (pv 0)) (sa_cons (sn_var (pv 1)) sa_nil))) (sg_tup rfl (sgs_cons (sg_name (pg_name (i := 2) sc_table.nd rfl (.inr rfl)) (by decide)) (sgs_cons (sg_name (pg_name (i := 3) sc_table.nd rfl (.inr rfl)) (by decide)) sgs_nil)))) (sb_one (ss_ret (sn_lc false (own := [("handle", 4)]) rfl sc_table.nd (si_seq (sn_mth0 (c0 := 0) (sn_var (pv 2)) T.cls_Table T.me_Table_handles (ok_Table_handles T) (hr.mono (by decide)) T.b_Table_handles .nil closedK_nil passA)) (blkOk_by (N := ["rows", "being", "found", "things", "handle"]) (sc := defScope s_table) (by decide +kernel)) (fun _ _ _ _ _ => (sg_name (pg_name (i := 4) sc_table.nd rfl (.inl rfl)) (by decide))) (fun _ _ _ _ _ => sts_nil) (fun _ _ _ _ _ => (sn_add false (sn_add false (sn_tup (sa_cons (sn_var (pv 4)) sa_nil)) (sn_mth (c0 := 0) (sn_var (pv 2)) T.cls_Table T.me_Table_leads (ok_Table_leads T) (hr.mono (by decide)) T.b_Table_leads .nil closedK_nil passA (sa_cons (sn_var (pv 4)) sa_nil))) (sn_ixA hu (sn_var (pv 3)) (sn_mth (c0 := 0) (sn_var (pv 2)) T.cls_Table T.me_Table_leads (ok_Table_leads T) (hr.mono (by decide)) T.b_Table_leads .nil closedK_nil passA (sa_cons (sn_var (pv 4)) sa_nil)))))))))
theorem ok_Kernel_take (T : Tx K mg cl) : FnOk P w K mg base CX0 4 T.a_Kernel_take T.d_Kernel_take ["self", "sender", "what", "tick"] (spOf ⟨K, cl⟩ 4 g_Kernel_take) := by
  refine fn_def (B := B_Kernel_take) T.f_Kernel_take sc_Kernel_take (fun cdv A outer s H E hr => ?_) (fun ds M _ => ref_run B_Kernel_take 5 ds M)
  have hu := huE hr
  have hu1 := hu1E hr
  exact (sb_one (ss_if (st_cmp op_in_seq op2_inF rfl (sn_ix (sn_var (pv 2)) sn_int) (sn_tup (sa_cons (sn_strL (by decide +kernel)) (sa_cons (sn_strL (by decide +kernel)) (sa_cons (sn_strL (by decide +kernel)) (sa_cons (sn_strL (by decide +kernel)) (sa_cons (sn_strL (by decide +kernel)) (sa_cons (sn_strL (by decide +kernel)) sa_nil)))))))) (sb_one ss_dead) (sb_one (ss_if (st_cmp (op_eqP hu) op2_eq (nomark _) (sn_ix (sn_var (pv 2)) sn_int) (sn_strL (by decide +kernel))) (sb_cons ss_dead (sb_one ss_dead)) (sb_one (ss_expr (sn_mth (c0 := 3) (sn_var (pv 0)) T.cls_Kernel T.me_Kernel_take_said (ok_Kernel_take_said T) (hr.mono (by decide)) T.b_Kernel_take_said .nil closedK_nil passA (sa_cons (sn_var (pv 1)) (sa_cons (sn_var (pv 2)) (sa_cons (sn_var (pv 3)) sa_nil))))))))))
theorem ok_Kernel_led (T : Tx K mg cl) : FnOk P w K mg base CX0 5 T.a_Kernel_led T.d_Kernel_led ["self", "person", "handle"] (spOf ⟨K, cl⟩ 3 g_Kernel_led) := by
  refine fn_def (B := B_Kernel_led) T.f_Kernel_led sc_Kernel_led (fun cdv A outer s H E hr => ?_) (fun ds M _ => ref_run B_Kernel_led 4 ds M)
  have hu := huE hr
  have hu1 := hu1E hr
  exact (sb_cons (ss_expr (sn_mth0 (c0 := 2) (sn_fld (c0 := 3) T.cls_Kernel T.na_Kernel_stone (sn_var (pv 0))) T.cls_Stone T.me_Stone_settle (ok_Stone_settle T) (hr.mono (by decide)) T.b_Stone_settle .nil closedK_nil passA)) (sb_cons (ss_for (sl := [3]) PassesOwn.never rfl (si_seq (sn_call (ok_table T) (hr.mono (by decide)) rfl T.m_table_replay T.f_table.kp T.b_table .nil closed_nil passA (sa_cons (sn_mth0 (c0 := 2) (sn_fld (c0 := 3) T.cls_Kernel T.na_Kernel_stone (sn_var (pv 0))) T.cls_Stone T.me_Stone_rows (ok_Stone_rows T) (hr.mono (by decide)) T.b_Stone_rows .nil closedK_nil passA) (sa_cons (sn_tup (sa_cons (sn_fld (c0 := 3) T.cls_Kernel T.na_Kernel_house (sn_var (pv 0))) (sa_cons (sn_var (pv 1)) sa_nil))) sa_nil)))) (sg_name (pg_name (i := 3) sc_Kernel_led.nd rfl (.inl rfl)) (by decide)) (sb_one (ss_if (st_cmp (op_eqP hu) op2_eq (nomark _) (sn_ix (sn_var (pv 3)) sn_int) (sn_var (pv 2))) (sb_one (ss_ret (sn_var (pv 3)))) sb_nil))) (sb_one ss_dead)))
theorem ok_Kernel_table (T : Tx K mg cl) : FnOk P w K mg base CX0 5 T.a_Kernel_table T.d_Kernel_table ["self", "person"] (spOf ⟨K, cl⟩ 2 g_Kernel_table) := by
  refine fn_def (B := B_Kernel_table) T.f_Kernel_table sc_Kernel_table (fun cdv A outer s H E hr => ?_) (fun ds M _ => ref_run B_Kernel_table 2 ds M)
  have hu := huE hr
  have hu1 := hu1E hr
  exact (sb_cons (ss_expr (sn_mth0 (c0 := 2) (sn_fld (c0 := 3) T.cls_Kernel T.na_Kernel_stone (sn_var (pv 0))) T.cls_Stone T.me_Stone_settle (ok_Stone_settle T) (hr.mono (by decide)) T.b_Stone_settle .nil closedK_nil passA)) (sb_one (ss_ret (sn_call (ok_table T) (hr.mono (by decide)) rfl T.m_table_replay T.f_table.kp T.b_table .nil closed_nil passA (sa_cons (sn_mth0 (c0 := 2) (sn_fld (c0 := 3) T.cls_Kernel T.na_Kernel_stone (sn_var (pv 0))) T.cls_Stone T.me_Stone_rows (ok_Stone_rows T) (hr.mono (by decide)) T.b_Stone_rows .nil closedK_nil passA) (sa_cons (sn_tup (sa_cons (sn_fld (c0 := 3) T.cls_Kernel T.na_Kernel_house (sn_var (pv 0))) (sa_cons (sn_var (pv 1)) sa_nil))) sa_nil))))))
theorem ok_Kernel_hand (T : Tx K mg cl) : FnOk P w K mg base CX0 6 T.a_Kernel_hand T.d_Kernel_hand ["self", "person", "handle", "way", "rights", "far", "tick"] (spOf ⟨K, cl⟩ 7 g_Kernel_hand) := by
  refine fn_def (B := B_Kernel_hand) T.f_Kernel_hand sc_Kernel_hand (fun cdv A outer s H E hr => ?_) (fun ds M _ => ref_run B_Kernel_hand 20 ds M)
  have hu := huE hr
  have hu1 := hu1E hr
  exact (sb_cons (ss_asg (sl := [7, 8, 9, 10, 11, 12]) (sn_mth (c0 := 3) (sn_var (pv 0)) T.cls_Kernel T.me_Kernel_led (ok_Kernel_led T) (hr.mono (by decide)) T.b_Kernel_led .nil closedK_nil passA (sa_cons (sn_var (pv 1)) (sa_cons (sn_var (pv 2)) sa_nil))) (sg_tup rfl (sgs_cons (sg_name (pg_name (i := 7) sc_Kernel_hand.nd rfl (.inl rfl)) (by decide)) (sgs_cons (sg_name (pg_name (i := 8) sc_Kernel_hand.nd rfl (.inl rfl)) (by decide)) (sgs_cons (sg_name (pg_name (i := 9) sc_Kernel_hand.nd rfl (.inl rfl)) (by decide)) (sgs_cons (sg_name (pg_name (i := 10) sc_Kernel_hand.nd rfl (.inl rfl)) (by decide)) (sgs_cons (sg_name (pg_name (i := 11) sc_Kernel_hand.nd rfl (.inl rfl)) (by decide)) (sgs_cons (sg_name (pg_name (i := 12) sc_Kernel_hand.nd rfl (.inl rfl)) (by decide)) sgs_nil)))))))) (sb_cons (ss_asg (sl := [13, 14, 15, 16, 17, 18]) (sn_mth (c0 := 3) (sn_var (pv 0)) T.cls_Kernel T.me_Kernel_led (ok_Kernel_led T) (hr.mono (by decide)) T.b_Kernel_led .nil closedK_nil passA (sa_cons (sn_var (pv 1)) (sa_cons (sn_var (pv 3)) sa_nil))) (sg_tup rfl (sgs_cons (sg_name (pg_name (i := 13) sc_Kernel_hand.nd rfl (.inl rfl)) (by decide)) (sgs_cons (sg_name (pg_name (i := 14) sc_Kernel_hand.nd rfl (.inl rfl)) (by decide)) (sgs_cons (sg_name (pg_name (i := 15) sc_Kernel_hand.nd rfl (.inl rfl)) (by decide)) (sgs_cons (sg_name (pg_name (i := 16) sc_Kernel_hand.nd rfl (.inl rfl)) (by decide)) (sgs_cons (sg_name (pg_name (i := 17) sc_Kernel_hand.nd rfl (.inl rfl)) (by decide)) (sgs_cons (sg_name (pg_name (i := 18) sc_Kernel_hand.nd rfl (.inl rfl)) (by decide)) sgs_nil)))))))) (sb_cons (ss_if (PW.pt (sw_or (st_cmp op_notIn_seq op2_inF rfl (sn_strL (by decide +kernel)) (sn_var (pv 17))) (sw_or1 (st_cmp (op_notInP hu) op2_inD rfl (sn_var (pv 16)) (sn_call (ok_beings T) (hr.mono (by decide)) rfl T.m_beings T.f_beings.kp T.b_beings .nil closed_nil passA (sa_cons (sn_fld (c0 := 3) T.cls_Kernel T.na_Kernel_plan (sn_var (pv 0))) sa_nil)))))) (sb_one ss_dead) sb_nil) (sb_cons (ss_for (sl := [19]) PassesOwn.never rfl (si_seq (sn_var (pv 4))) (sg_name (pg_name (i := 19) sc_Kernel_hand.nd rfl (.inl rfl)) (by decide)) (sb_one (ss_if (st_cmp op_notIn_seq op2_inF rfl (sn_var (pv 19)) (sn_var (pv 11))) (sb_one ss_dead) sb_nil))) (sb_cons (ss_if (st_cmp (op_ge.or op_ge_str) op2_ord (nomark _) (sn_var (pv 5)) (sn_var (pv 12))) (sb_one ss_dead) sb_nil) (sb_one (ss_ret (sn_mth (c0 := 3) (sn_var (pv 0)) T.cls_Kernel T.me_Kernel_asked (ok_Kernel_asked T) (hr.mono (by decide)) T.b_Kernel_asked .nil closedK_nil passA (sa_cons (sn_var (pv 6)) (sa_cons (sn_tup (sa_cons (sn_strL (by decide +kernel)) (sa_cons (sn_tup (sa_cons (sn_fld (c0 := 3) T.cls_Kernel T.na_Kernel_house (sn_var (pv 0))) (sa_cons (sn_var (pv 1)) sa_nil))) (sa_cons (sn_var (pv 8)) (sa_cons (sn_var (pv 9)) (sa_cons (sn_var (pv 4)) (sa_cons (sn_var (pv 5)) (sa_cons (sn_var (pv 15)) (sa_cons (sn_var (pv 16)) sa_nil))))))))) sa_nil))))))))))
theorem ok_Kernel_cut (T : Tx K mg cl) : FnOk P w K mg base CX0 6 T.a_Kernel_cut T.d_Kernel_cut ["self", "person", "own", "number", "tick"] (spOf ⟨K, cl⟩ 5 g_Kernel_cut) := by
  refine fn_def (B := B_Kernel_cut) T.f_Kernel_cut sc_Kernel_cut (fun cdv A outer s H E hr => ?_) (fun ds M _ => ref_run B_Kernel_cut 11 ds M)
  have hu := huE hr
  have hu1 := hu1E hr
  exact (sb_cons (ss_asg (sl := [5, 6, 7, 8, 9, 10]) (sn_mth (c0 := 3) (sn_var (pv 0)) T.cls_Kernel T.me_Kernel_led (ok_Kernel_led T) (hr.mono (by decide)) T.b_Kernel_led .nil closedK_nil passA (sa_cons (sn_var (pv 1)) (sa_cons (sn_var (pv 2)) sa_nil))) (sg_tup rfl (sgs_cons (sg_name (pg_name (i := 5) sc_Kernel_cut.nd rfl (.inl rfl)) (by decide)) (sgs_cons (sg_name (pg_name (i := 6) sc_Kernel_cut.nd rfl (.inl rfl)) (by decide)) (sgs_cons (sg_name (pg_name (i := 7) sc_Kernel_cut.nd rfl (.inl rfl)) (by decide)) (sgs_cons (sg_name (pg_name (i := 8) sc_Kernel_cut.nd rfl (.inl rfl)) (by decide)) (sgs_cons (sg_name (pg_name (i := 9) sc_Kernel_cut.nd rfl (.inl rfl)) (by decide)) (sgs_cons (sg_name (pg_name (i := 10) sc_Kernel_cut.nd rfl (.inl rfl)) (by decide)) sgs_nil)))))))) (sb_one (ss_ret (sn_mth (c0 := 3) (sn_var (pv 0)) T.cls_Kernel T.me_Kernel_asked (ok_Kernel_asked T) (hr.mono (by decide)) T.b_Kernel_asked .nil closedK_nil passA (sa_cons (sn_var (pv 4)) (sa_cons (sn_tup (sa_cons (sn_strL (by decide +kernel)) (sa_cons (sn_tup (sa_cons (sn_fld (c0 := 3) T.cls_Kernel T.na_Kernel_house (sn_var (pv 0))) (sa_cons (sn_var (pv 1)) sa_nil))) (sa_cons (sn_var (pv 6)) (sa_cons (sn_var (pv 7)) (sa_cons (sn_var (pv 3)) sa_nil)))))) sa_nil))))))
theorem ok_Kernel_call (T : Tx K mg cl) : FnOk P w K mg base CX0 6 T.a_Kernel_call T.d_Kernel_call ["self", "person", "way", "word", "what", "tick"] (spOf ⟨K, cl⟩ 6 g_Kernel_call) := by
  refine fn_def (B := B_Kernel_call) T.f_Kernel_call sc_Kernel_call (fun cdv A outer s H E hr => ?_) (fun ds M _ => ref_run B_Kernel_call 12 ds M)
  have hu := huE hr
  have hu1 := hu1E hr
  exact (sb_cons (ss_asg (sl := [6, 7, 8, 9, 10, 11]) (sn_mth (c0 := 3) (sn_var (pv 0)) T.cls_Kernel T.me_Kernel_led (ok_Kernel_led T) (hr.mono (by decide)) T.b_Kernel_led .nil closedK_nil passA (sa_cons (sn_var (pv 1)) (sa_cons (sn_var (pv 2)) sa_nil))) (sg_tup rfl (sgs_cons (sg_name (pg_name (i := 6) sc_Kernel_call.nd rfl (.inl rfl)) (by decide)) (sgs_cons (sg_name (pg_name (i := 7) sc_Kernel_call.nd rfl (.inl rfl)) (by decide)) (sgs_cons (sg_name (pg_name (i := 8) sc_Kernel_call.nd rfl (.inl rfl)) (by decide)) (sgs_cons (sg_name (pg_name (i := 9) sc_Kernel_call.nd rfl (.inl rfl)) (by decide)) (sgs_cons (sg_name (pg_name (i := 10) sc_Kernel_call.nd rfl (.inl rfl)) (by decide)) (sgs_cons (sg_name (pg_name (i := 11) sc_Kernel_call.nd rfl (.inl rfl)) (by decide)) sgs_nil)))))))) (sb_cons (ss_if (PW.pt (sw_or (st_cmp op_notIn_seq op2_inF rfl (sn_strL (by decide +kernel)) (sn_var (pv 10))) (sw_or1 (st_isN (sn_call (ok_servant_at T) (hr.mono (by decide)) rfl T.m_servant_at T.f_servant_at.kp T.b_servant_at .nil closed_nil passA (sa_cons (sn_fld (c0 := 3) T.cls_Kernel T.na_Kernel_plan (sn_var (pv 0))) (sa_cons (sn_var (pv 9)) sa_nil))))))) (sb_one ss_dead) sb_nil) (sb_one (ss_ret (sn_mth (c0 := 3) (sn_var (pv 0)) T.cls_Kernel T.me_Kernel_asked (ok_Kernel_asked T) (hr.mono (by decide)) T.b_Kernel_asked .nil closedK_nil passA (sa_cons (sn_var (pv 5)) (sa_cons (sn_tup (sa_cons (sn_strL (by decide +kernel)) (sa_cons (sn_tup (sa_cons (sn_fld (c0 := 3) T.cls_Kernel T.na_Kernel_house (sn_var (pv 0))) (sa_cons (sn_var (pv 1)) sa_nil))) (sa_cons (sn_var (pv 8)) (sa_cons (sn_var (pv 9)) (sa_cons (sn_var (pv 3)) (sa_cons (sn_var (pv 4)) sa_nil))))))) sa_nil)))))))
theorem ok_law_said_right (T : Tx K mg cl) : FnG P w K mg base CX0 6 T.a_law_said_right T.d_law_said_right ["_law_kernel", "_law_holder", "_law_row", "_law_lots"] (spOf ⟨K, cl⟩ 4 g_law_said_right) := by
  refine fn_defG (B := B_law_said_right) T.f_law_said_right sc_law_said_right (fun cdv A outer s H E hgd hr => ?_) (fun ds M _ => ref_run B_law_said_right 14 ds M)
  have hu := huE hr
  have hu1 := hu1E hr
  exact (sb_cons (ss_asg (sl := [4, 5, 6, 7]) (sn_var (pv 3)) (sg_tup rfl (sgs_cons (sg_name (pg_name (i := 4) sc_law_said_right.nd rfl (.inr rfl)) (by decide)) (sgs_cons (sg_name (pg_name (i := 5) sc_law_said_right.nd rfl (.inr rfl)) (by decide)) (sgs_cons (sg_name (pg_name (i := 6) sc_law_said_right.nd rfl (.inl rfl)) (by decide)) (sgs_cons (sg_name (pg_name (i := 7) sc_law_said_right.nd rfl (.inl rfl)) (by decide)) sgs_nil)))))) (sb_cons (ss_par (i := 8) (j := 9) rfl sc_law_said_right.nd rfl rfl (by decide) rfl rfl (sa_cons (sn_mth0 (c0 := 3) (sn_var (pv 0)) T.cls_Kernel T.me_Kernel_rows (ok_Kernel_rows T) (hr.mono (by decide)) T.b_Kernel_rows .nil closedK_nil passA) (sa_cons (sn_tup sa_nil) sa_nil)) (by rfl)) (sb_cons (ss_set (i := 10) (sn_mth (c0 := 3) (sn_var (pv 0)) T.cls_Kernel T.me_Kernel_answer (ok_Kernel_answer T) (hr.mono (by decide)) T.b_Kernel_answer .nil closedK_nil passA (sa_cons (sn_ix (sn_var (pv 2)) sn_int) sa_nil)) sc_law_said_right.nd rfl (.inl rfl)) (sb_cons (ss_expr (sn_mth (c0 := 3) (sn_var (pv 0)) T.cls_Kernel T.me_Kernel_take (ok_Kernel_take T) (hr.mono (by decide)) T.b_Kernel_take .nil closedK_nil passA (sa_cons (sn_var (pv 4)) (sa_cons (sn_var (pv 5)) (sa_cons (sn_var (pv 7)) sa_nil))))) (sb_cons (ss_if (PW.pt (sw_and (st_isN (sn_var (pv 10))) (sw_and1 (st_notN (sn_var (pv 6)))))) (sb_cons (ss_set (i := 9) (sn_tup (sa_cons (sn_tup (sa_cons (sn_strL (by decide +kernel)) (sa_cons (sn_var (pv 7)) (sa_cons (sn_ix (sn_var (pv 2)) sn_int) (sa_cons (sn_var (pv 6)) sa_nil))))) sa_nil)) sc_law_said_right.nd rfl (.inl rfl)) (sb_cons (ss_if (st_cmp (op_eqP hu) op2_eq (nomark _) (sn_ix (sn_var (pv 5)) sn_int) (sn_strL (by decide +kernel))) (sb_cons (ss_setLc false (i := 11) (own := [("_law_one", 12)]) rfl sc_law_said_right.nd rfl rfl (sw_true rfl rfl rfl (by decide +kernel)) (si_seq (sn_var (pv 8))) (blkOk_by (N := ["_law_kernel", "_law_holder", "_law_row", "_law_lots", "_law_sender", "_law_reply_here", "_law_answer", "_law_tick", "_law_rows", "_law_more", "_law_known", "_law_lain", "_law_one", "_law_own"]) (sc := defScope s_law_said_right) (by decide +kernel)) (fun _ _ _ _ _ => (sg_name (pg_name (i := 12) sc_law_said_right.nd rfl (.inl rfl)) (by decide))) (fun _ _ _ _ _ => (sts_one (PW.pt (sw_and (st_cmp (op_eqP hu) op2_eq (nomark _) (sn_ix (sn_var (pv 12)) sn_int) (sn_strL (by decide +kernel))) (sw_and1 (st_cmp (op_eqP hu) op2_eq (nomark _) (sn_sl false (sn_var (pv 12)) (sp_some sn_int) (sp_some sn_int)) (sn_tup (sa_cons (sn_var (pv 4)) (sa_cons (sn_ix (sn_var (pv 5)) sn_int) sa_nil))))))))) (fun _ _ _ _ _ => (sn_var (pv 12)))) (sb_cons (ss_set (i := 13) (sn_add false (sn_add false (sn_tup (sa_cons (sn_strL (by decide +kernel)) (sa_cons (sn_var (pv 7)) (sa_cons (sn_var (pv 1)) (sa_cons (sn_var (pv 4)) sa_nil))))) (sn_sl false (sn_var (pv 5)) (sp_some sn_int) sp_none)) (sn_tup (sa_cons (sn_ix (sn_var (pv 5)) sn_int) sa_nil))) sc_law_said_right.nd rfl (.inl rfl)) (sb_one (ss_set (i := 9) (sn_add false (sn_rep01 (sn_tup (sa_cons (sn_var (pv 13)) sa_nil)) (sn_callTy call_int1 fn_int rfl T.n_int (by decide +kernel) (sa_cons (sn_eq hu (sn_var (pv 11)) (sn_lst false sa_nil)) sa_nil))) (sn_var (pv 9))) sc_law_said_right.nd rfl (.inl rfl))))) sb_nil) (sb_one (ss_set (i := 10) (sn_var (pv 6)) sc_law_said_right.nd rfl (.inl rfl))))) sb_nil) (sb_cons (ss_if (PW.pt (sw_or (st_cmp (op_neP hu) op2_ne (nomark _) (sn_callB (cr_repr hgd hu) fn_repr rfl T.n_repr PyProof.Rows.boot_repr (sa_cons (sn_mth0 (c0 := 3) (sn_var (pv 0)) T.cls_Kernel T.me_Kernel_rows (ok_Kernel_rows T) (hr.mono (by decide)) T.b_Kernel_rows .nil closedK_nil passA) sa_nil)) (sn_callB (cr_repr hgd hu) fn_repr rfl T.n_repr PyProof.Rows.boot_repr (sa_cons (sn_add false (sn_var (pv 8)) (sn_var (pv 9))) sa_nil))) (sw_or1 (st_cmp (op_neP hu) op2_ne (nomark _) (sn_callB (cr_repr hgd hu) fn_repr rfl T.n_repr PyProof.Rows.boot_repr (sa_cons (sn_mth (c0 := 3) (sn_var (pv 0)) T.cls_Kernel T.me_Kernel_answer (ok_Kernel_answer T) (hr.mono (by decide)) T.b_Kernel_answer .nil closedK_nil passA (sa_cons (sn_ix (sn_var (pv 2)) sn_int) sa_nil)) sa_nil)) (sn_callB (cr_repr hgd hu) fn_repr rfl T.n_repr PyProof.Rows.boot_repr (sa_cons (sn_var (pv 10)) sa_nil)))))) (sb_one (ss_ret sn_bl)) sb_nil) (sb_one (ss_ret (sn_eq hu (sn_callB (cr_repr hgd hu) fn_repr rfl T.n_repr PyProof.Rows.boot_repr (sa_cons (sn_mth (c0 := 3) (sn_var (pv 0)) T.cls_Kernel T.me_Kernel_table (ok_Kernel_table T) (hr.mono (by decide)) T.b_Kernel_table .nil closedK_nil passA (sa_cons (sn_ix (sn_var (pv 1)) sn_int) sa_nil)) sa_nil)) (sn_callB (cr_repr hgd hu) fn_repr rfl T.n_repr PyProof.Rows.boot_repr (sa_cons (sn_call (ok_law_handles T) (hr.mono (by decide)) rfl T.m_law_handles T.f_law_handles.kp T.b_law_handles .nil closed_nil passA (sa_cons (sn_add false (sn_var (pv 8)) (sn_var (pv 9))) (sa_cons (sn_var (pv 1)) sa_nil))) sa_nil)))))))))))
theorem ok_law (T : Tx K mg cl) : FnG P w K mg base CX0 7 T.a_law T.d_law ["_law_script"] (spOf ⟨K, cl⟩ 1 g_law) := by
  refine fn_defG (B := B_law) T.f_law sc_law (fun cdv A outer s H E hgd hr => ?_) (fun ds M _ => ref_run B_law 17 ds M)
  have hu := huE hr
  have hu1 := hu1E hr
  exact (sb_cons (ss_for (sl := [1]) PassesOwn.never rfl (si_range1 rfl T.n_range (sa_cons (sn_callB (call_max2 rfl) fn_2I rfl T.n_max (by decide +kernel) (sa_cons sn_int (sa_cons (sn_callB (call_min2 rfl) fn_2I rfl T.n_min (by decide +kernel) (sa_cons sn_int (sa_cons (sn_callB call_lenA fn_len rfl T.n_len PySem.boot_len (sa_cons (sn_var (pv 0)) sa_nil)) sa_nil))) sa_nil))) sa_nil)) (sg_name (pg_name (i := 1) sc_law.nd rfl (.inl rfl)) (by decide)) (sb_cons (ss_set (i := 2) (sn_call (ok_law_flow T) (hr.mono (by decide)) rfl T.m_law_flow T.f_law_flow.kp T.b_law_flow .nil closed_nil passA (sa_cons (sn_var (pv 0)) (sa_cons (sn_var (pv 1)) sa_nil))) sc_law.nd rfl (.inr rfl)) (sb_cons (ss_set (i := 3) (sn_call (ok_law_names T) (hr.mono (by decide)) rfl T.m_law_names T.f_law_names.kp T.b_law_names .nil closed_nil passA (sa_cons (sn_var (pv 2)) (sa_cons sn_int sa_nil))) sc_law.nd rfl (.inl rfl)) (sb_cons (ss_set (i := 4) (sn_tup (sa_cons (sn_ix (sn_var (pv 3)) sn_int) (sa_cons (sn_ix (sn_var (pv 3)) sn_int) sa_nil))) sc_law.nd rfl (.inl rfl)) (sb_cons (ss_set (i := 5) (sn_tup (sa_cons (sn_tup (sa_cons (sn_ix (sn_var (pv 3)) sn_int) (sa_cons (sn_strL (by decide +kernel)) (sa_cons (sn_tupC (sa_cons (sn_tup (sa_cons (sn_ix (sn_var (pv 3)) sn_int) (sa_cons (sn_ix (sn_var (pv 3)) sn_int) sa_nil))) sa_nil)) sa_nil)))) (sa_cons (sn_tup (sa_cons (sn_ix (sn_var (pv 3)) sn_int) (sa_cons (sn_strL (by decide +kernel)) (sa_cons (sn_tupC (sa_cons (sn_tup (sa_cons (sn_ix (sn_var (pv 3)) sn_int) (sa_cons sn_int sa_nil))) sa_nil)) sa_nil)))) sa_nil))) sc_law.nd rfl (.inl rfl)) (sb_cons (ss_set (i := 6) (sn_tup (sa_cons (sn_tup (sa_cons (sn_ix (sn_var (pv 3)) sn_int) (sa_cons (sn_tup (sa_cons (sn_ix (sn_var (pv 3)) sn_int) sa_nil)) (sa_cons (sn_tup sa_nil) (sa_cons (sn_tup (sa_cons (sn_ix (sn_var (pv 3)) sn_int) sa_nil)) sa_nil))))) (sa_cons (sn_tup (sa_cons (sn_ix (sn_var (pv 3)) sn_int) (sa_cons (sn_tup (sa_cons (sn_ix (sn_var (pv 3)) sn_int) sa_nil)) (sa_cons (sn_var (pv 5)) (sa_cons (sn_tup (sa_cons (sn_ix (sn_var (pv 3)) sn_int) sa_nil)) sa_nil))))) sa_nil))) sc_law.nd rfl (.inl rfl)) (sb_cons (ss_set (i := 7) (sn_tup (sa_cons (sn_tup (sa_cons (sn_tup (sa_cons (sn_ix (sn_var (pv 3)) sn_int) (sa_cons (sn_ix (sn_var (pv 3)) sn_int) sa_nil))) (sa_cons (sn_tup (sa_cons (sn_ix (sn_var (pv 3)) sn_int) sa_nil)) (sa_cons sn_int (sa_cons (sn_var (pv 4)) (sa_cons sn_non sa_nil)))))) sa_nil)) sc_law.nd rfl (.inl rfl)) (sb_cons (ss_set (i := 7) (sn_add false (sn_var (pv 7)) (sn_tup (sa_cons (sn_tup (sa_cons (sn_tup (sa_cons (sn_ix (sn_var (pv 3)) sn_int) (sa_cons (sn_ix (sn_var (pv 3)) sn_int) sa_nil))) (sa_cons (sn_tup (sa_cons (sn_strL (by decide +kernel)) sa_nil)) (sa_cons sn_int (sa_cons (sn_var (pv 4)) (sa_cons sn_non sa_nil)))))) sa_nil))) sc_law.nd rfl (.inl rfl)) (sb_cons (ss_set (i := 7) (sn_add false (sn_var (pv 7)) (sn_tup (sa_cons (sn_tup (sa_cons (sn_tup (sa_cons (sn_ix (sn_var (pv 3)) sn_int) (sa_cons (sn_ix (sn_var (pv 3)) sn_int) sa_nil))) (sa_cons (sn_tup (sa_cons (sn_strL (by decide +kernel)) sa_nil)) (sa_cons sn_int (sa_cons (sn_var (pv 4)) (sa_cons sn_non sa_nil)))))) sa_nil))) sc_law.nd rfl (.inl rfl)) (sb_cons (ss_set (i := 8) (sn_tup (sa_cons (sn_ix (sn_var (pv 3)) sn_int) (sa_cons (sn_ix (sn_var (pv 3)) sn_int) sa_nil))) sc_law.nd rfl (.inl rfl)) (sb_cons (ss_set (i := 7) (sn_add false (sn_var (pv 7)) (sn_tup (sa_cons (sn_tup (sa_cons (sn_tup (sa_cons (sn_ix (sn_var (pv 3)) sn_int) (sa_cons (sn_ix (sn_var (pv 3)) sn_int) sa_nil))) (sa_cons (sn_tup (sa_cons (sn_ix (sn_var (pv 3)) sn_int) sa_nil)) (sa_cons sn_int (sa_cons (sn_var (pv 8)) (sa_cons sn_non sa_nil)))))) sa_nil))) sc_law.nd rfl (.inl rfl)) (sb_cons (ss_set (i := 9) (sn_make (c0 := 3) T.mk_Kernel (ok_Kernel___init__ T) (hr.mono (by decide)) rfl T.c_Kernel T.bd_Kernel___init___2 T.vd_Kernel___init___2 T.cd_Kernel___init___2 passA (sa_cons (sn_tup (sa_cons (sn_var (pv 6)) (sa_cons (sn_add false (sn_var (pv 7)) (sn_tup (sa_cons (sn_tup (sa_cons (sn_var (pv 8)) (sa_cons (sn_tup (sa_cons (sn_strL (by decide +kernel)) sa_nil)) (sa_cons sn_int (sa_cons (sn_var (pv 4)) (sa_cons sn_non sa_nil)))))) sa_nil))) sa_nil))) (sa_cons (sn_ix (sn_var (pv 3)) sn_int) sa_nil))) sc_law.nd rfl (.inl rfl)) (sb_cons (ss_for (sl := [10]) PassesOwn.never rfl (si_range1 rfl T.n_range (sa_cons (sn_add false sn_int (sn_call (ok_law_draw T) (hr.mono (by decide)) rfl T.m_law_draw T.f_law_draw.kp T.b_law_draw .nil closed_nil passA (sa_cons (sn_var (pv 2)) (sa_cons sn_int sa_nil)))) sa_nil)) (sg_name (pg_name (i := 10) sc_law.nd rfl (.inl rfl)) (by decide)) (sb_cons (ss_expr (sn_mth (c0 := 3) (sn_var (pv 9)) T.cls_Kernel T.me_Kernel_hand (ok_Kernel_hand T) (hr.mono (by decide)) T.b_Kernel_hand .nil closedK_nil passA (sa_cons (sn_ix (sn_var (pv 3)) sn_int) (sa_cons (sn_tup (sa_cons sn_int (sa_cons sn_int sa_nil))) (sa_cons (sn_tup (sa_cons sn_int (sa_cons sn_int sa_nil))) (sa_cons (sn_tup (sa_cons (sn_ix (sn_var (pv 3)) sn_int) sa_nil)) (sa_cons sn_int (sa_cons sn_int sa_nil)))))))) (sb_cons (ss_expr (sn_mth (c0 := 3) (sn_var (pv 9)) T.cls_Kernel T.me_Kernel_cut (ok_Kernel_cut T) (hr.mono (by decide)) T.b_Kernel_cut .nil closedK_nil passA (sa_cons (sn_ix (sn_var (pv 3)) sn_int) (sa_cons (sn_tup (sa_cons sn_int (sa_cons sn_int sa_nil))) (sa_cons sn_int (sa_cons sn_int sa_nil)))))) (sb_one (ss_expr (sn_mth (c0 := 3) (sn_var (pv 9)) T.cls_Kernel T.me_Kernel_call (ok_Kernel_call T) (hr.mono (by decide)) T.b_Kernel_call .nil closedK_nil passA (sa_cons (sn_ix (sn_var (pv 3)) sn_int) (sa_cons (sn_tup (sa_cons (sn_add false sn_int (sn_mod (sn_var (pv 10)) sn_int)) (sa_cons sn_int sa_nil))) (sa_cons (sn_ix (sn_var (pv 3)) sn_int) (sa_cons sn_non (sa_cons sn_int sa_nil))))))))))) (sb_cons (ss_setLc false (i := 11) (own := [("_law_row", 12)]) rfl sc_law.nd rfl rfl (sw_true rfl rfl rfl (by decide +kernel)) (si_seq (sn_mth0 (c0 := 3) (sn_var (pv 9)) T.cls_Kernel T.me_Kernel_rows (ok_Kernel_rows T) (hr.mono (by decide)) T.b_Kernel_rows .nil closedK_nil passA)) (blkOk_by (N := ["_law_script", "_law_k", "_law_flow_here", "_law_names_here", "_law_holder", "_law_servants", "_law_houses", "_law_roots", "_law_shelf", "_law_kernel", "_law_turn", "_law_lots", "_law_row", "_law_fates", "_law_tick", "_law_reply_here", "_law_answer"]) (sc := defScope s_law) (by decide +kernel)) (fun _ _ _ _ _ => (sg_name (pg_name (i := 12) sc_law.nd rfl (.inl rfl)) (by decide))) (fun _ _ _ _ _ => (sts_one (st_cmp (op_eqP hu) op2_eq (nomark _) (sn_ix (sn_var (pv 12)) sn_int) (sn_strL (by decide +kernel))))) (fun _ _ _ _ _ => (sn_var (pv 12)))) (sb_cons (ss_setLc false (i := 13) (own := [("_law_row", 12)]) rfl sc_law.nd rfl rfl (sw_true rfl rfl rfl (by decide +kernel)) (si_seq (sn_var (pv 11))) (blkOk_by (N := ["_law_script", "_law_k", "_law_flow_here", "_law_names_here", "_law_holder", "_law_servants", "_law_houses", "_law_roots", "_law_shelf", "_law_kernel", "_law_turn", "_law_lots", "_law_row", "_law_fates", "_law_tick", "_law_reply_here", "_law_answer"]) (sc := defScope s_law) (by decide +kernel)) (fun _ _ _ _ _ => (sg_name (pg_name (i := 12) sc_law.nd rfl (.inl rfl)) (by decide))) (fun _ _ _ _ _ => sts_nil) (fun _ _ _ _ _ => (sn_call (ok_law_draw T) (hr.mono (by decide)) rfl T.m_law_draw T.f_law_draw.kp T.b_law_draw .nil closed_nil passA (sa_cons (sn_var (pv 2)) (sa_cons sn_int sa_nil))))) (sb_cons (ss_for (sl := [14]) PassesOwn.never rfl (si_range2 rfl T.n_range (sa_cons sn_int (sa_cons sn_int sa_nil))) (sg_name (pg_name (i := 14) sc_law.nd rfl (.inl rfl)) (by decide)) (sb_cons (ss_set (i := 12) (sn_ix (sn_var (pv 11)) (sn_call (ok_law_draw T) (hr.mono (by decide)) rfl T.m_law_draw T.f_law_draw.kp T.b_law_draw .nil closed_nil passA (sa_cons (sn_var (pv 2)) (sa_cons (sn_callB call_lenA fn_len rfl T.n_len PySem.boot_len (sa_cons (sn_var (pv 11)) sa_nil)) sa_nil)))) sc_law.nd rfl (.inl rfl)) (sb_cons (ss_asg (sl := [15, 16]) (sn_call (ok_law_reply T) (hr.mono (by decide)) rfl T.m_law_reply T.f_law_reply.kp T.b_law_reply .nil closed_nil passA (sa_cons (sn_var (pv 2)) (sa_cons (sn_ix (sn_var (pv 12)) sn_int) (sa_cons (sn_tup (sa_cons (sn_ix (sn_var (pv 3)) sn_int) (sa_cons (sn_ix (sn_var (pv 12)) sn_int) sa_nil))) (sa_cons (sn_tup (sa_cons (sn_var (pv 3)) (sa_cons (sn_ix (sn_var (pv 13)) (sn_ix (sn_var (pv 12)) sn_int)) sa_nil))) sa_nil))))) (sg_tup rfl (sgs_cons (sg_name (pg_name (i := 15) sc_law.nd rfl (.inl rfl)) (by decide)) (sgs_cons (sg_name (pg_name (i := 16) sc_law.nd rfl (.inl rfl)) (by decide)) sgs_nil)))) (sb_one (ss_if (st_not (st_val (sn_callG (ok_law_said_right T) hgd (hr.mono (by decide)) rfl T.m_law_said_right T.f_law_said_right.kp T.b_law_said_right .nil closed_nil passA (sa_cons (sn_var (pv 9)) (sa_cons (sn_var (pv 4)) (sa_cons (sn_var (pv 12)) (sa_cons (sn_tup (sa_cons (sn_ix (sn_var (pv 3)) sn_int) (sa_cons (sn_var (pv 15)) (sa_cons (sn_var (pv 16)) (sa_cons (sn_var (pv 14)) sa_nil))))) sa_nil))))))) (sb_one (ss_ret sn_bl)) sb_nil))))) (sb_one (ss_if (PW.pt (sw_or (st_notN (sn_mth (c0 := 3) (sn_var (pv 9)) T.cls_Kernel T.me_Kernel_answer (ok_Kernel_answer T) (hr.mono (by decide)) T.b_Kernel_answer .nil closedK_nil passA (sa_cons (sn_callB call_lenA fn_len rfl T.n_len PySem.boot_len (sa_cons (sn_var (pv 11)) sa_nil)) sa_nil))) (sw_or1 (st_notN (sn_mth (c0 := 3) (sn_var (pv 9)) T.cls_Kernel T.me_Kernel_answer (ok_Kernel_answer T) (hr.mono (by decide)) T.b_Kernel_answer .nil closedK_nil passA (sa_cons sn_int sa_nil)))))) (sb_one (ss_ret sn_bl)) sb_nil)))))))))))))))))) (sb_one (ss_ret sn_bl)))
end
theorem all_mk {l : PySem.W.OpenLaw} {w : World} {K : PySem.W.Frag} {h : Heap} {mg : Str → Option Value} {fa : Addr} (X : K.In h) (G : h.Ns mainGlobals mg) (hfa : mg "law" = some (.ref fa))
    {C_Table : Addr}
    {C_Stone : Addr}
    {C_Kernel : Addr}
    {f0 : Addr} {od0 an0 : Option Addr} {sl0 : Array (Option Value)} {oc0 dc0 pm0 cd0 ct0 : Value}
    {kV0 : Value}
    (a0 : PySem.W.nsIn K mainGlobals "root_numbers" = some (some (.ref f0))) (l0 : K.lookup f0 = some ⟨oc0, od0, .func (PySem.W.fnOf "root_numbers" "root_numbers" (defArgs s_root_numbers) (defBody s_root_numbers) (defScope s_root_numbers) .none kV0 dc0 pm0 an0 cd0 ct0), sl0⟩) (c0 : PySem.W.codeIn K cd0 "root_numbers" = true) (k0 : PySem.W.keepIn K (.ref f0) = true)
    {f1 : Addr} {od1 an1 : Option Addr} {sl1 : Array (Option Value)} {oc1 dc1 pm1 cd1 ct1 : Value}
    {kV1 : Value}
    (a1 : PySem.W.findIn K (.ref C_Table) "__init__" = some (some (.ref f1))) (i1 : PySem.W.isFn K (.ref f1) = true) (l1 : K.lookup f1 = some ⟨oc1, od1, .func (PySem.W.fnOf "__init__" "Table.__init__" (defArgs s_Table___init__) (defBody s_Table___init__) (defScope s_Table___init__) .none kV1 dc1 pm1 an1 cd1 ct1), sl1⟩) (c1 : PySem.W.codeIn K cd1 "Table.__init__" = true) (k1 : PySem.W.keepIn K (.ref f1) = true)
    {f2 : Addr} {od2 an2 : Option Addr} {sl2 : Array (Option Value)} {oc2 dc2 pm2 cd2 ct2 : Value}
    {kV2 : Value}
    (a2 : PySem.W.findIn K (.ref C_Table) "free_place" = some (some (.ref f2))) (i2 : PySem.W.isFn K (.ref f2) = true) (l2 : K.lookup f2 = some ⟨oc2, od2, .func (PySem.W.fnOf "free_place" "Table.free_place" (defArgs s_Table_free_place) (defBody s_Table_free_place) (defScope s_Table_free_place) .none kV2 dc2 pm2 an2 cd2 ct2), sl2⟩) (c2 : PySem.W.codeIn K cd2 "Table.free_place" = true) (k2 : PySem.W.keepIn K (.ref f2) = true)
    {f3 : Addr} {od3 an3 : Option Addr} {sl3 : Array (Option Value)} {oc3 dc3 pm3 cd3 ct3 : Value}
    {kV3 : Value}
    (a3 : PySem.W.findIn K (.ref C_Table) "leads" = some (some (.ref f3))) (i3 : PySem.W.isFn K (.ref f3) = true) (l3 : K.lookup f3 = some ⟨oc3, od3, .func (PySem.W.fnOf "leads" "Table.leads" (defArgs s_Table_leads) (defBody s_Table_leads) (defScope s_Table_leads) .none kV3 dc3 pm3 an3 cd3 ct3), sl3⟩) (c3 : PySem.W.codeIn K cd3 "Table.leads" = true) (k3 : PySem.W.keepIn K (.ref f3) = true)
    {f4 : Addr} {od4 an4 : Option Addr} {sl4 : Array (Option Value)} {oc4 dc4 pm4 cd4 ct4 : Value}
    {kV4 : Value}
    (a4 : PySem.W.findIn K (.ref C_Table) "handles" = some (some (.ref f4))) (i4 : PySem.W.isFn K (.ref f4) = true) (l4 : K.lookup f4 = some ⟨oc4, od4, .func (PySem.W.fnOf "handles" "Table.handles" (defArgs s_Table_handles) (defBody s_Table_handles) (defScope s_Table_handles) .none kV4 dc4 pm4 an4 cd4 ct4), sl4⟩) (c4 : PySem.W.codeIn K cd4 "Table.handles" = true) (k4 : PySem.W.keepIn K (.ref f4) = true)
    {f5 : Addr} {od5 an5 : Option Addr} {sl5 : Array (Option Value)} {oc5 dc5 pm5 cd5 ct5 : Value}
    {kV5 : Value}
    (a5 : PySem.W.nsIn K mainGlobals "ever" = some (some (.ref f5))) (l5 : K.lookup f5 = some ⟨oc5, od5, .func (PySem.W.fnOf "ever" "ever" (defArgs s_ever) (defBody s_ever) (defScope s_ever) .none kV5 dc5 pm5 an5 cd5 ct5), sl5⟩) (c5 : PySem.W.codeIn K cd5 "ever" = true) (k5 : PySem.W.keepIn K (.ref f5) = true)
    {f6 : Addr} {od6 an6 : Option Addr} {sl6 : Array (Option Value)} {oc6 dc6 pm6 cd6 ct6 : Value}
    {kV6 : Value}
    (a6 : PySem.W.nsIn K mainGlobals "asks" = some (some (.ref f6))) (l6 : K.lookup f6 = some ⟨oc6, od6, .func (PySem.W.fnOf "asks" "asks" (defArgs s_asks) (defBody s_asks) (defScope s_asks) .none kV6 dc6 pm6 an6 cd6 ct6), sl6⟩) (c6 : PySem.W.codeIn K cd6 "asks" = true) (k6 : PySem.W.keepIn K (.ref f6) = true)
    {f7 : Addr} {od7 an7 : Option Addr} {sl7 : Array (Option Value)} {oc7 dc7 pm7 cd7 ct7 : Value}
    {kV7 : Value}
    (a7 : PySem.W.nsIn K mainGlobals "beings" = some (some (.ref f7))) (l7 : K.lookup f7 = some ⟨oc7, od7, .func (PySem.W.fnOf "beings" "beings" (defArgs s_beings) (defBody s_beings) (defScope s_beings) .none kV7 dc7 pm7 an7 cd7 ct7), sl7⟩) (c7 : PySem.W.codeIn K cd7 "beings" = true) (k7 : PySem.W.keepIn K (.ref f7) = true)
    {f8 : Addr} {od8 an8 : Option Addr} {sl8 : Array (Option Value)} {oc8 dc8 pm8 cd8 ct8 : Value}
    {kV8 : Value}
    (a8 : PySem.W.nsIn K mainGlobals "servant_at" = some (some (.ref f8))) (l8 : K.lookup f8 = some ⟨oc8, od8, .func (PySem.W.fnOf "servant_at" "servant_at" (defArgs s_servant_at) (defBody s_servant_at) (defScope s_servant_at) .none kV8 dc8 pm8 an8 cd8 ct8), sl8⟩) (c8 : PySem.W.codeIn K cd8 "servant_at" = true) (k8 : PySem.W.keepIn K (.ref f8) = true)
    {f9 : Addr} {od9 an9 : Option Addr} {sl9 : Array (Option Value)} {oc9 dc9 pm9 cd9 ct9 : Value}
    {kV9 : Value}
    {P9 : Addr} {T9_rows : Addr}
    (a9 : PySem.W.findIn K (.ref C_Stone) "__init__" = some (some (.ref f9))) (i9 : PySem.W.isFn K (.ref f9) = true) (l9 : K.lookup f9 = some ⟨oc9, od9, .func (PySem.W.fnOf "__init__" "Stone.__init__" (defArgs s_Stone___init__) (defBody s_Stone___init__) (defScope s_Stone___init__) (.ref P9) kV9 dc9 pm9 an9 cd9 ct9), sl9⟩) (c9 : PySem.W.codeIn K cd9 "Stone.__init__" = true) (k9 : PySem.W.keepIn K (.ref f9) = true)
    {oP9 : Option Addr} {nP9 : Nat} {slP9 : Array (Option Value)} (p9 : K.lookup P9 = some ⟨.type "tuple", oP9, .seq #[.ref T9_rows] nP9, slP9⟩)
    {od9_rows : Option Addr} {n9_rows : Nat} {sl9_rows : Array (Option Value)} (t9_rows : K.lookup T9_rows = some ⟨.type "tuple", od9_rows, .seq #[] n9_rows, sl9_rows⟩)
    {f10 : Addr} {od10 an10 : Option Addr} {sl10 : Array (Option Value)} {oc10 dc10 pm10 cd10 ct10 : Value}
    {kV10 : Value}
    (a10 : PySem.W.findIn K (.ref C_Stone) "write" = some (some (.ref f10))) (i10 : PySem.W.isFn K (.ref f10) = true) (l10 : K.lookup f10 = some ⟨oc10, od10, .func (PySem.W.fnOf "write" "Stone.write" (defArgs s_Stone_write) (defBody s_Stone_write) (defScope s_Stone_write) .none kV10 dc10 pm10 an10 cd10 ct10), sl10⟩) (c10 : PySem.W.codeIn K cd10 "Stone.write" = true) (k10 : PySem.W.keepIn K (.ref f10) = true)
    {f11 : Addr} {od11 an11 : Option Addr} {sl11 : Array (Option Value)} {oc11 dc11 pm11 cd11 ct11 : Value}
    {kV11 : Value}
    (a11 : PySem.W.findIn K (.ref C_Stone) "settle" = some (some (.ref f11))) (i11 : PySem.W.isFn K (.ref f11) = true) (l11 : K.lookup f11 = some ⟨oc11, od11, .func (PySem.W.fnOf "settle" "Stone.settle" (defArgs s_Stone_settle) (defBody s_Stone_settle) (defScope s_Stone_settle) .none kV11 dc11 pm11 an11 cd11 ct11), sl11⟩) (c11 : PySem.W.codeIn K cd11 "Stone.settle" = true) (k11 : PySem.W.keepIn K (.ref f11) = true)
    {f12 : Addr} {od12 an12 : Option Addr} {sl12 : Array (Option Value)} {oc12 dc12 pm12 cd12 ct12 : Value}
    {kV12 : Value}
    (a12 : PySem.W.findIn K (.ref C_Stone) "rows" = some (some (.ref f12))) (i12 : PySem.W.isFn K (.ref f12) = true) (l12 : K.lookup f12 = some ⟨oc12, od12, .func (PySem.W.fnOf "rows" "Stone.rows" (defArgs s_Stone_rows) (defBody s_Stone_rows) (defScope s_Stone_rows) .none kV12 dc12 pm12 an12 cd12 ct12), sl12⟩) (c12 : PySem.W.codeIn K cd12 "Stone.rows" = true) (k12 : PySem.W.keepIn K (.ref f12) = true)
    {f13 : Addr} {od13 an13 : Option Addr} {sl13 : Array (Option Value)} {oc13 dc13 pm13 cd13 ct13 : Value}
    {kV13 : Value}
    (a13 : PySem.W.nsIn K mainGlobals "_law_cell" = some (some (.ref f13))) (l13 : K.lookup f13 = some ⟨oc13, od13, .func (PySem.W.fnOf "_law_cell" "_law_cell" (defArgs s_law_cell) (defBody s_law_cell) (defScope s_law_cell) .none kV13 dc13 pm13 an13 cd13 ct13), sl13⟩) (c13 : PySem.W.codeIn K cd13 "_law_cell" = true) (k13 : PySem.W.keepIn K (.ref f13) = true)
    {f14 : Addr} {od14 an14 : Option Addr} {sl14 : Array (Option Value)} {oc14 dc14 pm14 cd14 ct14 : Value}
    {kV14 : Value}
    (a14 : PySem.W.nsIn K mainGlobals "_law_draw" = some (some (.ref f14))) (l14 : K.lookup f14 = some ⟨oc14, od14, .func (PySem.W.fnOf "_law_draw" "_law_draw" (defArgs s_law_draw) (defBody s_law_draw) (defScope s_law_draw) .none kV14 dc14 pm14 an14 cd14 ct14), sl14⟩) (c14 : PySem.W.codeIn K cd14 "_law_draw" = true) (k14 : PySem.W.keepIn K (.ref f14) = true)
    {f15 : Addr} {od15 an15 : Option Addr} {sl15 : Array (Option Value)} {oc15 dc15 pm15 cd15 ct15 : Value}
    {kV15 : Value}
    (a15 : PySem.W.nsIn K mainGlobals "_law_handles" = some (some (.ref f15))) (l15 : K.lookup f15 = some ⟨oc15, od15, .func (PySem.W.fnOf "_law_handles" "_law_handles" (defArgs s_law_handles) (defBody s_law_handles) (defScope s_law_handles) .none kV15 dc15 pm15 an15 cd15 ct15), sl15⟩) (c15 : PySem.W.codeIn K cd15 "_law_handles" = true) (k15 : PySem.W.keepIn K (.ref f15) = true)
    {f16 : Addr} {od16 an16 : Option Addr} {sl16 : Array (Option Value)} {oc16 dc16 pm16 cd16 ct16 : Value}
    {kV16 : Value}
    (a16 : PySem.W.findIn K (.ref C_Table) "put" = some (some (.ref f16))) (i16 : PySem.W.isFn K (.ref f16) = true) (l16 : K.lookup f16 = some ⟨oc16, od16, .func (PySem.W.fnOf "put" "Table.put" (defArgs s_Table_put) (defBody s_Table_put) (defScope s_Table_put) .none kV16 dc16 pm16 an16 cd16 ct16), sl16⟩) (c16 : PySem.W.codeIn K cd16 "Table.put" = true) (k16 : PySem.W.keepIn K (.ref f16) = true)
    {f17 : Addr} {od17 an17 : Option Addr} {sl17 : Array (Option Value)} {oc17 dc17 pm17 cd17 ct17 : Value}
    {kV17 : Value}
    (a17 : PySem.W.findIn K (.ref C_Table) "drop" = some (some (.ref f17))) (i17 : PySem.W.isFn K (.ref f17) = true) (l17 : K.lookup f17 = some ⟨oc17, od17, .func (PySem.W.fnOf "drop" "Table.drop" (defArgs s_Table_drop) (defBody s_Table_drop) (defScope s_Table_drop) .none kV17 dc17 pm17 an17 cd17 ct17), sl17⟩) (c17 : PySem.W.codeIn K cd17 "Table.drop" = true) (k17 : PySem.W.keepIn K (.ref f17) = true)
    {f18 : Addr} {od18 an18 : Option Addr} {sl18 : Array (Option Value)} {oc18 dc18 pm18 cd18 ct18 : Value}
    {kV18 : Value}
    (a18 : PySem.W.nsIn K mainGlobals "put_row" = some (some (.ref f18))) (l18 : K.lookup f18 = some ⟨oc18, od18, .func (PySem.W.fnOf "put_row" "put_row" (defArgs s_put_row) (defBody s_put_row) (defScope s_put_row) .none kV18 dc18 pm18 an18 cd18 ct18), sl18⟩) (c18 : PySem.W.codeIn K cd18 "put_row" = true) (k18 : PySem.W.keepIn K (.ref f18) = true)
    {f19 : Addr} {od19 an19 : Option Addr} {sl19 : Array (Option Value)} {oc19 dc19 pm19 cd19 ct19 : Value}
    {kV19 : Value}
    (a19 : PySem.W.nsIn K mainGlobals "first_rows" = some (some (.ref f19))) (l19 : K.lookup f19 = some ⟨oc19, od19, .func (PySem.W.fnOf "first_rows" "first_rows" (defArgs s_first_rows) (defBody s_first_rows) (defScope s_first_rows) .none kV19 dc19 pm19 an19 cd19 ct19), sl19⟩) (c19 : PySem.W.codeIn K cd19 "first_rows" = true) (k19 : PySem.W.keepIn K (.ref f19) = true)
    {f20 : Addr} {od20 an20 : Option Addr} {sl20 : Array (Option Value)} {oc20 dc20 pm20 cd20 ct20 : Value}
    {kV20 : Value}
    (a20 : PySem.W.findIn K (.ref C_Kernel) "rows" = some (some (.ref f20))) (i20 : PySem.W.isFn K (.ref f20) = true) (l20 : K.lookup f20 = some ⟨oc20, od20, .func (PySem.W.fnOf "rows" "Kernel.rows" (defArgs s_Kernel_rows) (defBody s_Kernel_rows) (defScope s_Kernel_rows) .none kV20 dc20 pm20 an20 cd20 ct20), sl20⟩) (c20 : PySem.W.codeIn K cd20 "Kernel.rows" = true) (k20 : PySem.W.keepIn K (.ref f20) = true)
    {f21 : Addr} {od21 an21 : Option Addr} {sl21 : Array (Option Value)} {oc21 dc21 pm21 cd21 ct21 : Value}
    {kV21 : Value}
    (a21 : PySem.W.findIn K (.ref C_Kernel) "wrote" = some (some (.ref f21))) (i21 : PySem.W.isFn K (.ref f21) = true) (l21 : K.lookup f21 = some ⟨oc21, od21, .func (PySem.W.fnOf "wrote" "Kernel.wrote" (defArgs s_Kernel_wrote) (defBody s_Kernel_wrote) (defScope s_Kernel_wrote) .none kV21 dc21 pm21 an21 cd21 ct21), sl21⟩) (c21 : PySem.W.codeIn K cd21 "Kernel.wrote" = true) (k21 : PySem.W.keepIn K (.ref f21) = true)
    {f22 : Addr} {od22 an22 : Option Addr} {sl22 : Array (Option Value)} {oc22 dc22 pm22 cd22 ct22 : Value}
    {kV22 : Value}
    (a22 : PySem.W.findIn K (.ref C_Kernel) "answer" = some (some (.ref f22))) (i22 : PySem.W.isFn K (.ref f22) = true) (l22 : K.lookup f22 = some ⟨oc22, od22, .func (PySem.W.fnOf "answer" "Kernel.answer" (defArgs s_Kernel_answer) (defBody s_Kernel_answer) (defScope s_Kernel_answer) .none kV22 dc22 pm22 an22 cd22 ct22), sl22⟩) (c22 : PySem.W.codeIn K cd22 "Kernel.answer" = true) (k22 : PySem.W.keepIn K (.ref f22) = true)
    {f23 : Addr} {od23 an23 : Option Addr} {sl23 : Array (Option Value)} {oc23 dc23 pm23 cd23 ct23 : Value}
    {kV23 : Value}
    (a23 : PySem.W.nsIn K mainGlobals "_law_flow" = some (some (.ref f23))) (l23 : K.lookup f23 = some ⟨oc23, od23, .func (PySem.W.fnOf "_law_flow" "_law_flow" (defArgs s_law_flow) (defBody s_law_flow) (defScope s_law_flow) .none kV23 dc23 pm23 an23 cd23 ct23), sl23⟩) (c23 : PySem.W.codeIn K cd23 "_law_flow" = true) (k23 : PySem.W.keepIn K (.ref f23) = true)
    {f24 : Addr} {od24 an24 : Option Addr} {sl24 : Array (Option Value)} {oc24 dc24 pm24 cd24 ct24 : Value}
    {kV24 : Value}
    (a24 : PySem.W.nsIn K mainGlobals "_law_names" = some (some (.ref f24))) (l24 : K.lookup f24 = some ⟨oc24, od24, .func (PySem.W.fnOf "_law_names" "_law_names" (defArgs s_law_names) (defBody s_law_names) (defScope s_law_names) .none kV24 dc24 pm24 an24 cd24 ct24), sl24⟩) (c24 : PySem.W.codeIn K cd24 "_law_names" = true) (k24 : PySem.W.keepIn K (.ref f24) = true)
    {f25 : Addr} {od25 an25 : Option Addr} {sl25 : Array (Option Value)} {oc25 dc25 pm25 cd25 ct25 : Value}
    {kV25 : Value}
    (a25 : PySem.W.nsIn K mainGlobals "_law_reply" = some (some (.ref f25))) (l25 : K.lookup f25 = some ⟨oc25, od25, .func (PySem.W.fnOf "_law_reply" "_law_reply" (defArgs s_law_reply) (defBody s_law_reply) (defScope s_law_reply) .none kV25 dc25 pm25 an25 cd25 ct25), sl25⟩) (c25 : PySem.W.codeIn K cd25 "_law_reply" = true) (k25 : PySem.W.keepIn K (.ref f25) = true)
    {f26 : Addr} {od26 an26 : Option Addr} {sl26 : Array (Option Value)} {oc26 dc26 pm26 cd26 ct26 : Value}
    {kV26 : Value}
    (a26 : PySem.W.nsIn K mainGlobals "replayed" = some (some (.ref f26))) (l26 : K.lookup f26 = some ⟨oc26, od26, .func (PySem.W.fnOf "replayed" "replayed" (defArgs s_replayed) (defBody s_replayed) (defScope s_replayed) .none kV26 dc26 pm26 an26 cd26 ct26), sl26⟩) (c26 : PySem.W.codeIn K cd26 "replayed" = true) (k26 : PySem.W.keepIn K (.ref f26) = true)
    {f27 : Addr} {od27 an27 : Option Addr} {sl27 : Array (Option Value)} {oc27 dc27 pm27 cd27 ct27 : Value}
    {D27 : Addr}
    (a27 : PySem.W.findIn K (.ref C_Kernel) "__init__" = some (some (.ref f27))) (i27 : PySem.W.isFn K (.ref f27) = true) (l27 : K.lookup f27 = some ⟨oc27, od27, .func (PySem.W.fnOf "__init__" "Kernel.__init__" (defArgs s_Kernel___init__) (defBody s_Kernel___init__) (defScope s_Kernel___init__) .none (.ref D27) dc27 pm27 an27 cd27 ct27), sl27⟩) (c27 : PySem.W.codeIn K cd27 "Kernel.__init__" = true) (k27 : PySem.W.keepIn K (.ref f27) = true)
    {t27_lease : Tok} (q27_lease : PySem.W.nsIn K D27 "lease" = some (some (.int 6 t27_lease)))
    {t27_again : Tok} (q27_again : PySem.W.nsIn K D27 "again" = some (some (.int 3 t27_again)))
    {f28 : Addr} {od28 an28 : Option Addr} {sl28 : Array (Option Value)} {oc28 dc28 pm28 cd28 ct28 : Value}
    {kV28 : Value}
    (a28 : PySem.W.findIn K (.ref C_Kernel) "asked" = some (some (.ref f28))) (i28 : PySem.W.isFn K (.ref f28) = true) (l28 : K.lookup f28 = some ⟨oc28, od28, .func (PySem.W.fnOf "asked" "Kernel.asked" (defArgs s_Kernel_asked) (defBody s_Kernel_asked) (defScope s_Kernel_asked) .none kV28 dc28 pm28 an28 cd28 ct28), sl28⟩) (c28 : PySem.W.codeIn K cd28 "Kernel.asked" = true) (k28 : PySem.W.keepIn K (.ref f28) = true)
    {f29 : Addr} {od29 an29 : Option Addr} {sl29 : Array (Option Value)} {oc29 dc29 pm29 cd29 ct29 : Value}
    {kV29 : Value}
    (a29 : PySem.W.findIn K (.ref C_Kernel) "take_said" = some (some (.ref f29))) (i29 : PySem.W.isFn K (.ref f29) = true) (l29 : K.lookup f29 = some ⟨oc29, od29, .func (PySem.W.fnOf "take_said" "Kernel.take_said" (defArgs s_Kernel_take_said) (defBody s_Kernel_take_said) (defScope s_Kernel_take_said) .none kV29 dc29 pm29 an29 cd29 ct29), sl29⟩) (c29 : PySem.W.codeIn K cd29 "Kernel.take_said" = true) (k29 : PySem.W.keepIn K (.ref f29) = true)
    {f30 : Addr} {od30 an30 : Option Addr} {sl30 : Array (Option Value)} {oc30 dc30 pm30 cd30 ct30 : Value}
    {kV30 : Value}
    (a30 : PySem.W.nsIn K mainGlobals "table" = some (some (.ref f30))) (l30 : K.lookup f30 = some ⟨oc30, od30, .func (PySem.W.fnOf "table" "table" (defArgs s_table) (defBody s_table) (defScope s_table) .none kV30 dc30 pm30 an30 cd30 ct30), sl30⟩) (c30 : PySem.W.codeIn K cd30 "table" = true) (k30 : PySem.W.keepIn K (.ref f30) = true)
    {f31 : Addr} {od31 an31 : Option Addr} {sl31 : Array (Option Value)} {oc31 dc31 pm31 cd31 ct31 : Value}
    {kV31 : Value}
    (a31 : PySem.W.findIn K (.ref C_Kernel) "take" = some (some (.ref f31))) (i31 : PySem.W.isFn K (.ref f31) = true) (l31 : K.lookup f31 = some ⟨oc31, od31, .func (PySem.W.fnOf "take" "Kernel.take" (defArgs s_Kernel_take) (defBody s_Kernel_take) (defScope s_Kernel_take) .none kV31 dc31 pm31 an31 cd31 ct31), sl31⟩) (c31 : PySem.W.codeIn K cd31 "Kernel.take" = true) (k31 : PySem.W.keepIn K (.ref f31) = true)
    {f32 : Addr} {od32 an32 : Option Addr} {sl32 : Array (Option Value)} {oc32 dc32 pm32 cd32 ct32 : Value}
    {kV32 : Value}
    (a32 : PySem.W.findIn K (.ref C_Kernel) "led" = some (some (.ref f32))) (i32 : PySem.W.isFn K (.ref f32) = true) (l32 : K.lookup f32 = some ⟨oc32, od32, .func (PySem.W.fnOf "led" "Kernel.led" (defArgs s_Kernel_led) (defBody s_Kernel_led) (defScope s_Kernel_led) .none kV32 dc32 pm32 an32 cd32 ct32), sl32⟩) (c32 : PySem.W.codeIn K cd32 "Kernel.led" = true) (k32 : PySem.W.keepIn K (.ref f32) = true)
    {f33 : Addr} {od33 an33 : Option Addr} {sl33 : Array (Option Value)} {oc33 dc33 pm33 cd33 ct33 : Value}
    {kV33 : Value}
    (a33 : PySem.W.findIn K (.ref C_Kernel) "table" = some (some (.ref f33))) (i33 : PySem.W.isFn K (.ref f33) = true) (l33 : K.lookup f33 = some ⟨oc33, od33, .func (PySem.W.fnOf "table" "Kernel.table" (defArgs s_Kernel_table) (defBody s_Kernel_table) (defScope s_Kernel_table) .none kV33 dc33 pm33 an33 cd33 ct33), sl33⟩) (c33 : PySem.W.codeIn K cd33 "Kernel.table" = true) (k33 : PySem.W.keepIn K (.ref f33) = true)
    {f34 : Addr} {od34 an34 : Option Addr} {sl34 : Array (Option Value)} {oc34 dc34 pm34 cd34 ct34 : Value}
    {kV34 : Value}
    (a34 : PySem.W.findIn K (.ref C_Kernel) "hand" = some (some (.ref f34))) (i34 : PySem.W.isFn K (.ref f34) = true) (l34 : K.lookup f34 = some ⟨oc34, od34, .func (PySem.W.fnOf "hand" "Kernel.hand" (defArgs s_Kernel_hand) (defBody s_Kernel_hand) (defScope s_Kernel_hand) .none kV34 dc34 pm34 an34 cd34 ct34), sl34⟩) (c34 : PySem.W.codeIn K cd34 "Kernel.hand" = true) (k34 : PySem.W.keepIn K (.ref f34) = true)
    {f35 : Addr} {od35 an35 : Option Addr} {sl35 : Array (Option Value)} {oc35 dc35 pm35 cd35 ct35 : Value}
    {kV35 : Value}
    (a35 : PySem.W.findIn K (.ref C_Kernel) "cut" = some (some (.ref f35))) (i35 : PySem.W.isFn K (.ref f35) = true) (l35 : K.lookup f35 = some ⟨oc35, od35, .func (PySem.W.fnOf "cut" "Kernel.cut" (defArgs s_Kernel_cut) (defBody s_Kernel_cut) (defScope s_Kernel_cut) .none kV35 dc35 pm35 an35 cd35 ct35), sl35⟩) (c35 : PySem.W.codeIn K cd35 "Kernel.cut" = true) (k35 : PySem.W.keepIn K (.ref f35) = true)
    {f36 : Addr} {od36 an36 : Option Addr} {sl36 : Array (Option Value)} {oc36 dc36 pm36 cd36 ct36 : Value}
    {kV36 : Value}
    (a36 : PySem.W.findIn K (.ref C_Kernel) "call" = some (some (.ref f36))) (i36 : PySem.W.isFn K (.ref f36) = true) (l36 : K.lookup f36 = some ⟨oc36, od36, .func (PySem.W.fnOf "call" "Kernel.call" (defArgs s_Kernel_call) (defBody s_Kernel_call) (defScope s_Kernel_call) .none kV36 dc36 pm36 an36 cd36 ct36), sl36⟩) (c36 : PySem.W.codeIn K cd36 "Kernel.call" = true) (k36 : PySem.W.keepIn K (.ref f36) = true)
    {f37 : Addr} {od37 an37 : Option Addr} {sl37 : Array (Option Value)} {oc37 dc37 pm37 cd37 ct37 : Value}
    {kV37 : Value}
    (a37 : PySem.W.nsIn K mainGlobals "_law_said_right" = some (some (.ref f37))) (l37 : K.lookup f37 = some ⟨oc37, od37, .func (PySem.W.fnOf "_law_said_right" "_law_said_right" (defArgs s_law_said_right) (defBody s_law_said_right) (defScope s_law_said_right) .none kV37 dc37 pm37 an37 cd37 ct37), sl37⟩) (c37 : PySem.W.codeIn K cd37 "_law_said_right" = true) (k37 : PySem.W.keepIn K (.ref f37) = true)
    {f38 : Addr} {od38 an38 : Option Addr} {sl38 : Array (Option Value)} {oc38 dc38 pm38 cd38 ct38 : Value}
    {kV38 : Value}
    (a38 : PySem.W.nsIn K mainGlobals "law" = some (some (.ref f38))) (l38 : K.lookup f38 = some ⟨oc38, od38, .func (PySem.W.fnOf "law" "law" (defArgs s_law) (defBody s_law) (defScope s_law) .none kV38 dc38 pm38 an38 cd38 ct38), sl38⟩) (c38 : PySem.W.codeIn K cd38 "law" = true) (k38 : PySem.W.keepIn K (.ref f38) = true)
    (aC_Table : PySem.W.nsIn K mainGlobals "Table" = some (some (.ref C_Table))) (pg_Table : PySem.W.plainGet K C_Table Str.empty = true) (hd_Table : PySem.W.hasDictIn K C_Table = true) (po_Table : PySem.W.plainOver K C_Table = true) (sa_Table : PySem.W.findIn K (.ref C_Table) "__setattr__" = some (some (.builtin "object.__setattr__"))) (mk_Table : PySem.W.makesIn K C_Table = true) (kc_Table : PySem.W.keepIn K (.ref C_Table) = true)
    (aC_Stone : PySem.W.nsIn K mainGlobals "Stone" = some (some (.ref C_Stone))) (pg_Stone : PySem.W.plainGet K C_Stone Str.empty = true) (hd_Stone : PySem.W.hasDictIn K C_Stone = true) (po_Stone : PySem.W.plainOver K C_Stone = true) (sa_Stone : PySem.W.findIn K (.ref C_Stone) "__setattr__" = some (some (.builtin "object.__setattr__"))) (mk_Stone : PySem.W.makesIn K C_Stone = true) (kc_Stone : PySem.W.keepIn K (.ref C_Stone) = true)
    (aC_Kernel : PySem.W.nsIn K mainGlobals "Kernel" = some (some (.ref C_Kernel))) (pg_Kernel : PySem.W.plainGet K C_Kernel Str.empty = true) (hd_Kernel : PySem.W.hasDictIn K C_Kernel = true) (po_Kernel : PySem.W.plainOver K C_Kernel = true) (sa_Kernel : PySem.W.findIn K (.ref C_Kernel) "__setattr__" = some (some (.builtin "object.__setattr__"))) (mk_Kernel : PySem.W.makesIn K C_Kernel = true) (kc_Kernel : PySem.W.keepIn K (.ref C_Kernel) = true)
    (al_table_replay : PySem.W.nsIn K mainGlobals "table_replay" = some (some (.ref f30)))
    (nf_Table_used : PySem.W.findIn K (.ref C_Table) "used" = some none)
    (nf_Table_there : PySem.W.findIn K (.ref C_Table) "there" = some none)
    (nf_Table_known : PySem.W.findIn K (.ref C_Table) "known" = some none)
    (nf_Stone_written : PySem.W.findIn K (.ref C_Stone) "written" = some none)
    (nf_Stone_firm : PySem.W.findIn K (.ref C_Stone) "firm" = some none)
    (nf_Kernel_stone : PySem.W.findIn K (.ref C_Kernel) "stone" = some none)
    (nf_Kernel_plan : PySem.W.findIn K (.ref C_Kernel) "plan" = some none)
    (nf_Kernel_house : PySem.W.findIn K (.ref C_Kernel) "house" = some none)
    (nf_Kernel_lease : PySem.W.findIn K (.ref C_Kernel) "lease" = some none)
    (nf_Kernel_every : PySem.W.findIn K (.ref C_Kernel) "every" = some none)
    (nf_Kernel_letters : PySem.W.findIn K (.ref C_Kernel) "letters" = some none)
    (nf_Kernel_kept : PySem.W.findIn K (.ref C_Kernel) "kept" = some none)
    (nf_Kernel_opened : PySem.W.findIn K (.ref C_Kernel) "opened" = some none)
    (z_abs : PySem.W.nsIn K mainGlobals "abs" = some none)
    (z_enumerate : PySem.W.nsIn K mainGlobals "enumerate" = some none)
    (z_int : PySem.W.nsIn K mainGlobals "int" = some none)
    (z_len : PySem.W.nsIn K mainGlobals "len" = some none)
    (z_list : PySem.W.nsIn K mainGlobals "list" = some none)
    (z_max : PySem.W.nsIn K mainGlobals "max" = some none)
    (z_min : PySem.W.nsIn K mainGlobals "min" = some none)
    (z_range : PySem.W.nsIn K mainGlobals "range" = some none)
    (z_repr : PySem.W.nsIn K mainGlobals "repr" = some none)
    (z_sorted : PySem.W.nsIn K mainGlobals "sorted" = some none)
    (z_tuple : PySem.W.nsIn K mainGlobals "tuple" = some none) :
    ∃ fd : FuncData, (∀ (s : Shared) (v : Value), BindsTo s fd ⟨[v], []⟩ [("_law_script", v)]) ∧ ∀ base : Heap, K.In base → base.Ns mainGlobals mg → FnG l.prog w K mg base CX0 7 fa fd ["_law_script"] (fun vs H Q E => ∀ cl, spOf ⟨K, cl⟩ 1 g_law vs H Q E) := by
  have e := hfa.symm.trans (PySem.W.mg_of X G a38)
  cases e
  have F0 := fun_mk (st := s_root_numbers) l0 c0 k0
  have F1 := fun_mk (st := s_Table___init__) l1 c1 k1
  have F2 := fun_mk (st := s_Table_free_place) l2 c2 k2
  have F3 := fun_mk (st := s_Table_leads) l3 c3 k3
  have F4 := fun_mk (st := s_Table_handles) l4 c4 k4
  have F5 := fun_mk (st := s_ever) l5 c5 k5
  have F6 := fun_mk (st := s_asks) l6 c6 k6
  have F7 := fun_mk (st := s_beings) l7 c7 k7
  have F8 := fun_mk (st := s_servant_at) l8 c8 k8
  have F9 := funV_mk (st := s_Stone___init__) l9 c9 k9
  have F10 := fun_mk (st := s_Stone_write) l10 c10 k10
  have F11 := fun_mk (st := s_Stone_settle) l11 c11 k11
  have F12 := fun_mk (st := s_Stone_rows) l12 c12 k12
  have F13 := fun_mk (st := s_law_cell) l13 c13 k13
  have F14 := fun_mk (st := s_law_draw) l14 c14 k14
  have F15 := fun_mk (st := s_law_handles) l15 c15 k15
  have F16 := fun_mk (st := s_Table_put) l16 c16 k16
  have F17 := fun_mk (st := s_Table_drop) l17 c17 k17
  have F18 := fun_mk (st := s_put_row) l18 c18 k18
  have F19 := fun_mk (st := s_first_rows) l19 c19 k19
  have F20 := fun_mk (st := s_Kernel_rows) l20 c20 k20
  have F21 := fun_mk (st := s_Kernel_wrote) l21 c21 k21
  have F22 := fun_mk (st := s_Kernel_answer) l22 c22 k22
  have F23 := fun_mk (st := s_law_flow) l23 c23 k23
  have F24 := fun_mk (st := s_law_names) l24 c24 k24
  have F25 := fun_mk (st := s_law_reply) l25 c25 k25
  have F26 := fun_mk (st := s_replayed) l26 c26 k26
  have F27 := fun_mk (st := s_Kernel___init__) l27 c27 k27
  have F28 := fun_mk (st := s_Kernel_asked) l28 c28 k28
  have F29 := fun_mk (st := s_Kernel_take_said) l29 c29 k29
  have F30 := fun_mk (st := s_table) l30 c30 k30
  have F31 := fun_mk (st := s_Kernel_take) l31 c31 k31
  have F32 := fun_mk (st := s_Kernel_led) l32 c32 k32
  have F33 := fun_mk (st := s_Kernel_table) l33 c33 k33
  have F34 := fun_mk (st := s_Kernel_hand) l34 c34 k34
  have F35 := fun_mk (st := s_Kernel_cut) l35 c35 k35
  have F36 := fun_mk (st := s_Kernel_call) l36 c36 k36
  have F37 := fun_mk (st := s_law_said_right) l37 c37 k37
  have F38 := fun_mk (st := s_law) l38 c38 k38
  have Q9 : FunD K "__init__" "Stone.__init__" (defArgs s_Stone___init__) (defBody s_Stone___init__) (defScope s_Stone___init__) [.ref T9_rows] [] f9 _ := ⟨⟨_, _, _, _, _, _, _, _, _, _, rfl, l9, c9, .inr ⟨by simp, P9, _, [.ref T9_rows], _, rfl, p9, rfl, .cons rfl (.nil)⟩, .inl rfl⟩, k9⟩
  obtain ⟨dw_Stone___init__, vw_Stone___init__, bw_Stone___init__⟩ := Q9.binds1 (ps := ["self", "rows"]) 2 1 (by simp) rfl (fun T kV doc pm an cdv ct us its l1 l2 => match us, its, l1, l2 with | [_, _], [_], _, _ => ⟨_, rfl, rfl⟩)
  cases vw_Stone___init__
  have Q27 : FunD K "__init__" "Kernel.__init__" (defArgs s_Kernel___init__) (defBody s_Kernel___init__) (defScope s_Kernel___init__) [] [("lease", .int 6), ("again", .int 3)] f27 _ := ⟨⟨_, _, _, _, _, _, _, _, _, _, rfl, l27, c27, .inl ⟨rfl, rfl⟩, .inr ⟨_, rfl, fun q hq => by
    simp only [List.mem_cons, List.not_mem_nil, or_false] at hq
    rcases hq with rfl | rfl
    · exact ⟨_, q27_lease, _, rfl⟩
    · exact ⟨_, q27_again, _, rfl⟩⟩⟩, k27⟩
  obtain ⟨dv_Kernel___init___2, vd_Kernel___init___2, bd_Kernel___init___2⟩ := Q27.binds0 (ps := ["self", "plan", "house", "lease", "again"]) 3 (by intro z; cases z) rfl (fun D doc pm an cdv ct us ks l1 l2 => match us, ks, l1, l2 with | [_, _, _], [_, _], _, _ => ⟨_, _, _, _, _, _, rfl, rfl, ⟨_, _, _, _, _, _, rfl, rfl, rfl⟩⟩)
  let T : Tx K mg (fun i => if i = 3 then C_Kernel else (fun i => if i = 2 then C_Stone else (fun i => if i = 0 then C_Table else (fun _ => 0) i) i) i) := { a_root_numbers := _, d_root_numbers := _, f_root_numbers := F0, m_root_numbers := PySem.W.mg_of X G a0, b_root_numbers := F0.binds (ps := ["plan"]) (fun _ _ _ _ _ _ us hl => (match us, hl with | [_], _ => rfl)), a_Table___init__ := _, d_Table___init__ := _, f_Table___init__ := F1, b_Table___init__ := F1.binds (ps := ["self"]) (fun _ _ _ _ _ _ us hl => (match us, hl with | [_], _ => rfl)), a_Table_free_place := _, d_Table_free_place := _, f_Table_free_place := F2, me_Table_free_place := ⟨a2, i2, k2⟩, b_Table_free_place := F2.binds (ps := ["self"]) (fun _ _ _ _ _ _ us hl => (match us, hl with | [_], _ => rfl)), a_Table_leads := _, d_Table_leads := _, f_Table_leads := F3, me_Table_leads := ⟨a3, i3, k3⟩, b_Table_leads := F3.binds (ps := ["self", "handle"]) (fun _ _ _ _ _ _ us hl => (match us, hl with | [_, _], _ => rfl)), a_Table_handles := _, d_Table_handles := _, f_Table_handles := F4, me_Table_handles := ⟨a4, i4, k4⟩, b_Table_handles := F4.binds (ps := ["self"]) (fun _ _ _ _ _ _ us hl => (match us, hl with | [_], _ => rfl)), a_ever := _, d_ever := _, f_ever := F5, m_ever := PySem.W.mg_of X G a5, b_ever := F5.binds (ps := ["rows", "being"]) (fun _ _ _ _ _ _ us hl => (match us, hl with | [_, _], _ => rfl)), a_asks := _, d_asks := _, f_asks := F6, m_asks := PySem.W.mg_of X G a6, b_asks := F6.binds (ps := ["rows"]) (fun _ _ _ _ _ _ us hl => (match us, hl with | [_], _ => rfl)), a_beings := _, d_beings := _, f_beings := F7, m_beings := PySem.W.mg_of X G a7, b_beings := F7.binds (ps := ["plan"]) (fun _ _ _ _ _ _ us hl => (match us, hl with | [_], _ => rfl)), a_servant_at := _, d_servant_at := _, f_servant_at := F8, m_servant_at := PySem.W.mg_of X G a8, b_servant_at := F8.binds (ps := ["plan", "place"]) (fun _ _ _ _ _ _ us hl => (match us, hl with | [_, _], _ => rfl)), a_Stone___init__ := _, d_Stone___init__ := _, f_Stone___init__ := F9, b_Stone___init__ := bw_Stone___init__, a_Stone_write := _, d_Stone_write := _, f_Stone_write := F10, me_Stone_write := ⟨a10, i10, k10⟩, b_Stone_write := F10.binds (ps := ["self", "row"]) (fun _ _ _ _ _ _ us hl => (match us, hl with | [_, _], _ => rfl)), a_Stone_settle := _, d_Stone_settle := _, f_Stone_settle := F11, me_Stone_settle := ⟨a11, i11, k11⟩, b_Stone_settle := F11.binds (ps := ["self"]) (fun _ _ _ _ _ _ us hl => (match us, hl with | [_], _ => rfl)), a_Stone_rows := _, d_Stone_rows := _, f_Stone_rows := F12, me_Stone_rows := ⟨a12, i12, k12⟩, b_Stone_rows := F12.binds (ps := ["self"]) (fun _ _ _ _ _ _ us hl => (match us, hl with | [_], _ => rfl)), a_law_cell := _, d_law_cell := _, f_law_cell := F13, m_law_cell := PySem.W.mg_of X G a13, b_law_cell := F13.binds (ps := ["_law_script", "_law_k"]) (fun _ _ _ _ _ _ us hl => (match us, hl with | [_, _], _ => rfl)), a_law_draw := _, d_law_draw := _, f_law_draw := F14, m_law_draw := PySem.W.mg_of X G a14, b_law_draw := F14.binds (ps := ["_law_flow_here", "_law_many"]) (fun _ _ _ _ _ _ us hl => (match us, hl with | [_, _], _ => rfl)), a_law_handles := _, d_law_handles := _, f_law_handles := F15, m_law_handles := PySem.W.mg_of X G a15, b_law_handles := F15.binds (ps := ["_law_rows", "_law_being"]) (fun _ _ _ _ _ _ us hl => (match us, hl with | [_, _], _ => rfl)), a_Table_put := _, d_Table_put := _, f_Table_put := F16, me_Table_put := ⟨a16, i16, k16⟩, b_Table_put := F16.binds (ps := ["self", "house", "number"]) (fun _ _ _ _ _ _ us hl => (match us, hl with | [_, _, _], _ => rfl)), a_Table_drop := _, d_Table_drop := _, f_Table_drop := F17, me_Table_drop := ⟨a17, i17, k17⟩, b_Table_drop := F17.binds (ps := ["self", "handle"]) (fun _ _ _ _ _ _ us hl => (match us, hl with | [_, _], _ => rfl)), a_put_row := _, d_put_row := _, f_put_row := F18, m_put_row := PySem.W.mg_of X G a18, b_put_row := F18.binds (ps := ["rows", "tick", "house", "what"]) (fun _ _ _ _ _ _ us hl => (match us, hl with | [_, _, _, _], _ => rfl)), a_first_rows := _, d_first_rows := _, f_first_rows := F19, m_first_rows := PySem.W.mg_of X G a19, b_first_rows := F19.binds (ps := ["plan", "house"]) (fun _ _ _ _ _ _ us hl => (match us, hl with | [_, _], _ => rfl)), a_Kernel_rows := _, d_Kernel_rows := _, f_Kernel_rows := F20, me_Kernel_rows := ⟨a20, i20, k20⟩, b_Kernel_rows := F20.binds (ps := ["self"]) (fun _ _ _ _ _ _ us hl => (match us, hl with | [_], _ => rfl)), a_Kernel_wrote := _, d_Kernel_wrote := _, f_Kernel_wrote := F21, me_Kernel_wrote := ⟨a21, i21, k21⟩, b_Kernel_wrote := F21.binds (ps := ["self", "row"]) (fun _ _ _ _ _ _ us hl => (match us, hl with | [_, _], _ => rfl)), a_Kernel_answer := _, d_Kernel_answer := _, f_Kernel_answer := F22, me_Kernel_answer := ⟨a22, i22, k22⟩, b_Kernel_answer := F22.binds (ps := ["self", "count"]) (fun _ _ _ _ _ _ us hl => (match us, hl with | [_, _], _ => rfl)), a_law_flow := _, d_law_flow := _, f_law_flow := F23, m_law_flow := PySem.W.mg_of X G a23, b_law_flow := F23.binds (ps := ["_law_script", "_law_k"]) (fun _ _ _ _ _ _ us hl => (match us, hl with | [_, _], _ => rfl)), a_law_names := _, d_law_names := _, f_law_names := F24, m_law_names := PySem.W.mg_of X G a24, b_law_names := F24.binds (ps := ["_law_flow_here", "_law_many"]) (fun _ _ _ _ _ _ us hl => (match us, hl with | [_, _], _ => rfl)), a_law_reply := _, d_law_reply := _, f_law_reply := F25, m_law_reply := PySem.W.mg_of X G a25, b_law_reply := F25.binds (ps := ["_law_flow_here", "_law_what", "_law_ask", "_law_lots"]) (fun _ _ _ _ _ _ us hl => (match us, hl with | [_, _, _, _], _ => rfl)), a_replayed := _, d_replayed := _, f_replayed := F26, m_replayed := PySem.W.mg_of X G a26, b_replayed := F26.binds (ps := ["rows", "being"]) (fun _ _ _ _ _ _ us hl => (match us, hl with | [_, _], _ => rfl)), a_Kernel___init__ := _, d_Kernel___init__ := _, f_Kernel___init__ := F27, a_Kernel_asked := _, d_Kernel_asked := _, f_Kernel_asked := F28, me_Kernel_asked := ⟨a28, i28, k28⟩, b_Kernel_asked := F28.binds (ps := ["self", "tick", "what"]) (fun _ _ _ _ _ _ us hl => (match us, hl with | [_, _, _], _ => rfl)), a_Kernel_take_said := _, d_Kernel_take_said := _, f_Kernel_take_said := F29, me_Kernel_take_said := ⟨a29, i29, k29⟩, b_Kernel_take_said := F29.binds (ps := ["self", "sender", "what", "tick"]) (fun _ _ _ _ _ _ us hl => (match us, hl with | [_, _, _, _], _ => rfl)), a_table := _, d_table := _, f_table := F30, m_table := PySem.W.mg_of X G a30, b_table := F30.binds (ps := ["rows", "being"]) (fun _ _ _ _ _ _ us hl => (match us, hl with | [_, _], _ => rfl)), a_Kernel_take := _, d_Kernel_take := _, f_Kernel_take := F31, me_Kernel_take := ⟨a31, i31, k31⟩, b_Kernel_take := F31.binds (ps := ["self", "sender", "what", "tick"]) (fun _ _ _ _ _ _ us hl => (match us, hl with | [_, _, _, _], _ => rfl)), a_Kernel_led := _, d_Kernel_led := _, f_Kernel_led := F32, me_Kernel_led := ⟨a32, i32, k32⟩, b_Kernel_led := F32.binds (ps := ["self", "person", "handle"]) (fun _ _ _ _ _ _ us hl => (match us, hl with | [_, _, _], _ => rfl)), a_Kernel_table := _, d_Kernel_table := _, f_Kernel_table := F33, me_Kernel_table := ⟨a33, i33, k33⟩, b_Kernel_table := F33.binds (ps := ["self", "person"]) (fun _ _ _ _ _ _ us hl => (match us, hl with | [_, _], _ => rfl)), a_Kernel_hand := _, d_Kernel_hand := _, f_Kernel_hand := F34, me_Kernel_hand := ⟨a34, i34, k34⟩, b_Kernel_hand := F34.binds (ps := ["self", "person", "handle", "way", "rights", "far", "tick"]) (fun _ _ _ _ _ _ us hl => (match us, hl with | [_, _, _, _, _, _, _], _ => rfl)), a_Kernel_cut := _, d_Kernel_cut := _, f_Kernel_cut := F35, me_Kernel_cut := ⟨a35, i35, k35⟩, b_Kernel_cut := F35.binds (ps := ["self", "person", "own", "number", "tick"]) (fun _ _ _ _ _ _ us hl => (match us, hl with | [_, _, _, _, _], _ => rfl)), a_Kernel_call := _, d_Kernel_call := _, f_Kernel_call := F36, me_Kernel_call := ⟨a36, i36, k36⟩, b_Kernel_call := F36.binds (ps := ["self", "person", "way", "word", "what", "tick"]) (fun _ _ _ _ _ _ us hl => (match us, hl with | [_, _, _, _, _, _], _ => rfl)), a_law_said_right := _, d_law_said_right := _, f_law_said_right := F37, m_law_said_right := PySem.W.mg_of X G a37, b_law_said_right := F37.binds (ps := ["_law_kernel", "_law_holder", "_law_row", "_law_lots"]) (fun _ _ _ _ _ _ us hl => (match us, hl with | [_, _, _, _], _ => rfl)), a_law := _, d_law := _, f_law := F38, m_law := PySem.W.mg_of X G a38, b_law := F38.binds (ps := ["_law_script"]) (fun _ _ _ _ _ _ us hl => (match us, hl with | [_], _ => rfl)), m_table_replay := PySem.W.mg_of X G al_table_replay, cls_Table := ⟨pg_Table, hd_Table, po_Table, sa_Table⟩, c_Table := PySem.W.mg_of X G aC_Table, cls_Stone := ⟨pg_Stone, hd_Stone, po_Stone, sa_Stone⟩, c_Stone := PySem.W.mg_of X G aC_Stone, cls_Kernel := ⟨pg_Kernel, hd_Kernel, po_Kernel, sa_Kernel⟩, c_Kernel := PySem.W.mg_of X G aC_Kernel, mk_Table := ⟨mk_Table, a1, i1, kc_Table⟩, mk_Stone := ⟨mk_Stone, a9, i9, kc_Stone⟩, mk_Kernel := ⟨mk_Kernel, a27, i27, kc_Kernel⟩, na_Table_used := nf_Table_used, na_Table_there := nf_Table_there, na_Table_known := nf_Table_known, na_Stone_written := nf_Stone_written, na_Stone_firm := nf_Stone_firm, na_Kernel_stone := nf_Kernel_stone, na_Kernel_plan := nf_Kernel_plan, na_Kernel_house := nf_Kernel_house, na_Kernel_lease := nf_Kernel_lease, na_Kernel_every := nf_Kernel_every, na_Kernel_letters := nf_Kernel_letters, na_Kernel_kept := nf_Kernel_kept, na_Kernel_opened := nf_Kernel_opened, dv_Kernel___init___2 := dv_Kernel___init___2, du_Kernel___init___2 := _, bd_Kernel___init___2 := bd_Kernel___init___2, vd_Kernel___init___2 := vd_Kernel___init___2, cd_Kernel___init___2 := fun W H => ⟨_, _, rfl, rfl, ⟨_, _, rfl, rfl, rfl⟩⟩, n_abs := PySem.W.mg_none_of X G z_abs, n_enumerate := PySem.W.mg_none_of X G z_enumerate, n_int := PySem.W.mg_none_of X G z_int, n_len := PySem.W.mg_none_of X G z_len, n_list := PySem.W.mg_none_of X G z_list, n_max := PySem.W.mg_none_of X G z_max, n_min := PySem.W.mg_none_of X G z_min, n_range := PySem.W.mg_none_of X G z_range, n_repr := PySem.W.mg_none_of X G z_repr, n_sorted := PySem.W.mg_none_of X G z_sorted, n_tuple := PySem.W.mg_none_of X G z_tuple }
  exact ⟨_, fun s v => .of_eq rfl, fun base _ _ => (ok_law T).imp fun vs H Q E h => h _⟩
end K39
open PySem PySem.W PyProof.Rows
set_option maxHeartbeats 0 in
theorem PySem.Challenge.cw_grantchain_k39_the_first_answer_stays_holds : PySem.Challenge.rw_grantchain_k39_the_first_answer_stays.Holds := by
  w_on; o_law; k_head; (case hw => w_witness2)
  k_fill
  refine Fn.walk_ofG (l := PySem.Challenge.rw_grantchain_k39_the_first_answer_stays) (n := 63) (k := 7) (x := "_law_script") (CX := fun _ => L2.CX0) (sp := fun w vs H Q E => ∀ cl, Fn.spOf ⟨_, cl⟩ 1 K39.g_law vs H Q E) rfl (by decide) rfl ⟨rfl, by decide, by decide⟩ (fun w h Y => PySem.W.kIn_of Y) ?F (fun w H a ns hl ho hS cl => Fn.law_end K39.law_holds hl ho hS) (fun _ _ _ _ _ h => h)
  case F =>
    intro w mg fa h KX G hmg
    refine' K39.all_mk KX G hmg ?a0 ?l0 ?c0 ?k0 ?a1 ?i1 ?l1 ?c1 ?k1 ?a2 ?i2 ?l2 ?c2 ?k2 ?a3 ?i3 ?l3 ?c3 ?k3 ?a4 ?i4 ?l4 ?c4 ?k4 ?a5 ?l5 ?c5 ?k5 ?a6 ?l6 ?c6 ?k6 ?a7 ?l7 ?c7 ?k7 ?a8 ?l8 ?c8 ?k8 ?a9 ?i9 ?l9 ?c9 ?k9 ?p9 ?t9_rows ?a10 ?i10 ?l10 ?c10 ?k10 ?a11 ?i11 ?l11 ?c11 ?k11 ?a12 ?i12 ?l12 ?c12 ?k12 ?a13 ?l13 ?c13 ?k13 ?a14 ?l14 ?c14 ?k14 ?a15 ?l15 ?c15 ?k15 ?a16 ?i16 ?l16 ?c16 ?k16 ?a17 ?i17 ?l17 ?c17 ?k17 ?a18 ?l18 ?c18 ?k18 ?a19 ?l19 ?c19 ?k19 ?a20 ?i20 ?l20 ?c20 ?k20 ?a21 ?i21 ?l21 ?c21 ?k21 ?a22 ?i22 ?l22 ?c22 ?k22 ?a23 ?l23 ?c23 ?k23 ?a24 ?l24 ?c24 ?k24 ?a25 ?l25 ?c25 ?k25 ?a26 ?l26 ?c26 ?k26 ?a27 ?i27 ?l27 ?c27 ?k27 ?q27_lease ?q27_again ?a28 ?i28 ?l28 ?c28 ?k28 ?a29 ?i29 ?l29 ?c29 ?k29 ?a30 ?l30 ?c30 ?k30 ?a31 ?i31 ?l31 ?c31 ?k31 ?a32 ?i32 ?l32 ?c32 ?k32 ?a33 ?i33 ?l33 ?c33 ?k33 ?a34 ?i34 ?l34 ?c34 ?k34 ?a35 ?i35 ?l35 ?c35 ?k35 ?a36 ?i36 ?l36 ?c36 ?k36 ?a37 ?l37 ?c37 ?k37 ?a38 ?l38 ?c38 ?k38 ?aC_Table ?pg_Table ?hd_Table ?po_Table ?sa_Table ?mk_Table ?kc_Table ?aC_Stone ?pg_Stone ?hd_Stone ?po_Stone ?sa_Stone ?mk_Stone ?kc_Stone ?aC_Kernel ?pg_Kernel ?hd_Kernel ?po_Kernel ?sa_Kernel ?mk_Kernel ?kc_Kernel ?al_table_replay ?nf_Table_used ?nf_Table_there ?nf_Table_known ?nf_Stone_written ?nf_Stone_firm ?nf_Kernel_stone ?nf_Kernel_plan ?nf_Kernel_house ?nf_Kernel_lease ?nf_Kernel_every ?nf_Kernel_letters ?nf_Kernel_kept ?nf_Kernel_opened ?z_abs ?z_enumerate ?z_int ?z_len ?z_list ?z_max ?z_min ?z_range ?z_repr ?z_sorted ?z_tuple
    (case aC_Table => k_is); (case aC_Stone => k_is); (case aC_Kernel => k_is); (case a0 => k_is); (case l0 => k_is); (case c0 => k_is); (case k0 => k_is); (case a1 => k_is); (case i1 => k_is); (case l1 => k_is); (case c1 => k_is); (case k1 => k_is); (case a2 => k_is); (case i2 => k_is); (case l2 => k_is); (case c2 => k_is); (case k2 => k_is); (case a3 => k_is); (case i3 => k_is); (case l3 => k_is); (case c3 => k_is); (case k3 => k_is); (case a4 => k_is); (case i4 => k_is); (case l4 => k_is); (case c4 => k_is); (case k4 => k_is); (case a5 => k_is); (case l5 => k_is); (case c5 => k_is); (case k5 => k_is); (case a6 => k_is); (case l6 => k_is); (case c6 => k_is); (case k6 => k_is); (case a7 => k_is); (case l7 => k_is); (case c7 => k_is); (case k7 => k_is); (case a8 => k_is); (case l8 => k_is); (case c8 => k_is); (case k8 => k_is); (case a9 => k_is); (case i9 => k_is); (case l9 => k_is); (case c9 => k_is); (case k9 => k_is); (case p9 => k_is); (case t9_rows => k_is); (case a10 => k_is); (case i10 => k_is); (case l10 => k_is); (case c10 => k_is); (case k10 => k_is); (case a11 => k_is); (case i11 => k_is); (case l11 => k_is); (case c11 => k_is); (case k11 => k_is); (case a12 => k_is); (case i12 => k_is); (case l12 => k_is); (case c12 => k_is); (case k12 => k_is); (case a13 => k_is); (case l13 => k_is); (case c13 => k_is); (case k13 => k_is); (case a14 => k_is); (case l14 => k_is); (case c14 => k_is); (case k14 => k_is); (case a15 => k_is); (case l15 => k_is); (case c15 => k_is); (case k15 => k_is); (case a16 => k_is); (case i16 => k_is); (case l16 => k_is); (case c16 => k_is); (case k16 => k_is); (case a17 => k_is); (case i17 => k_is); (case l17 => k_is); (case c17 => k_is); (case k17 => k_is); (case a18 => k_is); (case l18 => k_is); (case c18 => k_is); (case k18 => k_is); (case a19 => k_is); (case l19 => k_is); (case c19 => k_is); (case k19 => k_is); (case a20 => k_is); (case i20 => k_is); (case l20 => k_is); (case c20 => k_is); (case k20 => k_is); (case a21 => k_is); (case i21 => k_is); (case l21 => k_is); (case c21 => k_is); (case k21 => k_is); (case a22 => k_is); (case i22 => k_is); (case l22 => k_is); (case c22 => k_is); (case k22 => k_is); (case a23 => k_is); (case l23 => k_is); (case c23 => k_is); (case k23 => k_is); (case a24 => k_is); (case l24 => k_is); (case c24 => k_is); (case k24 => k_is); (case a25 => k_is); (case l25 => k_is); (case c25 => k_is); (case k25 => k_is); (case a26 => k_is); (case l26 => k_is); (case c26 => k_is); (case k26 => k_is); (case a27 => k_is); (case i27 => k_is); (case l27 => k_is); (case c27 => k_is); (case k27 => k_is); (case q27_lease => k_is); (case q27_again => k_is); (case a28 => k_is); (case i28 => k_is); (case l28 => k_is); (case c28 => k_is); (case k28 => k_is); (case a29 => k_is); (case i29 => k_is); (case l29 => k_is); (case c29 => k_is); (case k29 => k_is); (case a30 => k_is); (case l30 => k_is); (case c30 => k_is); (case k30 => k_is); (case a31 => k_is); (case i31 => k_is); (case l31 => k_is); (case c31 => k_is); (case k31 => k_is); (case a32 => k_is); (case i32 => k_is); (case l32 => k_is); (case c32 => k_is); (case k32 => k_is); (case a33 => k_is); (case i33 => k_is); (case l33 => k_is); (case c33 => k_is); (case k33 => k_is); (case a34 => k_is); (case i34 => k_is); (case l34 => k_is); (case c34 => k_is); (case k34 => k_is); (case a35 => k_is); (case i35 => k_is); (case l35 => k_is); (case c35 => k_is); (case k35 => k_is); (case a36 => k_is); (case i36 => k_is); (case l36 => k_is); (case c36 => k_is); (case k36 => k_is); (case a37 => k_is); (case l37 => k_is); (case c37 => k_is); (case k37 => k_is); (case a38 => k_is); (case l38 => k_is); (case c38 => k_is); (case k38 => k_is); (case pg_Table => k_is); (case hd_Table => k_is); (case po_Table => k_is); (case sa_Table => k_is); (case mk_Table => k_is); (case kc_Table => k_is); (case pg_Stone => k_is); (case hd_Stone => k_is); (case po_Stone => k_is); (case sa_Stone => k_is); (case mk_Stone => k_is); (case kc_Stone => k_is); (case pg_Kernel => k_is); (case hd_Kernel => k_is); (case po_Kernel => k_is); (case sa_Kernel => k_is); (case mk_Kernel => k_is); (case kc_Kernel => k_is); (case al_table_replay => k_is); (case nf_Table_used => k_is); (case nf_Table_there => k_is); (case nf_Table_known => k_is); (case nf_Stone_written => k_is); (case nf_Stone_firm => k_is); (case nf_Kernel_stone => k_is); (case nf_Kernel_plan => k_is); (case nf_Kernel_house => k_is); (case nf_Kernel_lease => k_is); (case nf_Kernel_every => k_is); (case nf_Kernel_letters => k_is); (case nf_Kernel_kept => k_is); (case nf_Kernel_opened => k_is); (case z_abs => k_is); (case z_enumerate => k_is); (case z_int => k_is); (case z_len => k_is); (case z_list => k_is); (case z_max => k_is); (case z_min => k_is); (case z_range => k_is); (case z_repr => k_is); (case z_sorted => k_is); (case z_tuple => k_is)
