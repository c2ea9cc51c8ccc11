import PyProof.Rows.All
import Wide.All
import OpenK.AllK
import Wide.FinOn
import HandS.ForMost
import HandS.Wide
import HandS.TupAny
import KE.DataEq
import KE.DataFind
import HandS.IsInst
import HandS.SortInts
import HandS.Zip
import HandS.Defaults
import KE.SortData
import HandS.Style
import HandS.MakeKwOnly
import KE.KUnpackStar
import PyProof.MakeMany
import HandS.SetFor
import HandS.Strs
import KE.DataCmp
import HandS.DictTup
import HandS.TupLen
import HandS.WordsDict
import HandS.Iter
import HandS.OwnEq
import OpenK.KOps
import HandS.Conv
import HandS.DictSubView
import HandS.Ends
import PyProof.ReprRoads
import PyProof.ReprLen
import HandS.RaiseMore
import HandS.ListItems
import HandS.Dict
import KE.GoesEnum
import HandS.Zip0
import HandS.Text
import KE.KDictZip
import KE.KItemsList
import PyProof.Seq
import HandS.SetKeys
import HandS.Flow
import HandS.More
import KE.GoesMore
import HandS.DictComp
import HandS.Exc
import HandS.TupMul
import HandS.SetTxt0
import HandS.Sort
import KE.KDictPairs
import PySem.Challenge.RW_grantchain_k03_rights
set_option Elab.async false
set_option linter.all false
set_option maxRecDepth 100000
set_option maxHeartbeats 1000000
namespace Fn
open PySem PySem.Spec PyProof.Rows L2
abbrev Txt := List Nat
def l2s (l : List Nat) : Str := ⟨l.toArray⟩
def s2l (x : Str) : List Nat := x.cps.toList
theorem l2s_s2l (x : Str) : l2s (s2l x) = x := by cases x with | mk c => simp [l2s, s2l]
theorem s2l_l2s (l : List Nat) : s2l (l2s l) = l := by simp [l2s, s2l]
theorem l2s_inj {a b : List Nat} (h : l2s a = l2s b) : a = b := by have := congrArg s2l h; rwa [s2l_l2s, s2l_l2s] at this
/-- a key of a dict -/
abbrev KK := Sum Int (List Nat)
def kk : KK → Key
  | .inl i => .inl i
  | .inr l => .inr (l2s l)
/-- a value: what never changes is a tree; a changing object is a cell of the memory -/
inductive D where
  | non | bl (b : Bool) | int (i : Int) | str (x : List Nat) | tup (l : List D) | lst (l : List D) | fz (l : List D) | ref (i : Nat) | ct (l : List D)
inductive Cell where
  | lst (l : List D)
  | dk (lk : Bool) (kvs : List (KK × D))
  | dt (lk : Bool) (kvs : List (List KK × D))
  | ins (c : Nat) (fs : List (Str × D))
abbrev Mem := List Cell
abbrev Env := List (Option D)
inductive R (α : Type) where
  | ok (a : α) (m : Mem)
  | ex (c : Nat) (fs : List (Str × D)) (m : Mem)
  | no
def R.bind {α β : Type} (r : R α) (k : α → Mem → R β) : R β := match r with
  | .ok a m => k a m
  | .ex c fs m => .ex c fs m
  | .no => .no
@[simp] theorem R.bind_ok {α β : Type} (a : α) (m : Mem) (k : α → Mem → R β) : (R.ok a m).bind k = k a m := rfl
@[simp] theorem R.bind_ex {α β : Type} (c : Nat) (fs : List (Str × D)) (m : Mem) (k : α → Mem → R β) : (R.ex c fs m : R α).bind k = .ex c fs m := rfl
@[simp] theorem R.bind_no {α β : Type} (k : α → Mem → R β) : (R.no : R α).bind k = .no := rfl
/-- the world of addresses: the cells', and hidden ones -/
structure Wd where
  as : List Addr
  hd : List Addr
/-- the context: the written part, the classes -/
structure Gx where
  K : PySem.W.Frag
  cl : Nat → Addr
section
variable (G : Gx) (W : Wd) (H : Hp)
def InK (a : Addr) (us : List V) : Prop := ∃ (o : Obj) (its : Array Value) (n : Nat), G.K.lookup a = some o ∧ o.cls = .type "list" ∧ o.dict = none ∧ o.data = .seq its n ∧ its.size ≤ sizeLine ∧ Vals us its.toList
def LstAt (a : Addr) (us : List V) : Prop := H a = some (.lst us) ∧ a ∉ W.as ∧ a ∉ W.hd
def FzAt (a : Addr) (us : List V) : Prop := (∃ o, H a = some (.frz o (.lst us))) ∨ InK G a us
/-- a tuple of which is known that it has no dict of its own -/
def CtAt (a : Addr) (us : List V) : Prop := ∃ o, H a = some (.frz o (.tup us)) ∧ o.dict = none
/-- a tuple of the heap (so it may be a key); an empty one may be written -/
def TupAt (a : Addr) (l : List D) (us : List V) : Prop := H a = some (.tup us) ∨ (l = [] ∧ SqT G.K H a us)
mutual
def Rp : D → V → Prop
  | .non, u => u = .non
  | .bl b, u => u = .bl b
  | .int i, u => u = .int i
  | .str x, u => u = .str (l2s x)
  | .tup l, u => ∃ a us, u = .ref a ∧ TupAt G H a l us ∧ RpL l us
  | .lst l, u => ∃ a us, u = .ref a ∧ LstAt W H a us ∧ RpL l us
  | .fz l, u => ∃ a us, u = .ref a ∧ FzAt G H a us ∧ RpL l us
  | .ref i, u => ∃ a, W.as[i]? = some a ∧ u = .ref a
  | .ct l, u => ∃ a us, u = .ref a ∧ CtAt H a us ∧ RpL l us
def RpL : List D → List V → Prop
  | [], us => us = []
  | d :: r, us => ∃ u us', us = u :: us' ∧ Rp d u ∧ RpL r us'
end
theorem CtAt.sq {K : PySem.W.Frag} {H : Hp} {a : Addr} {us : List V} (h : CtAt H a us) : SqT K H a us := by
  obtain ⟨o, h, _⟩ := h
  exact .inl (.inr ⟨o, h⟩)
theorem TupAt.sq {G : Gx} {H : Hp} {a : Addr} {l : List D} {us : List V} (h : TupAt G H a l us) : SqT G.K H a us := by
  rcases h with h | h
  · exact .inl (.inl h)
  · exact h.2
def RpK {κ κ' : Type} (f : κ → κ') : List (κ × D) → List (κ' × V) → Prop := Paired fun p q => f p.1 = q.1 ∧ Rp G W H p.2 q.2
def CellOk (a : Addr) : Cell → Prop
  | .lst l => ∃ us, H a = some (.lst us) ∧ RpL G W H l us
  | .dk lk kvs => ∃ vs, (if lk = true then ∃ o, H a = some (.frz o (.dK vs)) else H a = some (.dK vs)) ∧ RpK G W H kk kvs vs
  | .dt lk kvs => ∃ vs, (if lk = true then ∃ o, H a = some (.frz o (.dT vs)) else H a = some (.dT vs)) ∧ RpK G W H (List.map kk) kvs vs
  | .ins c fs => ∃ dx vs, H a = some (.ins (G.cl c) dx vs) ∧ RpK G W H id fs vs
structure MemOk (M : Mem) : Prop where
  len : W.as.length = M.length
  nd : W.as.Nodup
  cell : ∀ (i : Nat) c a, M[i]? = some c → W.as[i]? = some a → CellOk G W H a c
  apart : ∀ a ∈ W.as, a ∉ W.hd
  hid : ∀ a ∈ W.hd, ∃ o, H a = some o
def EnvOk (env : Env) (σ : L2.St) : Prop := env.length = σ.length ∧ ∀ (i : Nat) d, env[i]? = some (some d) → ∃ u, σ[i]? = some (some u) ∧ Rp G W H d u
end
/-- the heap goes on -/
structure Fut (W : Wd) (H : Hp) (W' : Wd) (H' : Hp) : Prop where
  ext : ∃ new, W'.as = W.as ++ new ∧ ∀ a ∈ new, H a = none ∧ a ∉ W.as
  hd : W'.hd = W.hd
  keep : ∀ a o, H a = some o → a ∉ W.as → H' a = some o
  lk : ∀ a od u, H a = some (.frz od u) → H' a = some (.frz od u)
theorem Fut.rfl' {W : Wd} {H : Hp} : Fut W H W H := ⟨⟨[], by simp, by simp⟩, rfl, fun _ _ e _ => e, fun _ _ _ e => e⟩
theorem Fut.nin {W W1 : Wd} {H H1 : Hp} (a : Fut W H W1 H1) {x : Addr} {o : HO} (e : H x = some o) (hx : x ∉ W.as) : x ∉ W1.as := by
  obtain ⟨n1, e1, f1⟩ := a.ext
  rw [e1]
  intro z
  rcases List.mem_append.mp z with z | z
  · exact hx z
  · rw [(f1 x z).1] at e; cases e
theorem Fut.nhd {W W1 : Wd} {H H1 : Hp} (a : Fut W H W1 H1) {x : Addr} {o : HO} (e : H x = some o) (hx : x ∉ W.hd) : x ∉ W1.hd := by rw [a.hd]; exact hx
theorem Fut.old {W W1 : Wd} {H H1 : Hp} (a : Fut W H W1 H1) {x : Addr} (h1 : H1 x = none) (hx : x ∉ W.as) : H x = none := by
  cases q : H x with
  | none => rfl
  | some o =>
    have := a.keep x o q hx
    rw [h1] at this; cases this
theorem Fut.sub {W W1 : Wd} {H H1 : Hp} (a : Fut W H W1 H1) {x : Addr} (hx : x ∉ W1.as) : x ∉ W.as := fun zz => by
  obtain ⟨n1, e1, f1⟩ := a.ext
  exact hx (by rw [e1]; exact List.mem_append_left _ zz)
theorem Fut.trans {W W1 W2 : Wd} {H H1 H2 : Hp} (a : Fut W H W1 H1) (b : Fut W1 H1 W2 H2) : Fut W H W2 H2 := by
  obtain ⟨n1, e1, f1⟩ := a.ext
  obtain ⟨n2, e2, f2⟩ := b.ext
  refine ⟨⟨n1 ++ n2, by rw [e2, e1, List.append_assoc], fun x hx => ?_⟩, b.hd.trans a.hd, fun x o e hx => b.keep x o (a.keep x o e hx) (a.nin e hx), fun x od u e => b.lk x od u (a.lk x od u e)⟩
  · rcases List.mem_append.mp hx with z | z
    · exact f1 x z
    · have n1' := a.sub (f2 x z).2
      exact ⟨a.old (f2 x z).1 n1', n1'⟩
theorem Fut.get {W W1 : Wd} {H H1 : Hp} (a : Fut W H W1 H1) {i : Nat} {x : Addr} (h : W.as[i]? = some x) : W1.as[i]? = some x := by
  obtain ⟨n1, e1, _⟩ := a.ext
  rw [e1]
  rw [List.getElem?_append_left]
  · exact h
  · have := List.getElem?_eq_some_iff.mp h
    exact this.1
theorem LstAt.fut {W W' : Wd} {H H' : Hp} (f : Fut W H W' H') {a : Addr} {us : List V} (h : LstAt W H a us) : LstAt W' H' a us :=
  ⟨f.keep _ _ h.1 h.2.1, f.nin h.1 h.2.1, f.nhd h.1 h.2.2⟩
/-- what is a tuple, or a frozen list -/
def Still (o : HO) : Prop := match o with
  | .tup _ => True
  | .frz _ (.tup _) => True
  | .frz _ (.lst _) => True
  | _ => False
/-- no cell is a tuple -/
theorem MemOk.nt {G : Gx} {W : Wd} {H : Hp} {M : Mem} (m : MemOk G W H M) : ∀ a o, H a = some o → Still o → a ∉ W.as := by
  intro a o h st ha
  obtain ⟨i, hi⟩ := List.getElem?_of_mem ha
  have hl : i < M.length := by
    rw [← m.len]
    exact (List.getElem?_eq_some_iff.mp hi).1
  have c := m.cell i _ a (List.getElem?_eq_getElem hl) hi
  cases e : M[i] with
  | lst l =>
    rw [e] at c
    obtain ⟨vs, q, _⟩ := c
    rw [h] at q; cases q; exact st
  | dk lk kvs =>
    rw [e] at c
    obtain ⟨vs, q, _⟩ := c
    cases lk
    · have q' : H a = some (.dK vs) := q
      rw [h] at q'; cases q'; exact st
    · obtain ⟨o', q'⟩ : ∃ o, H a = some (.frz o (.dK vs)) := q
      rw [h] at q'; cases q'; exact st
  | dt lk kvs =>
    rw [e] at c
    obtain ⟨vs, q, _⟩ := c
    cases lk
    · have q' : H a = some (.dT vs) := q
      rw [h] at q'; cases q'; exact st
    · obtain ⟨o', q'⟩ : ∃ o, H a = some (.frz o (.dT vs)) := q
      rw [h] at q'; cases q'; exact st
  | ins c0 fs =>
    rw [e] at c
    obtain ⟨dx, vs, q, _⟩ := c
    rw [h] at q; cases q; exact st
/-- what makes a value's form stay -/
structure Kp (W : Wd) (H : Hp) (W' : Wd) (H' : Hp) : Prop where
  get : ∀ (i : Nat) a, W.as[i]? = some a → W'.as[i]? = some a
  keep : ∀ a o, H a = some o → a ∉ W.as → a ∉ W.hd → H' a = some o
  still : ∀ a o, H a = some o → Still o → H' a = some o
  out : ∀ a o, H a = some o → a ∉ W.as → a ∉ W.hd → a ∉ W'.as ∧ a ∉ W'.hd
theorem Kp.trans {W W1 W2 : Wd} {H H1 H2 : Hp} (a : Kp W H W1 H1) (b : Kp W1 H1 W2 H2) : Kp W H W2 H2 :=
  ⟨fun i x h => b.get i x (a.get i x h), fun x o e h1 h2 => b.keep x o (a.keep x o e h1 h2) (a.out x o e h1 h2).1 (a.out x o e h1 h2).2, fun x o e st => b.still x o (a.still x o e st) st,
   fun x o e h1 h2 => b.out x o (a.keep x o e h1 h2) (a.out x o e h1 h2).1 (a.out x o e h1 h2).2⟩
theorem Fut.kp {G : Gx} {W W' : Wd} {H H' : Hp} {M : Mem} (f : Fut W H W' H') (m : MemOk G W H M) : Kp W H W' H' :=
  ⟨fun _ _ h => f.get h, fun a o e h1 _ => f.keep a o e h1, fun a o e st => f.keep a o e (m.nt a o e st), fun a o e h1 h2 => ⟨f.nin e h1, f.nhd e h2⟩⟩
mutual
theorem Rp.kp {G : Gx} {W W' : Wd} {H H' : Hp} (k : Kp W H W' H') : ∀ (d : D) (u : V), Rp G W H d u → Rp G W' H' d u
  | .non, u, h => h
  | .bl b, u, h => h
  | .int i, u, h => h
  | .str x, u, h => h
  | .tup l, u, h => by
    obtain ⟨a, us, e, s, r⟩ := h
    refine ⟨a, us, e, ?_, RpL.kp k l us r⟩
    rcases s with s | ⟨h, (s | ⟨o, s⟩) | s⟩
    · exact .inl (k.still _ _ s trivial)
    · exact .inr ⟨h, .inl (.inl (k.still _ _ s trivial))⟩
    · exact .inr ⟨h, .inl (.inr ⟨o, k.still _ _ s trivial⟩)⟩
    · exact .inr ⟨h, .inr s⟩
  | .lst l, u, h => by
    obtain ⟨a, us, e, s, r⟩ := h
    exact ⟨a, us, e, ⟨k.keep _ _ s.1 s.2.1 s.2.2, k.out _ _ s.1 s.2.1 s.2.2⟩, RpL.kp k l us r⟩
  | .fz l, u, h => by
    obtain ⟨a, us, e, s, r⟩ := h
    refine ⟨a, us, e, ?_, RpL.kp k l us r⟩
    rcases s with ⟨o, s⟩ | s
    · exact .inl ⟨o, k.still _ _ s trivial⟩
    · exact .inr s
  | .ref i, u, h => by
    obtain ⟨a, e, r⟩ := h
    exact ⟨a, k.get _ _ e, r⟩
  | .ct l, u, h => by
    obtain ⟨a, us, e, ⟨o, s, z⟩, r⟩ := h
    exact ⟨a, us, e, ⟨o, k.still _ _ s trivial, z⟩, RpL.kp k l us r⟩
theorem RpL.kp {G : Gx} {W W' : Wd} {H H' : Hp} (k : Kp W H W' H') : ∀ (l : List D) (us : List V), RpL G W H l us → RpL G W' H' l us
  | [], us, h => h
  | d :: r, us, h => by
    obtain ⟨u, us', e, h1, h2⟩ := h
    exact ⟨u, us', e, Rp.kp k d u h1, RpL.kp k r us' h2⟩
end
theorem MemOk.rp {G : Gx} {W W' : Wd} {H H' : Hp} {M : Mem} (m : MemOk G W H M) (f : Fut W H W' H') {d : D} {u : V} (h : Rp G W H d u) : Rp G W' H' d u := Rp.kp (f.kp m) d u h
theorem MemOk.rpL {G : Gx} {W W' : Wd} {H H' : Hp} {M : Mem} (m : MemOk G W H M) (f : Fut W H W' H') {d : List D} {u : List V} (h : RpL G W H d u) : RpL G W' H' d u := RpL.kp (f.kp m) d u h
theorem EnvOk.fut {G : Gx} {W W' : Wd} {H H' : Hp} {M : Mem} {env : Env} {σ : L2.St} (h : EnvOk G W H env σ) (m : MemOk G W H M) (f : Fut W H W' H') : EnvOk G W' H' env σ :=
  ⟨h.1, fun i d e => let ⟨u, h1, h2⟩ := h.2 i d e; ⟨u, h1, m.rp f h2⟩⟩
theorem EnvOk.kp {G : Gx} {W W' : Wd} {H H' : Hp} {env : Env} {σ : L2.St} (h : EnvOk G W H env σ) (k : Kp W H W' H') : EnvOk G W' H' env σ :=
  ⟨h.1, fun i d e => let ⟨u, h1, h2⟩ := h.2 i d e; ⟨u, h1, Rp.kp k _ _ h2⟩⟩
def XOk (G : Gx) (W : Wd) (H : Hp) (d : Addr) (fs : List (Str × D)) : Prop := ∃ vs, H d = some (.xd vs) ∧ RpK G W H id fs vs
def PX (G : Gx) (W : Wd) (H : Hp) (E : XK) (c : Nat) (fs : List (Str × D)) (m : Mem) : Prop := ∀ W' d H', Fut W H W' H' → MemOk G W' H' m → XOk G W' H' d fs → E (.ref (G.cl c)) (some d) H'
def PR {α : Type} (G : Gx) (W : Wd) (H : Hp) (K : α → Mem → Wd → Hp → Prop) (E : XK) : R α → Prop
  | .ok a m => ∀ W' H', Fut W H W' H' → MemOk G W' H' m → K a m W' H'
  | .ex c fs m => PX G W H E c fs m
  | .no => False
theorem PX.fut {G : Gx} {W W' : Wd} {H H' : Hp} {E : XK} {c : Nat} {fs : List (Str × D)} {m : Mem} (f : Fut W H W' H') (h : PX G W H E c fs m) : PX G W' H' E c fs m := fun W2 d H2 f2 => h W2 d H2 (f.trans f2)
theorem PR.fut {α : Type} {G : Gx} {W W' : Wd} {H H' : Hp} {K : α → Mem → Wd → Hp → Prop} {E : XK} (f : Fut W H W' H') : ∀ {r : R α}, PR G W H K E r → PR G W' H' K E r
  | .ok a m, h => fun W2 H2 f2 => h W2 H2 (f.trans f2)
  | .ex c fs m, h => PX.fut f h
  | .no, h => h
theorem PR.mono {α : Type} {G : Gx} {W : Wd} {H : Hp} {K K' : α → Mem → Wd → Hp → Prop} {E : XK} : ∀ {r : R α}, PR G W H K E r → (∀ a m W' H', Fut W H W' H' → MemOk G W' H' m → K a m W' H' → K' a m W' H') → PR G W H K' E r
  | .ok a m, h, k => fun W2 H2 f2 m2 => k a m W2 H2 f2 m2 (h W2 H2 f2 m2)
  | .ex c fs m, h, _ => h
  | .no, h, _ => h
/-- one thing behind another -/
theorem PR.bind {α β : Type} {G : Gx} {W : Wd} {H : Hp} {K : β → Mem → Wd → Hp → Prop} {K1 : α → Mem → Wd → Hp → Prop} {E : XK} {k : α → Mem → R β} : ∀ {r : R α}, PR G W H K E (r.bind k) →
    (∀ a m W1 H1, Fut W H W1 H1 → MemOk G W1 H1 m → PR G W1 H1 K E (k a m) → K1 a m W1 H1) → PR G W H K1 E r
  | .ok a m, h, hk => fun W2 H2 f2 m2 => hk a m W2 H2 f2 m2 (PR.fut f2 (show PR G W H K E (k a m) from h))
  | .ex c fs m, h, _ => h
  | .no, h, _ => h
/-- a value comes -/
def PV (G : Gx) (Q : VK) : D → Mem → Wd → Hp → Prop := fun d _ W' H' => ∀ u, Rp G W' H' d u → Q u H'
def PVs (G : Gx) (Q : List V → Hp → Prop) : List D → Mem → Wd → Hp → Prop := fun d _ W' H' => ∀ u, RpL G W' H' d u → Q u H'
def PB (G : Gx) (Q : Bool → Hp → Prop) : Bool → Mem → Wd → Hp → Prop := fun b _ _ H' => Q b H'
abbrev FE := Env → Mem → R D
abbrev FT := Env → Mem → R Bool
abbrev FA := Env → Mem → R (List D)
structure Sta (G : Gx) (W : Wd) (env : Env) (M : Mem) (σ : L2.St) (H : Hp) : Prop where
  mem : MemOk G W H M
  env : EnvOk G W H env σ
theorem Sta.fut {G : Gx} {W W' : Wd} {H H' : Hp} {M M' : Mem} {env : Env} {σ : L2.St} (h : Sta G W env M σ H) (f : Fut W H W' H') (m : MemOk G W' H' M') : Sta G W' env M' σ H' := ⟨m, h.env.fut h.mem f⟩
def tE (G : Gx) (E : XK) (f : FE) : TE := fun σ H Q => ∃ W env M, Sta G W env M σ H ∧ PR G W H (PV G Q) E (f env M)
def tT (G : Gx) (E : XK) (f : FT) : TT := fun σ H Q => ∃ W env M, Sta G W env M σ H ∧ PR G W H (PB G Q) E (f env M)
def tA (G : Gx) (E : XK) (f : FA) : TA := fun σ H Q => ∃ W env M, Sta G W env M σ H ∧ PR G W H (PVs G Q) E (f env M)
theorem pe_imp {X : Cx} {e : Expr} {t t' : TE} (h : PE X e t) (i : ∀ σ H Q, t' σ H Q → t σ H Q) : PE X e t' := ⟨fun pins s σ H Q I q => h.run pins s σ H Q I (i σ H Q q)⟩
theorem pt_imp {X : Cx} {e : Expr} {t t' : TT} (h : PT X e t) (i : ∀ σ H Q, t' σ H Q → t σ H Q) : PT X e t' := ⟨fun pins s σ H Q I q => h.run pins s σ H Q I (i σ H Q q)⟩
theorem pw_imp {X : Cx} {e : Expr} {t t' : TT} (h : PW X e t) (i : ∀ σ H Q, t' σ H Q → t σ H Q) : PW X e t' := ⟨fun wh pins s σ H Q I q => h.run wh pins s σ H Q I (i σ H Q q)⟩
theorem pa_imp {X : Cx} {e : List Expr} {t t' : TA} (h : PA X e t) (i : ∀ σ H Q, t' σ H Q → t σ H Q) : PA X e t' := ⟨fun pos pins s σ H Q I q => h.run pos pins s σ H Q I (i σ H Q q)⟩
theorem ps_imp {X : Cx} {e : Stmt} {t t' : TS} (h : PS X e t) (i : ∀ D σ H, t' D σ H → t D σ H) : PS X e t' := ⟨fun pins s σ H D I q => h.run pins s σ H D I (i D σ H q)⟩
theorem pss_imp {X : Cx} {e : List Stmt} {t t' : TS} (h : PSs X e t) (i : ∀ D σ H, t' D σ H → t D σ H) : PSs X e t' := ⟨fun pins s σ H D I q => h.run pins s σ H D I (i D σ H q)⟩
section
variable {X : Cx} {G : Gx} {E : XK}
/-- pass a part on -/
theorem tE.bind {f : FE} {α : Type} {k : D → Mem → R α} {W : Wd} {env : Env} {M : Mem} {σ : L2.St} {H : Hp} {K : α → Mem → Wd → Hp → Prop} {Q : VK} (s : Sta G W env M σ H) (h : PR G W H K E ((f env M).bind k))
    (hk : ∀ d m W1 H1 u, Fut W H W1 H1 → Sta G W1 env m σ H1 → Rp G W1 H1 d u → PR G W1 H1 K E (k d m) → Q u H1) : tE G E f σ H Q :=
  ⟨W, env, M, s, PR.bind h fun d m W1 H1 f1 m1 q => fun u r => hk d m W1 H1 u f1 (s.fut f1 m1) r q⟩
theorem tT.bind {f : FT} {α : Type} {k : Bool → Mem → R α} {W : Wd} {env : Env} {M : Mem} {σ : L2.St} {H : Hp} {K : α → Mem → Wd → Hp → Prop} {Q : Bool → Hp → Prop} (s : Sta G W env M σ H) (h : PR G W H K E ((f env M).bind k))
    (hk : ∀ d m W1 H1, Fut W H W1 H1 → Sta G W1 env m σ H1 → PR G W1 H1 K E (k d m) → Q d H1) : tT G E f σ H Q :=
  ⟨W, env, M, s, PR.bind h fun d m W1 H1 f1 m1 q => hk d m W1 H1 f1 (s.fut f1 m1) q⟩
theorem tA.bind {f : FA} {α : Type} {k : List D → Mem → R α} {W : Wd} {env : Env} {M : Mem} {σ : L2.St} {H : Hp} {K : α → Mem → Wd → Hp → Prop} {Q : List V → Hp → Prop} (s : Sta G W env M σ H) (h : PR G W H K E ((f env M).bind k))
    (hk : ∀ d m W1 H1 u, Fut W H W1 H1 → Sta G W1 env m σ H1 → RpL G W1 H1 d u → PR G W1 H1 K E (k d m) → Q u H1) : tA G E f σ H Q :=
  ⟨W, env, M, s, PR.bind h fun d m W1 H1 f1 m1 q => fun u r => hk d m W1 H1 u f1 (s.fut f1 m1) r q⟩
def mVar (i : Nat) : FE := fun env M => match env[i]? with
  | some (some d) => .ok d M
  | _ => .no
def mC (d : D) : FE := fun _ M => .ok d M
theorem sn_var {i : Nat} {x : Str} {pos : Pos} (h : PE X (.Name x pos) (tVar i)) : PE X (.Name x pos) (tE G E (mVar i)) := pe_imp h fun σ H Q ⟨W, env, M, s, p⟩ => by
  unfold mVar at p
  split at p
  · rename_i d e
    obtain ⟨u, h1, h2⟩ := s.env.2 i d e
    exact ⟨u, h1, p W H Fut.rfl' s.mem u h2⟩
  · exact p.elim
theorem sn_int {i j pos} : PE X (.Constant (.int i) j pos) (tE G E (mC (.int i))) := pe_imp pe_int fun σ H Q ⟨W, env, M, s, p⟩ => p W H Fut.rfl' s.mem _ rfl
theorem sn_bl {b j pos} : PE X (.Constant (.bool b) j pos) (tE G E (mC (.bl b))) := pe_imp pe_bl fun σ H Q ⟨W, env, M, s, p⟩ => p W H Fut.rfl' s.mem _ rfl
theorem sn_non {j pos} : PE X (.Constant .none j pos) (tE G E (mC .non)) := pe_imp pe_non fun σ H Q ⟨W, env, M, s, p⟩ => p W H Fut.rfl' s.mem _ rfl
theorem sn_str {x : Str} {j pos} : PE X (.Constant (.str x) j pos) (tE G E (mC (.str (s2l x)))) := pe_imp pe_str fun σ H Q ⟨W, env, M, s, p⟩ => p W H Fut.rfl' s.mem _ (by show V.str x = .str (l2s (s2l x)); rw [l2s_s2l])
end
end Fn
set_option Elab.async false
set_option linter.all false
set_option maxRecDepth 100000
set_option maxHeartbeats 1000000
namespace Fn
open PySem PySem.Spec PyProof.Rows L2
theorem line_eq : (sizeLine : Nat) = 16777216 := sizeLine_eq
theorem l2s_len (l : List Nat) : (l2s l).length = l.length := by simp [l2s, Str.length]
theorem l2s_toList (l : List Nat) : (l2s l).cps.toList = l := s2l_l2s l
theorem l2s_append (a b : List Nat) : l2s a ++ l2s b = l2s (a ++ b) := by
  show (⟨(l2s a).cps ++ (l2s b).cps⟩ : Str) = _
  simp [l2s]
section
variable {X : Cx} {cl : Nat → Addr} {E : XK} {G : Gx} {W W' : Wd} {H H' : Hp} {M : Mem} {Q : VK}
theorem CellOk.there {a : Addr} {c : Cell} (h : CellOk G W H a c) : ∃ o, H a = some o ∧ ¬ Still o := by
  cases c with
  | lst l => obtain ⟨vs, q, _⟩ := h; exact ⟨_, q, fun z => z⟩
  | dk lk kvs =>
    obtain ⟨vs, q, _⟩ := h
    cases lk
    · exact ⟨_, (show H a = some (.dK vs) from q), fun z => z⟩
    · obtain ⟨o', q'⟩ : ∃ o, H a = some (.frz o (.dK vs)) := q
      exact ⟨_, q', fun z => z⟩
  | dt lk kvs =>
    obtain ⟨vs, q, _⟩ := h
    cases lk
    · exact ⟨_, (show H a = some (.dT vs) from q), fun z => z⟩
    · obtain ⟨o', q'⟩ : ∃ o, H a = some (.frz o (.dT vs)) := q
      exact ⟨_, q', fun z => z⟩
  | ins c0 fs => obtain ⟨dx, vs, q, _⟩ := h; exact ⟨_, q, fun z => z⟩
theorem MemOk.at (m : MemOk G W H M) {a : Addr} (ha : a ∈ W.as) : ∃ (i : Nat) (c : Cell), W.as[i]? = some a ∧ M[i]? = some c ∧ CellOk G W H a c := by
  obtain ⟨i, hi⟩ := List.getElem?_of_mem ha
  have hl : i < M.length := by
    rw [← m.len]
    exact (List.getElem?_eq_some_iff.mp hi).1
  exact ⟨i, _, hi, List.getElem?_eq_getElem hl, m.cell i _ a (List.getElem?_eq_getElem hl) hi⟩
theorem MemOk.fresh (m : MemOk G W H M) {p : Addr} (hp : H p = none) : p ∉ W.as ∧ p ∉ W.hd := by
  constructor
  · intro z
    obtain ⟨i, c, _, _, k⟩ := m.at z
    obtain ⟨o, ho, _⟩ := k.there
    rw [hp] at ho; cases ho
  · intro z
    obtain ⟨o, ho⟩ := m.hid p z
    rw [hp] at ho; cases ho
theorem Paired.imp {α β : Type} {F F' : α → β → Prop} (h : ∀ a b, F a b → F' a b) : ∀ {l : List α} {l' : List β}, Paired F l l' → Paired F' l l'
  | _, _, .nil => .nil
  | _, _, .cons a b => .cons (h _ _ a) (Paired.imp h b)
theorem RpK.fut {κ κ' : Type} {f : κ → κ'} (m : MemOk G W H M) (fu : Fut W H W' H') {l : List (κ × D)} {vs : List (κ' × V)} (h : RpK G W H f l vs) : RpK G W' H' f l vs := Paired.imp (fun _ _ z => ⟨z.1, m.rp fu z.2⟩) h
theorem CellOk.fut (m : MemOk G W H M) (fu : Fut W H W' H') {a : Addr} {c : Cell} (e : H' a = H a) (h : CellOk G W H a c) : CellOk G W' H' a c := by
  cases c with
  | lst l => obtain ⟨vs, q, r⟩ := h; exact ⟨vs, by rw [e]; exact q, m.rpL fu r⟩
  | dk lk kvs => obtain ⟨vs, q, r⟩ := h; exact ⟨vs, by rw [e]; exact q, r.fut m fu⟩
  | dt lk kvs => obtain ⟨vs, q, r⟩ := h; exact ⟨vs, by rw [e]; exact q, r.fut m fu⟩
  | ins c0 fs => obtain ⟨dx, vs, q, r⟩ := h; exact ⟨dx, vs, by rw [e]; exact q, r.fut m fu⟩
/-- a new object beside -/
theorem Fut.laid {p : Addr} {o : HO} (hp : H p = none) : Fut W H W (upd H p o) := ⟨⟨[], by simp, by simp⟩, rfl, fun a u e _ => by rw [upd_ne (ne_of_none e hp)]; exact e, fun a od u e => by rw [upd_ne (ne_of_none e hp)]; exact e⟩
theorem MemOk.laid (m : MemOk G W H M) {p : Addr} {o : HO} (hp : H p = none) : MemOk G W (upd H p o) M :=
  ⟨m.len, m.nd, fun i c a e1 e2 => by
    have k := m.cell i c a e1 e2
    obtain ⟨u, hu, _⟩ := k.there
    exact k.fut m (Fut.laid hp) (upd_ne (ne_of_none hu hp)), m.apart, fun a ha => by
    obtain ⟨u, hu⟩ := m.hid a ha
    exact ⟨u, by rw [upd_ne (ne_of_none hu hp)]; exact hu⟩⟩
/-- a new cell -/
theorem Fut.added {p : Addr} {o : HO} (m : MemOk G W H M) (hp : H p = none) : Fut W H ⟨W.as ++ [p], W.hd⟩ (upd H p o) :=
  ⟨⟨[p], rfl, fun a ha => by rw [List.mem_singleton] at ha; subst ha; exact ⟨hp, (m.fresh hp).1⟩⟩, rfl, fun a u e _ => by rw [upd_ne (ne_of_none e hp)]; exact e, fun a od u e => by rw [upd_ne (ne_of_none e hp)]; exact e⟩
theorem MemOk.added (m : MemOk G W H M) {p : Addr} {o : HO} (hp : H p = none) {c : Cell} (hc : CellOk G ⟨W.as ++ [p], W.hd⟩ (upd H p o) p c) : MemOk G ⟨W.as ++ [p], W.hd⟩ (upd H p o) (M ++ [c]) where
  len := by simp [m.len]
  nd := by
    rw [List.nodup_append]
    refine ⟨m.nd, by simp, fun a ha b hb => ?_⟩
    rw [List.mem_singleton] at hb; subst hb
    intro z; subst z
    exact (m.fresh hp).1 ha
  cell := fun i c' a e1 e2 => by
    by_cases hi : i < M.length
    · rw [List.getElem?_append_left hi] at e1
      have hi2 : i < W.as.length := by rw [m.len]; exact hi
      rw [show (⟨W.as ++ [p], W.hd⟩ : Wd).as = W.as ++ [p] from rfl, List.getElem?_append_left hi2] at e2
      have k := m.cell i c' a e1 e2
      obtain ⟨u, hu, _⟩ := k.there
      exact k.fut m (Fut.added m hp) (upd_ne (ne_of_none hu hp))
    · have hi2 : ¬ i < W.as.length := by rw [m.len]; exact hi
      rw [List.getElem?_append_right (by omega)] at e1
      rw [show (⟨W.as ++ [p], W.hd⟩ : Wd).as = W.as ++ [p] from rfl, List.getElem?_append_right (by omega)] at e2
      have e3 : i - M.length = 0 := by
        have := (List.getElem?_eq_some_iff.mp e1).1
        simp at this; omega
      rw [e3] at e1
      rw [show i - W.as.length = 0 by rw [m.len]; exact e3] at e2
      simp at e1 e2
      subst e1 e2
      exact hc
  apart := fun a ha => by
    rcases List.mem_append.mp ha with z | z
    · exact m.apart a z
    · rw [List.mem_singleton] at z; subst z
      exact (m.fresh hp).2
  hid := fun a ha => by
    obtain ⟨u, hu⟩ := m.hid a ha
    exact ⟨u, by rw [upd_ne (ne_of_none hu hp)]; exact hu⟩
/-- a cell is written -/
def Nf : HO → Prop
  | .frz _ _ => False
  | _ => True
theorem Fut.wrote {i : Nat} {a : Addr} {o o' : HO} (hi : W.as[i]? = some a) (ha : H a = some o') (hn : Nf o') : Fut W H W (upd H a o) :=
  ⟨⟨[], by simp, by simp⟩, rfl, fun b u e hb => by rw [upd_ne (fun z => hb (by rw [z]; exact List.mem_of_getElem? hi))]; exact e, fun b od u e => by
    rw [upd_ne (fun z => by rw [z, ha] at e; cases e; exact hn)]; exact e⟩
theorem Kp.wrote (m : MemOk G W H M) {i : Nat} {a : Addr} {o : HO} (hi : W.as[i]? = some a) : Kp W H W (upd H a o) :=
  ⟨fun _ _ h => h, fun b u e hb _ => by rw [upd_ne (fun z => hb (by rw [z]; exact List.mem_of_getElem? hi))]; exact e, fun b u e st => by
    rw [upd_ne (fun z => m.nt _ _ e st (by rw [z]; exact List.mem_of_getElem? hi))]; exact e, fun _ _ _ h1 h2 => ⟨h1, h2⟩⟩
theorem CellOk.kp' {W' : Wd} {H' : Hp} (k : Kp W H W' H') {a : Addr} {c : Cell} (e : H' a = H a) (h : CellOk G W H a c) : CellOk G W' H' a c := by
  have rk : ∀ {κ κ' : Type} {f : κ → κ'} {kvs : List (κ × D)} {vs : List (κ' × V)}, RpK G W H f kvs vs → RpK G W' H' f kvs vs := fun r => Paired.mapP r fun _ _ z => ⟨z.1, Rp.kp k _ _ z.2⟩
  cases c with
  | lst l => obtain ⟨us, q, r⟩ := h; exact ⟨us, by rw [e]; exact q, RpL.kp k _ _ r⟩
  | dk lk kvs => obtain ⟨vs, q, r⟩ := h; exact ⟨vs, by rw [e]; exact q, rk r⟩
  | dt lk kvs => obtain ⟨vs, q, r⟩ := h; exact ⟨vs, by rw [e]; exact q, rk r⟩
  | ins c0 fs => obtain ⟨dx, vs, q, r⟩ := h; exact ⟨dx, vs, by rw [e]; exact q, rk r⟩
theorem MemOk.wrote (m : MemOk G W H M) {i : Nat} {a : Addr} {o : HO} (hi : W.as[i]? = some a) {c : Cell} (hc : CellOk G W (upd H a o) a c) : MemOk G W (upd H a o) (M.set i c) where
  len := by simp [m.len]
  nd := m.nd
  cell := fun j c' b e1 e2 => by
    by_cases hj : i = j
    · subst hj
      rw [hi] at e2; cases e2
      rw [List.getElem?_set_self (by rw [← m.len]; exact (List.getElem?_eq_some_iff.mp hi).1)] at e1
      cases e1
      exact hc
    · rw [List.getElem?_set_ne hj] at e1
      have k := m.cell j c' b e1 e2
      refine k.kp' (Kp.wrote m hi) (upd_ne fun z => hj ?_)
      subst z
      exact (List.getElem?_inj (List.getElem?_eq_some_iff.mp hi).1 m.nd).mp (hi.trans e2.symm)
  apart := m.apart
  hid := fun b hb => by
    obtain ⟨u, hu⟩ := m.hid b hb
    refine ⟨u, ?_⟩
    rw [upd_ne fun z => ?_]
    · exact hu
    · subst z
      exact m.apart b (List.mem_of_getElem? hi) hb
/-- a new list: a cell or by value -/
def mkL (c : Bool) (ds : List D) (M : Mem) : R D := if c = true then .ok (.ref M.length) (M ++ [.lst ds]) else .ok (.lst ds) M
theorem mkL_new {c : Bool} {ds : List D} {us : List V} (m : MemOk G W H M) (h : PR G W H (PV G Q) E (mkL c ds M)) (r : RpL G W H ds us) : ∀ p, H p = none → Q (.ref p) (upd H p (.lst us)) := by
  intro p hp
  unfold mkL at h
  cases c with
  | true =>
    rw [if_pos rfl] at h
    refine h ⟨W.as ++ [p], W.hd⟩ _ (Fut.added m hp) (m.added hp ⟨us, upd_same, m.rpL (Fut.added m hp) r⟩) _ ⟨p, ?_, rfl⟩
    rw [← m.len]
    simp
  | false =>
    rw [if_neg Bool.false_ne_true] at h
    exact h W _ (Fut.laid hp) (m.laid hp) _ ⟨p, us, rfl, ⟨upd_same, m.fresh hp⟩, m.rpL (Fut.laid hp) r⟩
theorem tup_new {ds : List D} {us : List V} (m : MemOk G W H M) (h : PR G W H (PV G Q) E (.ok (.tup ds) M)) (r : RpL G W H ds us) : ∀ p, H p = none → Q (.ref p) (upd H p (.tup us)) := fun p hp =>
  h W _ (Fut.laid hp) (m.laid hp) _ ⟨p, us, rfl, .inl upd_same, m.rpL (Fut.laid hp) r⟩
theorem RpL.len : ∀ {ds : List D} {us : List V}, RpL G W H ds us → us.length = ds.length
  | [], us, h => by have : us = [] := h; subst this; rfl
  | d :: r, us, h => by
    obtain ⟨u, us', e, _, h2⟩ := h
    subst e
    simp [RpL.len h2]
/-- the items of a list (by value, frozen, a cell) -/
def lstOf (M : Mem) : D → Option (List D)
  | .lst l => some l
  | .fz l => some l
  | .ref i => match M[i]? with
    | some (.lst l) => some l
    | _ => none
  | _ => none
/-- of a list that the call itself made -/
def ownOf (M : Mem) : D → Option (List D)
  | .lst l => some l
  | .ref i => match M[i]? with
    | some (.lst l) => some l
    | _ => none
  | _ => none
theorem lstOf_ok (m : MemOk G W H M) {d : D} {u : V} {l : List D} (r : Rp G W H d u) (e : lstOf M d = some l) : ∃ a us, u = .ref a ∧ SqL G.K H a us ∧ RpL G W H l us := by
  cases d with
  | lst l' => cases e; obtain ⟨a, us, e1, e2, e3⟩ := r; exact ⟨a, us, e1, .inl (.inl e2.1), e3⟩
  | fz l' =>
    cases e; obtain ⟨a, us, e1, e2, e3⟩ := r
    refine ⟨a, us, e1, ?_, e3⟩
    rcases e2 with ⟨o, e2⟩ | e2
    · exact .inl (.inr ⟨o, e2⟩)
    · exact .inr e2
  | ref i =>
    obtain ⟨a, e1, e2⟩ := r
    simp only [lstOf] at e
    split at e
    · rename_i l' hc
      cases e
      obtain ⟨us, h1, h2⟩ := m.cell i _ a hc e1
      exact ⟨a, us, e2, .inl (.inl h1), h2⟩
    · cases e
  | _ => cases e
theorem ownOf_ok (m : MemOk G W H M) {d : D} {u : V} {l : List D} (r : Rp G W H d u) (e : ownOf M d = some l) : ∃ a us, u = .ref a ∧ H a = some (.lst us) ∧ RpL G W H l us := by
  cases d with
  | lst l' => cases e; obtain ⟨a, us, e1, e2, e3⟩ := r; exact ⟨a, us, e1, e2.1, e3⟩
  | ref i =>
    obtain ⟨a, e1, e2⟩ := r
    simp only [ownOf] at e
    split at e
    · rename_i l' hc
      cases e
      obtain ⟨us, h1, h2⟩ := m.cell i _ a hc e1
      exact ⟨a, us, e2, h1, h2⟩
    · cases e
  | _ => cases e
/-- a list's or a tuple's items -/
def seqOf (M : Mem) : D → Option (List D)
  | .tup l => some l
  | .ct l => some l
  | d => lstOf M d
theorem seqOf_ok (m : MemOk G W H M) {d : D} {u : V} {l : List D} (r : Rp G W H d u) (e : seqOf M d = some l) : ∃ a us, u = .ref a ∧ (SqL G.K H a us ∨ SqT G.K H a us) ∧ RpL G W H l us := by
  cases d with
  | tup l' => cases e; obtain ⟨a, us, e1, e2, e3⟩ := r; exact ⟨a, us, e1, .inr e2.sq, e3⟩
  | ct l' => cases e; obtain ⟨a, us, e1, e2, e3⟩ := r; exact ⟨a, us, e1, .inr e2.sq, e3⟩
  | _ => obtain ⟨a, us, e1, e2, e3⟩ := lstOf_ok m r e; exact ⟨a, us, e1, .inl e2, e3⟩
theorem RpL.get : ∀ {ds : List D} {us : List V}, RpL G W H ds us → ∀ {j : Nat} {d : D}, ds[j]? = some d → ∃ u, us[j]? = some u ∧ Rp G W H d u
  | [], us, h, j, d, e => by simp at e
  | d0 :: r, us, h, j, d, e => by
    obtain ⟨u, us', e1, h1, h2⟩ := h
    subst e1
    cases j with
    | zero => simp at e; subst e; exact ⟨u, by simp, h1⟩
    | succ j => obtain ⟨v, e2, h3⟩ := RpL.get h2 (j := j) (by simpa using e); exact ⟨v, by simpa using e2, h3⟩
theorem RpL.append : ∀ {ds ds' : List D} {us us' : List V}, RpL G W H ds us → RpL G W H ds' us' → RpL G W H (ds ++ ds') (us ++ us')
  | [], ds', us, us', h, h' => by have : us = [] := h; subst this; exact h'
  | d :: r, ds', us, us', h, h' => by
    obtain ⟨u, vs, e1, h1, h2⟩ := h
    subst e1
    exact ⟨u, vs ++ us', rfl, h1, RpL.append h2 h'⟩
theorem RpL.drop : ∀ {ds : List D} {us : List V} (n : Nat), RpL G W H ds us → RpL G W H (ds.drop n) (us.drop n)
  | ds, us, 0, h => h
  | [], us, n + 1, h => by have : us = [] := h; subst this; exact (rfl : ([] : List V) = [])
  | d :: r, us, n + 1, h => by
    obtain ⟨u, vs, e1, h1, h2⟩ := h
    subst e1
    exact RpL.drop n h2
theorem RpL.take : ∀ {ds : List D} {us : List V} (n : Nat), RpL G W H ds us → RpL G W H (ds.take n) (us.take n)
  | ds, us, 0, h => by simp; exact (rfl : ([] : List V) = [])
  | [], us, n + 1, h => by have : us = [] := h; subst this; exact (rfl : ([] : List V) = [])
  | d :: r, us, n + 1, h => by
    obtain ⟨u, vs, e1, h1, h2⟩ := h
    subst e1
    exact ⟨u, vs.take n, by simp, h1, RpL.take n h2⟩
theorem RpL.set : ∀ {ds : List D} {us : List V} {d : D} {u : V} (j : Nat), RpL G W H ds us → Rp G W H d u → RpL G W H (ds.set j d) (us.set j u)
  | [], us, d, u, j, h, r => by have : us = [] := h; subst this; exact (rfl : ([] : List V) = [])
  | d0 :: ds, us, d, u, 0, h, r => by
    obtain ⟨v, vs, e1, h1, h2⟩ := h
    subst e1
    exact ⟨u, vs, rfl, r, h2⟩
  | d0 :: ds, us, d, u, j + 1, h, r => by
    obtain ⟨v, vs, e1, h1, h2⟩ := h
    subst e1
    exact ⟨v, vs.set j u, rfl, h1, RpL.set j h2 r⟩
theorem RpL.reverse : ∀ {ds : List D} {us : List V}, RpL G W H ds us → RpL G W H ds.reverse us.reverse
  | [], us, h => by have : us = [] := h; subst this; exact (rfl : ([] : List V) = [])
  | d :: ds, us, h => by
    obtain ⟨v, vs, e1, h1, h2⟩ := h
    subst e1
    rw [List.reverse_cons, List.reverse_cons]
    exact (RpL.reverse h2).append ⟨v, [], rfl, h1, rfl⟩
def Op2 (G : Gx) (E : XK) (r : R2) (o : D → D → Mem → R D) : Prop := ∀ W H M a b u v Q, MemOk G W H M → Rp G W H a u → Rp G W H b v → PR G W H (PV G Q) E (o a b M) → r u v H Q
def mOp (o : D → D → Mem → R D) (fa fb : FE) : FE := fun env M => (fa env M).bind fun a m => (fb env m).bind fun b m' => o a b m'
theorem tE_op {r : R2} {fa fb : FE} {o : D → D → Mem → R D} (hs : Op2 G E r o) (σ : L2.St) (H : Hp) (Q : VK) (h : tE G E (mOp o fa fb) σ H Q) : tOp r (tE G E fa) (tE G E fb) σ H Q := by
  obtain ⟨W, env, M, s, p⟩ := h
  refine tE.bind s p fun d m W1 H1 u f1 s1 r1 p1 => ?_
  refine tE.bind s1 p1 fun d2 m2 W2 H2 u2 f2 s2 r2 p2 => ?_
  exact hs W2 H2 m2 d d2 u u2 Q s2.mem (s1.mem.rp f2 r1) r2 p2
theorem sn_op {op : Operator} {r : R2} {a b : Expr} {fa fb : FE} {o : D → D → Mem → R D} {pos : Pos} (ho : OpR X (binaryOp op) r) (hs : Op2 G E r o) (ha : PE X a (tE G E fa)) (hb : PE X b (tE G E fb)) : PE X (.BinOp a op b pos) (tE G E (mOp o fa fb)) :=
  pe_imp (pe_op ho ha hb) (tE_op hs)
theorem sn_cmp {op : CmpOp} {r : R2} {a b : Expr} {fa fb : FE} {o : D → D → Mem → R D} {pos : Pos} (ho : OpR X (compareOp op) r) (hs : Op2 G E r o) (hm : behindInMarks op b = false) (ha : PE X a (tE G E fa)) (hb : PE X b (tE G E fb)) : PE X (.Compare a [op] [b] pos) (tE G E (mOp o fa fb)) :=
  pe_imp (pe_cmpR ho ha hb hm) (tE_op hs)
/-- two ways: the kinds tell -/
theorem Op2.or {r r' : R2} {o o1 o2 : D → D → Mem → R D} (h : Op2 G E r o1) (h' : Op2 G E r' o2) (e : ∀ a b M, o a b M = o1 a b M ∨ o a b M = o2 a b M) : Op2 G E (fun x y H Q => r x y H Q ∨ r' x y H Q) o := fun W H M a b u v Q m ra rb p => by
  rcases e a b M with z | z
  · rw [z] at p; exact .inl (h W H M a b u v Q m ra rb p)
  · rw [z] at p; exact .inr (h' W H M a b u v Q m ra rb p)
theorem PR.here {α : Type} {K : α → Mem → Wd → Hp → Prop} {a : α} (m : MemOk G W H M) (h : PR G W H K E (.ok a M)) : K a M W H := h W H Fut.rfl' m
/-- ints -/
def oI (g : Int → Int → D) : D → D → Mem → R D
  | .int i, .int j, M => .ok (g i j) M
  | _, _, _ => .no
theorem op2_I {g : Int → Int → D} {g' : Int → Int → V} (hg : ∀ W H i j, Rp G W H (g i j) (g' i j)) : Op2 G E (rI0 g') (oI g) := fun W H M a b u v Q m ra rb p => by
  cases a <;> cases b <;> first
    | exact p.elim
    | exact ⟨_, _, ra, rb, p.here m _ (hg _ _ _ _)⟩
/-- ints, under a condition -/
def oIC (C : Int → Int → Bool) (g : Int → Int → D) : D → D → Mem → R D
  | .int i, .int j, M => if C i j = true then .ok (g i j) M else .no
  | _, _, _ => .no
theorem op2_IC {C : Int → Int → Bool} {C' : Int → Int → Prop} {g : Int → Int → D} {g' : Int → Int → V} (hC : ∀ i j, C i j = true → C' i j) (hg : ∀ W H i j, Rp G W H (g i j) (g' i j)) : Op2 G E (rI C' g') (oIC C g) := fun W H M a b u v Q m ra rb p => by
  cases a <;> cases b <;> first
    | exact p.elim
    | (simp only [oIC] at p
       split at p
       · rename_i hc
         exact ⟨_, _, ra, rb, hC _ _ hc, p.here m _ (hg _ _ _ _)⟩
       · exact p.elim)
end
section
variable {X : Cx} {G : Gx} {cl : Nat → Addr} {E : XK}
/-- texts -/
def oAddS : D → D → Mem → R D
  | .str a, .str b, M => if a.length + b.length ≤ 16777216 then .ok (.str (a ++ b)) M else .no
  | _, _, _ => .no
def oAddB : D → D → Mem → R D
  | .int i, .bl k, M => .ok (.int (i + if k = true then 1 else 0)) M
  | _, _, _ => .no
def oAddT : D → D → Mem → R D
  | .tup a, .tup b, M => if a.length + b.length ≤ 16777216 then .ok (.tup (a ++ b)) M else .no
  | _, _, _ => .no
def oAddL (c : Bool) (a b : D) (M : Mem) : R D := match ownOf M a, ownOf M b with
  | some x, some y => if x.length + y.length ≤ 16777216 then mkL c (x ++ y) M else .no
  | _, _ => .no
def oAdd (c : Bool) : D → D → Mem → R D
  | .int i, .int j, M => .ok (.int (i + j)) M
  | .str a, .str b, M => oAddS (.str a) (.str b) M
  | .int i, .bl k, M => oAddB (.int i) (.bl k) M
  | .tup a, .tup b, M => oAddT (.tup a) (.tup b) M
  | a, b, M => oAddL c a b M
theorem op2_addS : Op2 G E (fun x y H Q => ∃ i j, x = .str i ∧ y = .str j ∧ i.length + j.length ≤ sizeLine ∧ Q (.str (i ++ j)) H) oAddS := fun W H M a b u v Q m ra rb p => by
  cases a <;> cases b <;> first
    | exact p.elim
    | (simp only [oAddS] at p
       split at p
       · rename_i hc
         refine ⟨_, _, ra, rb, by rw [l2s_len, l2s_len, line_eq]; exact hc, p.here m _ ?_⟩
         show V.str _ = V.str _
         rw [l2s_append]
       · exact p.elim)
theorem op2_addB : Op2 G E (fun x y H Q => ∃ i k, x = .int i ∧ y = .bl k ∧ Q (.int (i + b2i k)) H) oAddB := fun W H M a b u v Q m ra rb p => by
  cases a <;> cases b <;> first
    | exact p.elim
    | (refine ⟨_, _, ra, rb, p.here m _ ?_⟩
       rename_i k
       cases k <;> rfl)
theorem op2_addT : Op2 G E (rCatA G.K) oAddT := fun W H M a b u v Q m ra rb p => by
  cases a <;> cases b <;> first
    | exact p.elim
    | (simp only [oAddT] at p
       split at p
       · rename_i xs ys hc
         obtain ⟨a1, us, e1, s1, r1⟩ := ra
         obtain ⟨a2, vs, e2, s2, r2⟩ := rb
         subst e1 e2
         refine ⟨a1, a2, us, vs, rfl, rfl, s1.sq, s2.sq, by rw [r1.len, r2.len, line_eq]; exact hc, fun z => ?_, fun _ z => ?_, fun _ _ => tup_new m p (r1.append r2)⟩
         · have e3 : xs = [] := by
             have := r1.len
             rw [z] at this
             exact List.length_eq_zero_iff.mp this.symm
           subst e3
           exact p.here m _ ⟨a2, vs, rfl, s2, r2⟩
         · have e3 : ys = [] := by
             have := r2.len
             rw [z] at this
             exact List.length_eq_zero_iff.mp this.symm
           subst e3
           rw [List.append_nil] at p
           exact p.here m _ ⟨a1, us, rfl, s1, r1⟩
       · exact p.elim)
theorem op2_addL {c : Bool} : Op2 G E rCat (oAddL c) := fun W H M a b u v Q m ra rb p => by
  unfold oAddL at p
  split at p
  · rename_i x y e1 e2
    split at p
    · rename_i hc
      obtain ⟨a1, us, h1, h2, h3⟩ := ownOf_ok m ra e1
      obtain ⟨a2, vs, h4, h5, h6⟩ := ownOf_ok m rb e2
      exact ⟨a1, a2, us, vs, h1, h4, h2, h5, by rw [h3.len, h6.len, line_eq]; exact hc, mkL_new m p (h3.append h6)⟩
    · exact p.elim
  · exact p.elim
theorem sn_add (c : Bool) {a b : Expr} {fa fb : FE} {pos : Pos} (ha : PE X a (tE ⟨X.K, cl⟩ E fa)) (hb : PE X b (tE ⟨X.K, cl⟩ E fb)) : PE X (.BinOp a .Add b pos) (tE ⟨X.K, cl⟩ E (mOp (oAdd c) fa fb)) := by
  refine sn_op (op_add.or (op_add_str.or (op_add_ib.or (op_catA.or op_cat)))) (?_ : Op2 ⟨X.K, cl⟩ E _ _) ha hb
  intro W H M a b u v Q m ra rb p
  have h1 : Op2 ⟨X.K, cl⟩ E (rI0 fun i j => .int (i + j)) (oI fun i j => .int (i + j)) := op2_I fun _ _ _ _ => rfl
  cases a <;> cases b <;> first
    | exact .inl (h1 W H M _ _ u v Q m ra rb p)
    | exact .inr (.inl (op2_addS W H M _ _ u v Q m ra rb p))
    | exact .inr (.inr (.inl (op2_addB W H M _ _ u v Q m ra rb p)))
    | exact .inr (.inr (.inr (.inl (op2_addT W H M _ _ u v Q m ra rb p))))
    | exact .inr (.inr (.inr (.inr (op2_addL W H M _ _ u v Q m ra rb p))))
def oSub : D → D → Mem → R D := oI fun i j => .int (i - j)
/-- the one factor below 2 ^ 64, or both together below a million bits -/
def mulOk (i j : Int) : Bool := decide (-(2 ^ 64) < i ∧ i < 2 ^ 64) || decide (-(2 ^ 64) < j ∧ j < 2 ^ 64) || decide (i.natAbs.log2 + j.natAbs.log2 < 1000000)
def oMulI : D → D → Mem → R D := oIC mulOk fun i j => .int (i * j)
theorem op_mulA : OpR X (binaryOp .Mult) (rI (fun i j => CMul i j ∨ CMulW i j) fun i j => .int (i * j)) := opI fun _ _ _ _ _ _ _ hc q => mul_int q (hc.elim CMul.ok CMulW.ok)
theorem op2_mulI : Op2 G E (rI (fun i j => CMul i j ∨ CMulW i j) fun i j => .int (i * j)) oMulI := op2_IC (fun i j h => by
  unfold mulOk at h
  simp only [Bool.or_eq_true, decide_eq_true_eq] at h
  rcases h with (h | h) | h
  · exact .inl (.inl h)
  · exact .inl (.inr h)
  · exact .inr h) fun _ _ _ _ => rfl
/-- a list as often -/
def oRep (c : Bool) (a b : D) (M : Mem) : R D := match ownOf M a, b with
  | some x, .int k => if -(2 ^ 63) ≤ k ∧ k < 2 ^ 63 ∧ x.length * k.toNat ≤ 16777216 then mkL c (List.replicate k.toNat x).flatten M else .no
  | _, _ => .no
theorem RpL.rep {W : Wd} {H : Hp} {ds : List D} {us : List V} (h : RpL G W H ds us) : ∀ n, RpL G W H (List.replicate n ds).flatten (List.replicate n us).flatten
  | 0 => (rfl : ([] : List V) = [])
  | n + 1 => by
    rw [List.replicate_succ, List.replicate_succ, List.flatten_cons, List.flatten_cons]
    exact h.append (RpL.rep h n)
theorem op2_rep {c : Bool} : Op2 G E rRep (oRep c) := fun W H M a b u v Q m ra rb p => by
  unfold oRep at p
  split at p
  · rename_i x k e1
    split at p
    · rename_i hc
      obtain ⟨a1, us, h1, h2, h3⟩ := ownOf_ok m ra e1
      exact ⟨a1, k, us, h1, rb, h2, hc.1, hc.2.1, by rw [h3.len, line_eq]; exact hc.2.2, mkL_new m p (h3.rep _)⟩
    · exact p.elim
  · exact p.elim
def oMul (c : Bool) : D → D → Mem → R D
  | .int i, .int j, M => oMulI (.int i) (.int j) M
  | a, b, M => oRep c a b M
theorem sn_mul (c : Bool) {a b : Expr} {fa fb : FE} {pos : Pos} (ha : PE X a (tE G E fa)) (hb : PE X b (tE G E fb)) : PE X (.BinOp a .Mult b pos) (tE G E (mOp (oMul c) fa fb)) :=
  sn_op (op_mulA.or op_rep) (op2_mulI.or op2_rep fun a b M => by cases a <;> cases b <;> first | exact .inl rfl | exact .inr rfl) ha hb
def divOk (_ j : Int) : Bool := decide (0 < j) && decide (j.natAbs.log2 < 9000)
def oDiv : D → D → Mem → R D := oIC divOk fun i j => .int (i / j)
theorem sn_div {a b : Expr} {fa fb : FE} {pos : Pos} (ha : PE X a (tE G E fa)) (hb : PE X b (tE G E fb)) : PE X (.BinOp a .FloorDiv b pos) (tE G E (mOp oDiv fa fb)) :=
  sn_op op_fdivW (op2_IC (fun i j h => by unfold divOk at h; simp only [Bool.and_eq_true, decide_eq_true_eq] at h; exact h) fun _ _ _ _ => rfl) ha hb
def oMod : D → D → Mem → R D := oIC (fun _ j => decide (0 < j)) fun i j => .int (i % j)
theorem sn_mod {a b : Expr} {fa fb : FE} {pos : Pos} (ha : PE X a (tE G E fa)) (hb : PE X b (tE G E fb)) : PE X (.BinOp a .Mod b pos) (tE G E (mOp oMod fa fb)) :=
  sn_op op_mod (op2_IC (fun i j h => of_decide_eq_true h) fun _ _ _ _ => rfl) ha hb
def powOk (i j : Int) : Bool := decide (0 ≤ j) && decide (j ≤ 1000000) && decide (i.natAbs < 2 ^ 64)
def oPow : D → D → Mem → R D := oIC powOk fun i j => .int (i ^ j.toNat)
theorem sn_pow {a b : Expr} {fa fb : FE} {pos : Pos} (ha : PE X a (tE G E fa)) (hb : PE X b (tE G E fb)) : PE X (.BinOp a .Pow b pos) (tE G E (mOp oPow fa fb)) :=
  sn_op op_pow (op2_IC (C' := CPow) (fun i j h => by
    unfold powOk at h
    simp only [Bool.and_eq_true, decide_eq_true_eq] at h
    exact ⟨h.1.1, h.1.2, h.2⟩) fun _ _ _ _ => rfl) ha hb
def mUn (o : D → Mem → R D) (fa : FE) : FE := fun env M => (fa env M).bind fun a m => o a m
def oNeg : D → Mem → R D
  | .int i, M => .ok (.int (-i)) M
  | _, _ => .no
theorem sn_neg {a : Expr} {fa : FE} {pos : Pos} (ha : PE X a (tE G E fa)) : PE X (.UnaryOp .USub a pos) (tE G E (mUn oNeg fa)) := pe_imp (pe_un un_neg ha) fun σ H Q ⟨W, env, M, s, p⟩ => by
  refine tE.bind s p fun d m W1 H1 u f1 s1 r1 p1 => ?_
  cases d <;> first
    | exact p1.elim
    | exact ⟨_, r1, p1.here s1.mem _ rfl⟩
end
end Fn
set_option Elab.async false
set_option linter.all false
set_option maxRecDepth 100000
set_option maxHeartbeats 1000000
namespace Fn
open PySem PySem.Spec PyProof.Rows L2
section
variable {X : Cx} {G : Gx} {cl : Nat → Addr} {E : XK} {W : Wd} {H : Hp} {M : Mem}
mutual
def pyD : D → Option PyData
  | .non => some .none
  | .bl b => some (.bool b)
  | .int i => some (.int i)
  | .str x => some (.str (l2s x))
  | .tup l => (pyL l).map .tuple
  | .ct l => (pyL l).map .tuple
  | .lst l => (pyL l).map .list
  | .fz l => (pyL l).map .list
  | .ref _ => none
def pyL : List D → Option (List PyData)
  | [] => some []
  | d :: r => match pyD d, pyL r with
    | some a, some b => some (a :: b)
    | _, _ => none
end
mutual
/-- the data that a value tells, cells by k -/
def pyGo (k : Nat → Option PyData) : D → Option PyData
  | .non => some .none
  | .bl b => some (.bool b)
  | .int i => some (.int i)
  | .str x => some (.str (l2s x))
  | .tup l => (pyGoL k l).map .tuple
  | .ct l => (pyGoL k l).map .tuple
  | .lst l => (pyGoL k l).map .list
  | .fz l => (pyGoL k l).map .list
  | .ref i => k i
def pyGoL (k : Nat → Option PyData) : List D → Option (List PyData)
  | [] => some []
  | d :: r => match pyGo k d, pyGoL k r with
    | some a, some b => some (a :: b)
    | _, _ => none
end
/-- a cell that holds a list, to the depth n -/
def kN (M : Mem) : Nat → Nat → Option PyData
  | 0, _ => none
  | n + 1, i => match M[i]? with
    | some (.lst l) => (pyGoL (kN M n) l).map .list
    | _ => none
def pyM (M : Mem) (d : D) : Option PyData := pyGo (kN M 4) d
mutual
theorem pyGo_of {k : Nat → Option PyData} : ∀ {d : D} {p : PyData}, pyD d = some p → pyGo k d = some p
  | .non, p, e => e
  | .bl b, p, e => e
  | .int i, p, e => e
  | .str x, p, e => e
  | .tup l, p, e => by
    simp only [pyD] at e
    cases q : pyL l with
    | none => rw [q] at e; cases e
    | some ps => rw [q] at e; simp only [pyGo, pyGoL_of q]; exact e
  | .ct l, p, e => by
    simp only [pyD] at e
    cases q : pyL l with
    | none => rw [q] at e; cases e
    | some ps => rw [q] at e; simp only [pyGo, pyGoL_of q]; exact e
  | .lst l, p, e => by
    simp only [pyD] at e
    cases q : pyL l with
    | none => rw [q] at e; cases e
    | some ps => rw [q] at e; simp only [pyGo, pyGoL_of q]; exact e
  | .fz l, p, e => by
    simp only [pyD] at e
    cases q : pyL l with
    | none => rw [q] at e; cases e
    | some ps => rw [q] at e; simp only [pyGo, pyGoL_of q]; exact e
  | .ref i, p, e => by cases e
theorem pyGoL_of {k : Nat → Option PyData} : ∀ {l : List D} {ps : List PyData}, pyL l = some ps → pyGoL k l = some ps
  | [], ps, e => e
  | d :: l, ps, e => by
    simp only [pyL] at e
    split at e
    · rename_i a b h1 h2
      simp only [pyGoL, pyGo_of h1, pyGoL_of h2]
      exact e
    · cases e
end
mutual
theorem pyD_ok : ∀ {d : D} {u : V} {p : PyData}, Rp G W H d u → pyD d = some p → Dp G.K H u p
  | .non, u, p, r, e => by cases r; cases e; exact .non
  | .bl b, u, p, r, e => by cases r; cases e; exact .bl b
  | .int i, u, p, r, e => by cases r; cases e; exact .int i
  | .str x, u, p, r, e => by cases r; cases e; exact .str _
  | .tup l, u, p, r, e => by
    obtain ⟨a, us, e1, s1, r1⟩ := r
    subst e1
    simp only [pyD] at e
    cases q : pyL l with
    | none => rw [q] at e; cases e
    | some ps => rw [q] at e; cases e; exact .tup s1.sq (pyL_ok r1 q)
  | .ct l, u, p, r, e => by
    obtain ⟨a, us, e1, s1, r1⟩ := r
    subst e1
    simp only [pyD] at e
    cases q : pyL l with
    | none => rw [q] at e; cases e
    | some ps => rw [q] at e; cases e; exact .tup s1.sq (pyL_ok r1 q)
  | .lst l, u, p, r, e => by
    obtain ⟨a, us, e1, s1, r1⟩ := r
    subst e1
    simp only [pyD] at e
    cases q : pyL l with
    | none => rw [q] at e; cases e
    | some ps => rw [q] at e; cases e; exact .lst (.inl (.inl s1.1)) (pyL_ok r1 q)
  | .fz l, u, p, r, e => by
    obtain ⟨a, us, e1, s1, r1⟩ := r
    subst e1
    simp only [pyD] at e
    cases q : pyL l with
    | none => rw [q] at e; cases e
    | some ps =>
      rw [q] at e; cases e
      refine .lst ?_ (pyL_ok r1 q)
      rcases s1 with ⟨o, s1⟩ | s1
      · exact .inl (.inr ⟨o, s1⟩)
      · exact .inr s1
  | .ref i, u, p, r, e => by cases e
theorem pyL_ok : ∀ {l : List D} {us : List V} {ps : List PyData}, RpL G W H l us → pyL l = some ps → DpAll G.K H us ps
  | [], us, ps, r, e => by have : us = [] := r; subst this; cases e; exact .nil
  | d :: l, us, ps, r, e => by
    obtain ⟨u, us', e1, r1, r2⟩ := r
    subst e1
    simp only [pyL] at e
    split at e
    · rename_i a b h1 h2
      cases e
      exact .cons (pyD_ok r1 h1) (pyL_ok r2 h2)
    · cases e
end
mutual
theorem pyGo_ok {k : Nat → Option PyData} (hk : ∀ i a p, W.as[i]? = some a → k i = some p → Dp G.K H (.ref a) p) : ∀ {d : D} {u : V} {p : PyData}, Rp G W H d u → pyGo k d = some p → Dp G.K H u p
  | .non, u, p, r, e => by cases r; cases e; exact .non
  | .bl b, u, p, r, e => by cases r; cases e; exact .bl b
  | .int i, u, p, r, e => by cases r; cases e; exact .int i
  | .str x, u, p, r, e => by cases r; cases e; exact .str _
  | .tup l, u, p, r, e => by
    obtain ⟨a, us, e1, s1, r1⟩ := r
    subst e1
    simp only [pyGo] at e
    cases q : pyGoL k l with
    | none => rw [q] at e; cases e
    | some ps => rw [q] at e; cases e; exact .tup s1.sq (pyGoL_ok hk r1 q)
  | .ct l, u, p, r, e => by
    obtain ⟨a, us, e1, s1, r1⟩ := r
    subst e1
    simp only [pyGo] at e
    cases q : pyGoL k l with
    | none => rw [q] at e; cases e
    | some ps => rw [q] at e; cases e; exact .tup s1.sq (pyGoL_ok hk r1 q)
  | .lst l, u, p, r, e => by
    obtain ⟨a, us, e1, s1, r1⟩ := r
    subst e1
    simp only [pyGo] at e
    cases q : pyGoL k l with
    | none => rw [q] at e; cases e
    | some ps => rw [q] at e; cases e; exact .lst (.inl (.inl s1.1)) (pyGoL_ok hk r1 q)
  | .fz l, u, p, r, e => by
    obtain ⟨a, us, e1, s1, r1⟩ := r
    subst e1
    simp only [pyGo] at e
    cases q : pyGoL k l with
    | none => rw [q] at e; cases e
    | some ps =>
      rw [q] at e; cases e
      refine .lst ?_ (pyGoL_ok hk r1 q)
      rcases s1 with ⟨o, s1⟩ | s1
      · exact .inl (.inr ⟨o, s1⟩)
      · exact .inr s1
  | .ref i, u, p, r, e => by
    obtain ⟨a, e1, rfl⟩ := r
    exact hk i a p e1 e
theorem pyGoL_ok {k : Nat → Option PyData} (hk : ∀ i a p, W.as[i]? = some a → k i = some p → Dp G.K H (.ref a) p) : ∀ {l : List D} {us : List V} {ps : List PyData}, RpL G W H l us → pyGoL k l = some ps → DpAll G.K H us ps
  | [], us, ps, r, e => by have : us = [] := r; subst this; cases e; exact .nil
  | d :: l, us, ps, r, e => by
    obtain ⟨u, us', e1, r1, r2⟩ := r
    subst e1
    simp only [pyGoL] at e
    split at e
    · rename_i a b h1 h2
      cases e
      exact .cons (pyGo_ok hk r1 h1) (pyGoL_ok hk r2 h2)
    · cases e
end
theorem kN_ok (m : MemOk G W H M) : ∀ (n i : Nat) (a : Addr) (p : PyData), W.as[i]? = some a → kN M n i = some p → Dp G.K H (.ref a) p
  | 0, i, a, p, e1, e => by cases e
  | n + 1, i, a, p, e1, e => by
    simp only [kN] at e
    split at e
    · rename_i l hc
      obtain ⟨us, h1, h2⟩ := m.cell i _ a hc e1
      cases q : pyGoL (kN M n) l with
      | none => rw [q] at e; cases e
      | some ps => rw [q] at e; cases e; exact .lst (.inl (.inl h1)) (pyGoL_ok (kN_ok m n) h2 q)
    · cases e
theorem pyM_ok (m : MemOk G W H M) {d : D} {u : V} {p : PyData} (r : Rp G W H d u) (e : pyM M d = some p) : Dp G.K H u p := pyGo_ok (kN_ok m 4) r e
mutual
theorem pyD_plain : ∀ {d : D} {p : PyData}, pyD d = some p → p.plain = true
  | .non, p, e => by cases e; rfl
  | .bl b, p, e => by cases e; rfl
  | .int b, p, e => by cases e; rfl
  | .str b, p, e => by cases e; rfl
  | .tup l, p, e => by
    simp only [pyD] at e
    cases q : pyL l with
    | none => rw [q] at e; cases e
    | some ps => rw [q] at e; cases e; simp only [PyData.plain]; exact pyL_plain q
  | .ct l, p, e => by
    simp only [pyD] at e
    cases q : pyL l with
    | none => rw [q] at e; cases e
    | some ps => rw [q] at e; cases e; simp only [PyData.plain]; exact pyL_plain q
  | .lst l, p, e => by
    simp only [pyD] at e
    cases q : pyL l with
    | none => rw [q] at e; cases e
    | some ps => rw [q] at e; cases e; simp only [PyData.plain]; exact pyL_plain q
  | .fz l, p, e => by
    simp only [pyD] at e
    cases q : pyL l with
    | none => rw [q] at e; cases e
    | some ps => rw [q] at e; cases e; simp only [PyData.plain]; exact pyL_plain q
  | .ref i, p, e => by cases e
theorem pyL_plain : ∀ {l : List D} {ps : List PyData}, pyL l = some ps → PyData.plainAll ps = true
  | [], ps, e => by cases e; rfl
  | d :: l, ps, e => by
    simp only [pyL] at e
    split at e
    · rename_i a b h1 h2
      cases e
      simp only [PyData.plainAll, Bool.and_eq_true]
      exact ⟨pyD_plain h1, pyL_plain h2⟩
    · cases e
end
mutual
theorem pyGo_plain {k : Nat → Option PyData} (hk : ∀ i p, k i = some p → p.plain = true) : ∀ {d : D} {p : PyData}, pyGo k d = some p → p.plain = true
  | .non, p, e => by cases e; rfl
  | .bl b, p, e => by cases e; rfl
  | .int b, p, e => by cases e; rfl
  | .str b, p, e => by cases e; rfl
  | .tup l, p, e => by
    simp only [pyGo] at e
    cases q : pyGoL k l with
    | none => rw [q] at e; cases e
    | some ps => rw [q] at e; cases e; simp only [PyData.plain]; exact pyGoL_plain hk q
  | .ct l, p, e => by
    simp only [pyGo] at e
    cases q : pyGoL k l with
    | none => rw [q] at e; cases e
    | some ps => rw [q] at e; cases e; simp only [PyData.plain]; exact pyGoL_plain hk q
  | .lst l, p, e => by
    simp only [pyGo] at e
    cases q : pyGoL k l with
    | none => rw [q] at e; cases e
    | some ps => rw [q] at e; cases e; simp only [PyData.plain]; exact pyGoL_plain hk q
  | .fz l, p, e => by
    simp only [pyGo] at e
    cases q : pyGoL k l with
    | none => rw [q] at e; cases e
    | some ps => rw [q] at e; cases e; simp only [PyData.plain]; exact pyGoL_plain hk q
  | .ref i, p, e => hk i p e
theorem pyGoL_plain {k : Nat → Option PyData} (hk : ∀ i p, k i = some p → p.plain = true) : ∀ {l : List D} {ps : List PyData}, pyGoL k l = some ps → PyData.plainAll ps = true
  | [], ps, e => by cases e; rfl
  | d :: l, ps, e => by
    simp only [pyGoL] at e
    split at e
    · rename_i a b h1 h2
      cases e
      simp only [PyData.plainAll, Bool.and_eq_true]
      exact ⟨pyGo_plain hk h1, pyGoL_plain hk h2⟩
    · cases e
end
theorem kN_plain : ∀ (n i : Nat) (p : PyData), kN M n i = some p → p.plain = true
  | 0, i, p, e => by cases e
  | n + 1, i, p, e => by
    simp only [kN] at e
    split at e
    · rename_i l hc
      cases q : pyGoL (kN M n) l with
      | none => rw [q] at e; cases e
      | some ps => rw [q] at e; cases e; simp only [PyData.plain]; exact pyGoL_plain (kN_plain n) q
    · cases e
theorem pyM_plain {d : D} {p : PyData} (e : pyM M d = some p) : p.plain = true := pyGo_plain (kN_plain 4) e
def rEqP (K : PySem.W.Frag) : R2 := fun x y H Q => ∃ d e, Dp K H x d ∧ Dp K H y e ∧ d.plain = true ∧ e.plain = true ∧ min d.depth e.depth ≤ 60 ∧ Q (.bl (PyData.eqv d e)) H
theorem op_eqP (hu : X.A.units + 64 < cLine) : OpR X (compareOp .Eq) (rEqP X.K) := by
  intro pins s σ H x y v u Q I rx ry h
  obtain ⟨d, e, hd, he, sd, se, hm, q⟩ := h
  obtain ⟨as, r1⟩ := Dp.reads I d x v hd rx
  obtain ⟨bs, r2⟩ := Dp.reads I e y u he ry
  exact PySem.SeqAt.eq_plain r1 r2 sd se (by omega) ⟨.bl _, H, I, rfl, q⟩
def oEq (ne : Bool) (a b : D) (M : Mem) : R D := match pyM M a, pyM M b with
  | some x, some y => if min x.depth y.depth ≤ 60 then .ok (.bl (if ne = true then !PyData.eqv x y else PyData.eqv x y)) M else .no
  | _, _ => .no
theorem op2_eq : Op2 G E (rEqP G.K) (oEq false) := fun W H M a b u v Q m ra rb p => by
  simp only [oEq] at p
  split at p
  · rename_i x y e1 e2
    split at p
    · rename_i hc
      exact ⟨x, y, pyM_ok m ra e1, pyM_ok m rb e2, pyM_plain e1, pyM_plain e2, hc, p.here m _ rfl⟩
    · exact p.elim
  · exact p.elim
section
variable {a b c : Expr} {fa fb fc : FE} {pos : Pos}
theorem sn_eq (hu : X.A.units + 64 < cLine) (ha : PE X a (tE ⟨X.K, cl⟩ E fa)) (hb : PE X b (tE ⟨X.K, cl⟩ E fb)) : PE X (.Compare a [.Eq] [b] pos) (tE ⟨X.K, cl⟩ E (mOp (oEq false) fa fb)) := sn_cmp (op_eqP hu) op2_eq (nomark _) ha hb
def oOrd (p : Int → Int → Bool) (q : List Nat → List Nat → Bool) : D → D → Mem → R D
  | .int i, .int j, M => .ok (.bl (p i j)) M
  | .str x, .str y, M => .ok (.bl (q x y)) M
  | _, _, _ => .no
def oLt := oOrd (fun i j => decide (i < j)) (fun x y => decide (x < y))
def oLe := oOrd (fun i j => decide (i ≤ j)) (fun x y => !decide (y < x))
def oGt := oOrd (fun i j => decide (j < i)) (fun x y => decide (y < x))
def oGe := oOrd (fun i j => decide (j ≤ i)) (fun x y => !decide (x < y))
theorem op2_ord {p : Int → Int → Bool} {q : List Nat → List Nat → Bool} : Op2 G E (fun x y H Q => rI0 (fun i j => .bl (p i j)) x y H Q ∨ ∃ i j : Str, x = .str i ∧ y = .str j ∧ Q (.bl (q i.cps.toList j.cps.toList)) H) (oOrd p q) := fun W H M a b u v Q m ra rb h => by
  cases a <;> cases b <;> first
    | exact h.elim
    | exact .inl ⟨_, _, ra, rb, h.here m _ rfl⟩
    | exact .inr ⟨_, _, ra, rb, h.here m _ (by rw [l2s_toList, l2s_toList]; rfl)⟩
def flatD : D → Bool
  | .non | .bl _ | .int _ | .str _ => true
  | _ => false
def eqF : D → D → Bool
  | .non, .non => true
  | .bl a, .bl b => a == b
  | .bl a, .int b => (if a = true then 1 else 0) == b
  | .int a, .bl b => a == (if b = true then 1 else 0)
  | .int a, .int b => a == b
  | .str a, .str b => a == b
  | _, _ => false
theorem l2s_beq (a b : List Nat) : (l2s a == l2s b) = (a == b) := by
  by_cases h : a = b
  · subst h; simp
  · have h2 : ¬ l2s a = l2s b := fun z => h (l2s_inj z)
    rw [beq_eq_false_iff_ne.mpr h, beq_eq_false_iff_ne.mpr h2]
theorem flat_ok {d : D} {u : V} (r : Rp G W H d u) (h : flatD d = true) : flatV u = true := by
  cases d <;> first
    | (cases r; rfl)
    | cases h
theorem eqF_ok {x y : D} {u v : V} (rx : Rp G W H x u) (ry : Rp G W H y v) (hx : flatD x = true) (hy : flatD y = true) : eqV u v = eqF x y := by
  cases x <;> first
    | (cases hx; done)
    | (cases rx
       cases y <;> first
        | (cases hy; done)
        | (cases ry; first | rfl | exact l2s_beq _ _ | (rename_i p q; cases p <;> rfl) | (rename_i p q; cases q <;> rfl)))
theorem inV_ok {x : D} {u : V} (rx : Rp G W H x u) (hx : flatD x = true) : ∀ {l : List D} {us : List V}, RpL G W H l us → l.all flatD = true → us.all flatV = true ∧ inV u us = l.any fun y => eqF y x
  | [], us, r, h => by have : us = [] := r; subst this; exact ⟨rfl, rfl⟩
  | d :: l, us, r, h => by
    obtain ⟨v, us', e1, r1, r2⟩ := r
    subst e1
    rw [List.all_cons, Bool.and_eq_true] at h
    obtain ⟨k1, k2⟩ := inV_ok rx hx r2 h.2
    refine ⟨by rw [List.all_cons, flat_ok r1 h.1, k1]; rfl, ?_⟩
    have k3 : inV u us' = us'.any fun y => eqV y u := rfl
    show (v :: us').any (fun y => eqV y u) = _
    rw [List.any_cons, List.any_cons, ← k2, k3, eqF_ok r1 rx h.1 hx]
def oInF (neg : Bool) (a b : D) (M : Mem) : R D := match seqOf M b with
  | some l => if flatD a = true ∧ l.all flatD = true then .ok (.bl (if neg = true then !l.any fun y => eqF y a else l.any fun y => eqF y a)) M else .no
  | none => .no
theorem op2_inF {neg : Bool} : Op2 G E (rIn G.K neg) (oInF neg) := fun W H M a b u v Q m ra rb p => by
  simp only [oInF] at p
  split at p
  · rename_i l e1
    split at p
    · rename_i hc
      obtain ⟨p1, us, h1, h2, h3⟩ := seqOf_ok m rb e1
      obtain ⟨k1, k2⟩ := inV_ok ra hc.1 h3 hc.2
      refine ⟨p1, us, h1, h2, flat_ok ra hc.1, k1, ?_⟩
      rw [k2]
      exact p.here m _ rfl
    · exact p.elim
  · exact p.elim
/-- one sign in a text -/
def oInS (neg : Bool) : D → D → Mem → R D
  | .str [c], .str y, M => .ok (.bl (if neg = true then !decide (c ∈ y) else decide (c ∈ y))) M
  | _, _, _ => .no
def mChain (o o' : D → D → Mem → R D) (fa fb fc : FE) : FE := fun env M => (fa env M).bind fun x m => (fb env m).bind fun y m => (o x y m).bind fun z m => match z with
  | .bl true => (fc env m).bind fun w m => o' y w m
  | .bl false => .ok (.bl false) m
  | _ => .no
theorem chain_reads {r r' : R2} {o o' : D → D → Mem → R D} (hs : Op2 G E r o) (hs' : Op2 G E r' o') (σ : L2.St) (H : Hp) (Q : VK) (h : tE G E (mChain o o' fa fb fc) σ H Q) : tChain r r' (tE G E fa) (tE G E fb) (tE G E fc) σ H Q := by
  obtain ⟨W, env, M, s, p⟩ := h
  refine tE.bind s p fun d m W1 H1 u f1 s1 r1 p1 => ?_
  refine tE.bind s1 p1 fun d2 m2 W2 H2 u2 f2 s2 r2 p2 => ?_
  refine hs W2 H2 m2 d d2 u u2 _ s2.mem (s1.mem.rp f2 r1) r2 (PR.bind p2 fun z m3 W3 H3 f3 mk3 p3 => fun w rw_ => ?_)
  have s3 := s2.fut f3 mk3
  cases z with
  | bl k =>
    cases rw_
    cases k with
    | true =>
      refine ⟨true, rfl, ?_⟩
      rw [if_pos rfl]
      refine tE.bind s3 p3 fun d4 m4 W4 H4 u4 f4 s4 r4 p4 => ?_
      exact hs' W4 H4 m4 d2 d4 u2 u4 Q s4.mem (s3.mem.rp f4 (s2.mem.rp f3 r2)) r4 p4
    | false =>
      refine ⟨false, rfl, ?_⟩
      rw [if_neg Bool.false_ne_true]
      exact p3.here mk3 _ rfl
  | _ => exact p3.elim
theorem sn_chain {op op' : CmpOp} {r r' : R2} {o o' : D → D → Mem → R D} (ho : OpR X (compareOp op) r) (hs : Op2 G E r o) (ho' : OpR X (compareOp op') r') (hs' : Op2 G E r' o') (ha : PE X a (tE G E fa)) (hb : PE X b (tE G E fb)) (hc : PE X c (tE G E fc))
    (hm : lastMarks [op, op'] [b, c] = false := by rfl) : PE X (.Compare a [op, op'] [b, c] pos) (tE G E (mChain o o' fa fb fc)) := pe_imp (pe_chain ho ho' ha hb hc hm) (chain_reads hs hs')
end
/-- the truth of a value -/
def truD (M : Mem) : D → Option Bool
  | .non => some false
  | .bl b => some b
  | .int i => some (i != 0)
  | .str x => if x.length ≤ 16777216 then some (!x.isEmpty) else none
  | .tup l => some (!l.isEmpty)
  | .ct l => some (!l.isEmpty)
  | .lst l => some (!l.isEmpty)
  | .fz l => some (!l.isEmpty)
  | .ref i => match M[i]? with
    | some (.lst l) => some (!l.isEmpty)
    | some (.dk false kvs) => some (!kvs.isEmpty)
    | _ => none
/-- a test that must be a truth -/
def bOf (f : FE) : FT := fun env M => (f env M).bind fun d m => match d with
  | .bl b => .ok b m
  | _ => .no
section
variable {a b c : Expr} {fa fb fc : FE} {ga gb gc : FT} {pos : Pos}
theorem st_val (ha : PE X a (tE G E fa)) (he : ∀ whole, isTrue a X.env whole = (do let v ← whole; standAt a.pos; holding [v] (truthy v)) := by intro _; rfl) : PT X a (tT G E (bOf fa)) := pt_imp (pt_val ha he) fun σ H Q ⟨W, env, M, s, p⟩ => by
  refine tE.bind s p fun d m W1 H1 u f1 s1 r1 p1 => ?_
  cases d with
  | bl k => exact ⟨k, r1, p1.here s1.mem⟩
  | _ => exact p1.elim
/-- any value as a test -/
def tOf (f : FE) : FT := fun env M => (f env M).bind fun d m => match truD m d with
  | some b => .ok b m
  | none => .no
def tAndM (f g : FT) : FT := fun env M => (f env M).bind fun b m => if b = true then g env m else .ok false m
def tOrM (f g : FT) : FT := fun env M => (f env M).bind fun b m => if b = true then .ok true m else g env m
def tNotM (f : FT) : FT := fun env M => (f env M).bind fun b m => .ok (!b) m
theorem tT_and {f g : FT} {σ : L2.St} {H : Hp} {Q : Bool → Hp → Prop} (h : tT G E (tAndM f g) σ H Q) : tAnd (tT G E f) (tT G E g) σ H Q := by
  obtain ⟨W, env, M, s, p⟩ := h
  refine tT.bind s p fun b m W1 H1 f1 s1 p1 => ?_
  cases b with
  | true => rw [if_pos rfl] at p1 ⊢; exact ⟨W1, env, m, s1, p1⟩
  | false => rw [if_neg Bool.false_ne_true] at p1 ⊢; exact p1.here s1.mem
theorem tT_or {f g : FT} {σ : L2.St} {H : Hp} {Q : Bool → Hp → Prop} (h : tT G E (tOrM f g) σ H Q) : tOr (tT G E f) (tT G E g) σ H Q := by
  obtain ⟨W, env, M, s, p⟩ := h
  refine tT.bind s p fun b m W1 H1 f1 s1 p1 => ?_
  cases b with
  | true => rw [if_pos rfl] at p1 ⊢; exact p1.here s1.mem
  | false => rw [if_neg Bool.false_ne_true] at p1 ⊢; exact ⟨W1, env, m, s1, p1⟩
theorem sw_and1 (ha : PT X a (tT G E ga)) : PW X (.BoolOp .And [a] pos) (tT G E ga) := pw_and1 ha
theorem sw_or1 (ha : PT X a (tT G E ga)) : PW X (.BoolOp .Or [a] pos) (tT G E ga) := pw_or1 ha
theorem sw_and {rest : List Expr} (ha : PT X a (tT G E ga)) (hb : PW X (.BoolOp .And (b :: rest) pos) (tT G E gb)) : PW X (.BoolOp .And (a :: b :: rest) pos) (tT G E (tAndM ga gb)) := pw_imp (pw_and ha hb) fun _ _ _ h => tT_and h
theorem sw_or {rest : List Expr} (ha : PT X a (tT G E ga)) (hb : PW X (.BoolOp .Or (b :: rest) pos) (tT G E gb)) : PW X (.BoolOp .Or (a :: b :: rest) pos) (tT G E (tOrM ga gb)) := pw_imp (pw_or ha hb) fun _ _ _ h => tT_or h
theorem st_not (ha : PT X a (tT G E ga)) : PT X (.UnaryOp .Not a pos) (tT G E (tNotM ga)) := pt_imp (pt_not ha) fun σ H Q ⟨W, env, M, s, p⟩ => by
  refine tT.bind s p fun b m W1 H1 f1 s1 p1 => ?_
  exact p1.here s1.mem
theorem st_chain {op op' : CmpOp} {r r' : R2} {o o' : D → D → Mem → R D} (ho : OpR X (compareOp op) r) (hs : Op2 G E r o) (ho' : OpR X (compareOp op') r') (hs' : Op2 G E r' o') (ha : PE X a (tE G E fa)) (hb : PE X b (tE G E fb)) (hc : PE X c (tE G E fc))
    (hm : lastMarks [op, op'] [b, c] = false := by rfl) : PT X (.Compare a [op, op'] [b, c] pos) (tT G E (bOf (mChain o o' fa fb fc))) := pt_imp (pt_chain ho ho' ha hb hc hm) fun σ H Q ⟨W, env, M, s, p⟩ => by
  have h : tE G E (mChain o o' fa fb fc) σ H (fun x H' => ∃ k, x = .bl k ∧ Q k H') := tE.bind s p fun d m W1 H1 u f1 s1 r1 p1 => by
    cases d with
    | bl k => exact ⟨k, r1, p1.here s1.mem⟩
    | _ => exact p1.elim
  exact chain_reads hs hs' σ H _ h
def mAnd (f g : FE) : FE := fun env M => (f env M).bind fun d m => match d with
  | .bl true => g env m
  | .bl false => .ok (.bl false) m
  | _ => .no
def mOr (f g : FE) : FE := fun env M => (f env M).bind fun d m => match d with
  | .bl true => .ok (.bl true) m
  | .bl false => g env m
  | _ => .no
def mNot (f : FE) : FE := fun env M => (f env M).bind fun d m => match d with
  | .bl b => .ok (.bl (!b)) m
  | _ => .no
theorem sn_one {op} (ha : PE X a (tE G E fa)) : PE X (.BoolOp op [a] pos) (tE G E fa) := pe_one ha
theorem sn_and {rest : List Expr} (ha : PE X a (tE G E fa)) (hb : PE X (.BoolOp .And (b :: rest) pos) (tE G E fb)) : PE X (.BoolOp .And (a :: b :: rest) pos) (tE G E (mAnd fa fb)) := pe_imp (pe_and ha hb) fun σ H Q ⟨W, env, M, s, p⟩ => by
  refine tE.bind s p fun d m W1 H1 u f1 s1 r1 p1 => ?_
  cases d with
  | bl k =>
    cases r1
    cases k with
    | true => exact ⟨true, rfl, by rw [if_pos rfl]; exact ⟨W1, env, m, s1, p1⟩⟩
    | false => exact ⟨false, rfl, by rw [if_neg Bool.false_ne_true]; exact p1.here s1.mem _ rfl⟩
  | _ => exact p1.elim
def mIf (t : FT) (f g : FE) : FE := fun env M => (t env M).bind fun b m => if b = true then f env m else g env m
def aNil : FA := fun _ M => .ok [] M
def aCons (f : FE) (g : FA) : FA := fun env M => (f env M).bind fun d m => (g env m).bind fun ds m' => .ok (d :: ds) m'
theorem sa_nil : PA X [] (tA G E aNil) := pa_imp pa_nil fun σ H Q ⟨W, env, M, s, p⟩ => p.here s.mem _ rfl
theorem sa_cons {es : List Expr} {g : FA} (ha : PE X a (tE G E fa)) (hr : PA X es (tA G E g)) (hs : starEach (a :: es) X.env = (false, eval a X.env) :: starEach es X.env := by rfl) : PA X (a :: es) (tA G E (aCons fa g)) := pa_imp (pa_cons ha hr hs) fun σ H Q ⟨W, env, M, s, p⟩ => by
  refine tE.bind s p fun d m W1 H1 u f1 s1 r1 p1 => ?_
  refine tA.bind s1 p1 fun ds m2 W2 H2 us f2 s2 r2 p2 => ?_
  exact p2.here s2.mem _ ⟨u, us, rfl, s1.mem.rp f2 r1, r2⟩
def mTup (g : FA) : FE := fun env M => (g env M).bind fun ds m => if ds.length ≤ 16777216 then .ok (.tup ds) m else .no
def mLst (c : Bool) (g : FA) : FE := fun env M => (g env M).bind fun ds m => if ds.length ≤ 16777216 then mkL c ds m else .no
theorem sn_tup {es : List Expr} {g : FA} {x1} (h : PA X es (tA G E g)) : PE X (.Tuple es x1 pos) (tE G E (mTup g)) := pe_imp (pe_tup h) fun σ H Q ⟨W, env, M, s, p⟩ => by
  refine tA.bind s p fun ds m2 W2 H2 us f2 s2 r2 p2 => ?_
  split at p2
  · rename_i hz
    exact ⟨by rw [r2.len, line_eq]; exact hz, tup_new s2.mem p2 r2⟩
  · exact p2.elim
theorem sn_lst (c : Bool) {es : List Expr} {g : FA} (h : PA X es (tA G E g)) : PE X (.List es pos) (tE G E (mLst c g)) := pe_imp (pe_lst h) fun σ H Q ⟨W, env, M, s, p⟩ => by
  refine tA.bind s p fun ds m2 W2 H2 us f2 s2 r2 p2 => ?_
  split at p2
  · rename_i hz
    exact ⟨by rw [r2.len, line_eq]; exact hz, mkL_new s2.mem p2 r2⟩
  · exact p2.elim
end
end
end Fn
set_option Elab.async false
set_option linter.all false
set_option maxRecDepth 100000
set_option maxHeartbeats 1000000
namespace Fn
open PySem PySem.Spec PyProof.Rows L2
section
variable {X : Cx} {G : Gx} {cl : Nat → Addr} {E : XK} {W : Wd} {H : Hp} {M : Mem} {a b c : Expr} {fa fb fc : FE} {pos : Pos}
def oIx : D → D → Mem → R D
  | .str x, .int i, M => if x.length ≤ 16777216 then match atI x i with
    | some c => .ok (.str [c]) M
    | none => .no
    else .no
  | a, .int i, M => match seqOf M a with
    | some l => match atI l i with
      | some d => .ok d M
      | none => .no
    | none => .no
  | _, _, _ => .no
theorem RpL.atI {ds : List D} {us : List V} (r : RpL G W H ds us) {i : Int} {d : D} (e : atI ds i = some d) : ∃ u, L2.atI us i = some u ∧ Rp G W H d u := by
  unfold L2.atI at e ⊢
  rw [r.len]
  cases h : ixN ds.length i with
  | none => rw [h] at e; cases e
  | some j => rw [h] at e; exact r.get e
theorem op2_ix : Op2 G E (rIx G.K) oIx := fun W H M a b u v Q m ra rb p => by
  cases b with
  | int i =>
    cases rb
    have seq : ∀ l, seqOf M a = some l → PR G W H (PV G Q) E (match atI l i with | some d => .ok d M | none => (.no : R D)) → rIx G.K u (.int i) H Q := fun l e1 p => by
      split at p
      · rename_i d e2
        obtain ⟨p1, us, h1, h2, h3⟩ := seqOf_ok m ra e1
        obtain ⟨w, h4, h5⟩ := h3.atI e2
        rcases h2 with h2 | h2
        · exact .inl ⟨p1, us, i, w, h1, rfl, h2, h4, p.here m _ h5⟩
        · exact .inr (.inl ⟨p1, us, i, w, h1, rfl, h2, h4, p.here m _ h5⟩)
      · exact p.elim
    cases a with
    | str x =>
      cases ra
      simp only [oIx] at p
      split at p
      · rename_i hz
        split at p
        · rename_i c e2
          exact .inr (.inr ⟨l2s x, i, c, rfl, rfl, by rw [l2s_len, line_eq]; exact hz, by rw [l2s_toList]; exact e2, p.here m _ rfl⟩)
        · exact p.elim
      · exact p.elim
    | tup l => exact seq l rfl p
    | ct l => exact seq l rfl p
    | lst l => exact seq l rfl p
    | fz l => exact seq l rfl p
    | ref j =>
      simp only [oIx] at p
      split at p
      · rename_i l e1
        exact seq l e1 p
      · exact p.elim
    | _ => exact p.elim
  | _ => cases a <;> exact p.elim
theorem sn_ix (ha : PE X a (tE ⟨X.K, cl⟩ E fa)) (hb : PE X b (tE ⟨X.K, cl⟩ E fb)) (hs : PlainIx b := by intro _ _; rfl) : PE X (.Subscript a b pos) (tE ⟨X.K, cl⟩ E (mOp oIx fa fb)) :=
  pe_imp (pe_ix ix_seq ha hb hs) (tE_op op2_ix)
def FO := Env → Mem → R (Option Int)
def pNone : FO := fun _ M => .ok none M
def pSome (f : FE) : FO := fun env M => (f env M).bind fun d m => match d with
  | .int i => .ok (some i) m
  | _ => .no
def cutD {α : Type} (xs : List α) (lo hi : Option Int) : List α := (xs.drop (HT.sIx xs.length 0 lo)).take (HT.sIx xs.length xs.length hi - HT.sIx xs.length 0 lo)
def oSl (c : Bool) (d : D) (lo hi : Option Int) (M : Mem) : R D := match d with
  | .str x => if x.length ≤ 16777216 then .ok (.str (cutD x lo hi)) M else .no
  | .tup l => .ok (.tup (cutD l lo hi)) M
  | d => match lstOf M d with
    | some l => mkL c (cutD l lo hi) M
    | none => .no
def mSl (c : Bool) (f : FE) (lo hi : FO) : FE := fun env M => (f env M).bind fun d m => (lo env m).bind fun l m1 => (hi env m1).bind fun h m2 => oSl c d l h m2
def tOO (G : Gx) (E : XK) (f : FO) : L2.St → Hp → (Option Int → Hp → Prop) → Prop := fun σ H Q => ∃ W env M, Sta G W env M σ H ∧ PR G W H (fun o _ _ H' => Q o H') E (f env M)
theorem po_imp {e : Option Expr} {t t' : TO} (h : PO X e t) (i : ∀ σ H Q, t' σ H Q → t σ H Q) : PO X e t' := ⟨fun pins s σ H Q I q => h.run pins s σ H Q I (i σ H Q q)⟩
theorem sp_none : PO X none (tOO G E pNone) := po_imp po_none fun σ H Q ⟨W, env, M, s, p⟩ => p.here s.mem
theorem sp_some (ha : PE X a (tE G E fa)) : PO X (some a) (tOO G E (pSome fa)) := po_imp (po_some ha) fun σ H Q ⟨W, env, M, s, p⟩ => by
  refine tE.bind s p fun d m W1 H1 u f1 s1 r1 p1 => ?_
  cases d with
  | int i => exact ⟨i, r1, p1.here s1.mem⟩
  | _ => exact p1.elim
theorem RpL.cut {ds : List D} {us : List V} (r : RpL G W H ds us) (lo hi : Option Int) : RpL G W H (cutD ds lo hi) (cutV us lo hi) := by
  unfold cutD cutV
  rw [r.len]
  exact (r.drop _).take _
theorem cutD_whole {α : Type} {xs : List α} {lo hi : Option Int} (h : HT.sIx xs.length 0 lo = 0 ∧ HT.sIx xs.length xs.length hi = xs.length) : cutD xs lo hi = xs := by
  unfold cutD
  rw [h.1, h.2, List.drop_zero, Nat.sub_zero, List.take_length]
theorem sl2 (c : Bool) (d : D) (lo hi : Option Int) (W : Wd) (H : Hp) (M : Mem) (u : V) (Q : VK) (m : MemOk G W H M) (r : Rp G W H d u) (p : PR G W H (PV G Q) E (oSl c d lo hi M)) :
    rSlL G.K u lo hi H Q ∨ rSlA G.K u lo hi H Q ∨ rSlS u lo hi H Q := by
  have seq : ∀ l, lstOf M d = some l → PR G W H (PV G Q) E (mkL c (cutD l lo hi) M) → rSlL G.K u lo hi H Q := fun l e q => by
    obtain ⟨a1, us, h1, h2, h3⟩ := lstOf_ok m r e
    exact ⟨a1, us, h1, h2, mkL_new m q (h3.cut lo hi)⟩
  cases d with
  | str x =>
    cases r
    simp only [oSl] at p
    split at p
    · rename_i hz
      refine .inr (.inr ⟨l2s x, rfl, by rw [l2s_len, line_eq]; exact hz, p.here m _ ?_⟩)
      show V.str _ = V.str _
      unfold cutS cutD
      rw [l2s_len, l2s_toList]
      rfl
    · exact p.elim
  | tup l =>
    obtain ⟨a1, us, h1, h2, h3⟩ := r
    refine .inr (.inl ⟨a1, us, h1, h2.sq, fun hw => p.here m _ ⟨a1, us, rfl, h2.imp id fun z => ⟨by rw [z.1]; simp [cutD], z.2⟩, ?_⟩, fun _ => tup_new m p (h3.cut lo hi)⟩)
    have hw' := hw
    rw [h3.len] at hw'
    rw [cutD_whole hw']
    exact h3
  | ct l => exact p.elim
  | lst l => exact .inl (seq l rfl p)
  | fz l => exact .inl (seq l rfl p)
  | ref j =>
    simp only [oSl] at p
    split at p
    · rename_i l e1
      exact .inl (seq l e1 p)
    · exact p.elim
  | _ => exact p.elim
theorem sn_sl (c : Bool) {lo hi : Option Expr} {gl gh : FO} {p2 : Pos} (ha : PE X a (tE ⟨X.K, cl⟩ E fa)) (hl : PO X lo (tOO ⟨X.K, cl⟩ E gl)) (hh : PO X hi (tOO ⟨X.K, cl⟩ E gh)) : PE X (.Subscript a (.Slice lo hi none p2) pos) (tE ⟨X.K, cl⟩ E (mSl c fa gl gh)) :=
  pe_imp (pe_slice (sl_list.or (sl_tupA.or sl_str)) ha hl hh) fun σ H Q ⟨W, env, M, s, p⟩ => by
    refine tE.bind s p fun d m W1 H1 u f1 s1 r1 p1 => ?_
    refine ⟨W1, env, m, s1, PR.bind p1 fun l m2 W2 H2 f2 k2 p2 => ?_⟩
    have s2 := s1.fut f2 k2
    refine ⟨W2, env, m2, s2, PR.bind p2 fun h m3 W3 H3 f3 k3 p3 => ?_⟩
    exact sl2 c d l h W3 H3 m3 u Q k3 (s2.mem.rp f3 (s1.mem.rp f2 r1)) p3
def Fn1 (G : Gx) (E : XK) (r : List V → Hp → VK → Prop) (o : List D → Mem → R D) : Prop := ∀ W H M ds us Q, MemOk G W H M → RpL G W H ds us → PR G W H (PV G Q) E (o ds M) → r us H Q
def mCall (o : List D → Mem → R D) (g : FA) : FE := fun env M => (g env M).bind o
theorem tE_call {r : List V → Hp → VK → Prop} {o : List D → Mem → R D} {g : FA} (hs : Fn1 G E r o) (σ : L2.St) (H : Hp) (Q : VK) (h : tE G E (mCall o g) σ H Q) : tCB r (tA G E g) σ H Q := by
  obtain ⟨W, env, M, s, p⟩ := h
  refine tA.bind s p fun ds m2 W2 H2 us f2 s2 r2 p2 => ?_
  exact hs W2 H2 m2 ds us Q s2.mem r2 p2
def oLen : List D → Mem → R D
  | [.str x], M => if x.length ≤ 16777216 then .ok (.int x.length) M else .no
  | [d], M => match seqOf M d with
    | some l => .ok (.int l.length) M
    | none => .no
  | _, _ => .no
theorem fn_len : Fn1 G E (fun xs H Q => (∃ p ys, xs = [.ref p] ∧ (SqL G.K H p ys ∨ SqT G.K H p ys) ∧ Q (.int ys.length) H) ∨ ∃ z : Str, xs = [.str z] ∧ z.length ≤ sizeLine ∧ Q (.int z.length) H) oLen := fun W H M ds us Q m r p => by
  match ds, r, p with
  | [d], r, p =>
    obtain ⟨u, us', e1, r1, r2⟩ := r
    have : us' = [] := r2
    subst this e1
    have seq : ∀ l, seqOf M d = some l → PR G W H (PV G Q) E (.ok (.int l.length) M) → ∃ p ys, [u] = [V.ref p] ∧ (SqL G.K H p ys ∨ SqT G.K H p ys) ∧ Q (.int ys.length) H := fun l e q => by
      obtain ⟨a1, us, h1, h2, h3⟩ := seqOf_ok m r1 e
      subst h1
      exact ⟨a1, us, rfl, h2, by rw [h3.len]; exact q.here m _ rfl⟩
    cases d with
    | str x =>
      cases r1
      simp only [oLen] at p
      split at p
      · rename_i hz
        exact .inr ⟨_, rfl, by rw [l2s_len, line_eq]; exact hz, by rw [l2s_len]; exact p.here m _ rfl⟩
      · exact p.elim
    | tup l => exact .inl (seq l rfl p)
    | ct l => exact .inl (seq l rfl p)
    | lst l => exact .inl (seq l rfl p)
    | fz l => exact .inl (seq l rfl p)
    | ref j =>
      simp only [oLen] at p
      split at p
      · rename_i l e1
        exact .inl (seq l e1 p)
      · exact p.elim
    | _ => exact p.elim
  | [], r, p => exact p.elim
  | a :: b :: c, r, p => cases a <;> exact p.elim
theorem call_lenA : CallR X (.builtin "len") (fun xs H Q => (∃ p ys, xs = [.ref p] ∧ (SqL X.K H p ys ∨ SqT X.K H p ys) ∧ Q (.int ys.length) H) ∨ ∃ z : Str, xs = [.str z] ∧ z.length ≤ sizeLine ∧ Q (.int z.length) H) := call_len_seq.or call_len_str
def o2I (f : Int → Int → Int) : List D → Mem → R D
  | [.int i, .int j], M => .ok (.int (f i j)) M
  | _, _ => .no
theorem fn_2I {f : Int → Int → Int} : Fn1 G E (fun xs H Q => ∃ i j, xs = [.int i, .int j] ∧ Q (.int (f i j)) H) (o2I f) := fun W H M ds us Q m r p => by
  unfold o2I at p
  split at p
  · obtain ⟨u, us', e1, r1, v, us2, e2, r2, r3⟩ := r
    have : us2 = [] := r3
    subst this e2 e1
    cases r1; cases r2
    exact ⟨_, _, rfl, p.here m _ rfl⟩
  · exact p.elim
def oMax := o2I fun i j => if j > i then j else i
def oMin := o2I fun i j => if j < i then j else i
def oInt : List D → Mem → R D
  | [.int i], M => .ok (.int i) M
  | [.bl k], M => .ok (.int (if k = true then 1 else 0)) M
  | _, _ => .no
def oList (c : Bool) : List D → Mem → R D
  | [d], M => match seqOf M d with
    | some l => mkL c l M
    | none => .no
  | _, _ => .no
theorem rp_one {d : D} {us : List V} (r : RpL G W H [d] us) : ∃ u, us = [u] ∧ Rp G W H d u := by
  obtain ⟨u, us', e1, r1, r2⟩ := r
  have : us' = [] := r2
  subst this e1
  exact ⟨u, rfl, r1⟩
theorem fn_list {c : Bool} : Fn1 G E (fun xs H Q => ∃ p ys, xs = [.ref p] ∧ (SqL G.K H p ys ∨ SqT G.K H p ys) ∧ ∀ l, H l = none → Q (.ref l) (upd H l (.lst ys))) (oList c) := fun W H M ds us Q m r p => by
  unfold oList at p
  split at p
  · obtain ⟨u, e1, r1⟩ := rp_one r
    subst e1
    split at p
    · rename_i l e1
      obtain ⟨a1, us, h1, h2, h3⟩ := seqOf_ok m r1 e1
      subst h1
      exact ⟨a1, us, rfl, h2, mkL_new m p h3⟩
    · exact p.elim
  · exact p.elim
def oTuple : List D → Mem → R D
  | [.tup l], M => .ok (.tup l) M
  | [d], M => match lstOf M d with
    | some l => .ok (.tup l) M
    | none => .no
  | _, _ => .no
/-- all, any of a list of truths -/
def blsOf : List D → Option (List Bool)
  | [] => some []
  | .bl b :: r => (blsOf r).map (b :: ·)
  | _ :: _ => none
theorem blsOf_ok : ∀ {l : List D} {us : List V} {bs : List Bool}, RpL G W H l us → blsOf l = some bs → us = bs.map V.bl
  | [], us, bs, r, e => by have : us = [] := r; subst this; cases e; rfl
  | .bl b :: l, us, bs, r, e => by
    obtain ⟨u, us', e1, r1, r2⟩ := r
    cases r1
    simp only [blsOf] at e
    cases q : blsOf l with
    | none => rw [q] at e; cases e
    | some bs' =>
      rw [q] at e; cases e
      rw [e1, blsOf_ok r2 q]; rfl
  | .non :: _, _, _, _, e => by cases e
  | .int _ :: _, _, _, _, e => by cases e
  | .str _ :: _, _, _, _, e => by cases e
  | .tup _ :: _, _, _, _, e => by cases e
  | .lst _ :: _, _, _, _, e => by cases e
  | .fz _ :: _, _, _, _, e => by cases e
  | .ct _ :: _, _, _, _, e => by cases e
  | .ref _ :: _, _, _, _, e => by cases e
def oAllAny (f : List Bool → Bool) : List D → Mem → R D
  | [d], M => match (lstOf M d).bind blsOf with
    | some bs => .ok (.bl (f bs)) M
    | none => .no
  | _, _ => .no
theorem fn_allany {f : List Bool → Bool} : Fn1 G E (fun vs H Q => ∃ (a : Addr) (bs : List Bool), vs = [V.ref a] ∧ SqL G.K H a (bs.map V.bl) ∧ Q (.bl (f bs)) H) (oAllAny f) := fun W H M ds us Q m r p => by
  unfold oAllAny at p
  split at p
  · obtain ⟨u, e1, r1⟩ := rp_one r
    subst e1
    split at p
    · rename_i bs e1
      cases q : lstOf M _ with
      | none => rw [q] at e1; cases e1
      | some l =>
        rw [q] at e1
        obtain ⟨a1, us, h1, h2, h3⟩ := lstOf_ok m r1 q
        subst h1
        have := blsOf_ok h3 e1
        subst this
        exact ⟨a1, bs, rfl, h2, p.here m _ rfl⟩
    · exact p.elim
  · exact p.elim
def oAll := oAllAny fun bs => bs.all id
def Mt1 (G : Gx) (E : XK) (r : V → List V → Hp → VK → Prop) (o : D → List D → Mem → R D) : Prop := ∀ W H M a u ds us Q, MemOk G W H M → Rp G W H a u → RpL G W H ds us → PR G W H (PV G Q) E (o a ds M) → r u us H Q
def tyOk (T : String) (M : Mem) : D → Bool
  | .str _ => T == "str"
  | .int _ => T == "int"
  | .lst _ => T == "list"
  | .fz _ => T == "list"
  | .ref i => match M[i]? with
    | some (.lst _) => T == "list"
    | some (.dk false _) => T == "dict"
    | some (.dt false _) => T == "dict"
    | _ => false
  | _ => false
theorem tyOk_ok {T : String} {d : D} {u : V} (m : MemOk G W H M) (r : Rp G W H d u) (e : tyOk T M d = true) : tyV G.K T u H := by
  cases d with
  | str x => cases r; exact eq_of_beq e
  | int x => cases r; exact eq_of_beq e
  | lst l => obtain ⟨a1, us, h1, h2, h3⟩ := lstOf_ok m (d := .lst l) r rfl; subst h1; exact .inl ⟨eq_of_beq e, us, h2⟩
  | fz l => obtain ⟨a1, us, h1, h2, h3⟩ := lstOf_ok m (d := .fz l) r rfl; subst h1; exact .inl ⟨eq_of_beq e, us, h2⟩
  | ref i =>
    obtain ⟨a, e1, e2⟩ := r
    subst e2
    simp only [tyOk] at e
    split at e
    · rename_i l hc
      obtain ⟨us, h1, r1⟩ := m.cell i _ a hc e1
      exact .inl ⟨eq_of_beq e, us, .inl (.inl h1)⟩
    · rename_i kvs hc
      obtain ⟨us, h1, r1⟩ := m.cell i _ a hc e1
      exact .inr (.inr (.inl ⟨eq_of_beq e, .inl ⟨us, h1⟩⟩))
    · rename_i kvs hc
      obtain ⟨us, h1, r1⟩ := m.cell i _ a hc e1
      exact .inr (.inr (.inl ⟨eq_of_beq e, .inr ⟨us, h1⟩⟩))
    · cases e
  | _ => cases e
def mMeth (T : String) (o : D → List D → Mem → R D) (f : FE) (g : FA) : FE := fun env M => (f env M).bind fun a m => if tyOk T m a = true then (g env m).bind fun ds m' => o a ds m' else .no
theorem tE_meth {T : String} {r : V → List V → Hp → VK → Prop} {o : D → List D → Mem → R D} {f : FE} {g : FA} (hs : Mt1 G E r o) (σ : L2.St) (H : Hp) (Q : VK) (h : tE G E (mMeth T o f g) σ H Q) : tBM G.K T r (tE G E f) (tA G E g) σ H Q := by
  obtain ⟨W, env, M, s, p⟩ := h
  refine tE.bind s p fun d m W1 H1 u f1 s1 r1 p1 => ?_
  split at p1
  · rename_i ht
    refine ⟨tyOk_ok s1.mem r1 ht, ?_⟩
    refine tA.bind s1 p1 fun ds m2 W2 H2 us f2 s2 r2 p2 => ?_
    exact hs W2 H2 m2 d u ds us Q s2.mem (s1.mem.rp f2 r1) r2 p2
  · exact p1.elim
def oAppend : D → List D → Mem → R D
  | .ref i, [d], M => match M[i]? with
    | some (.lst l) => if l.length < 16777216 then .ok .non (M.set i (.lst (l ++ [d]))) else .no
    | _ => .no
  | _, _, _ => .no
theorem mt1_append : Mt1 G E rAppend oAppend := fun W H M a u ds us Q m ra r p => by
  unfold oAppend at p
  split at p
  · obtain ⟨v, e1, r1⟩ := rp_one r
    subst e1
    obtain ⟨a1, e2, e3⟩ := ra
    subst e3
    split at p
    · rename_i l hc
      split at p
      · rename_i hz
        obtain ⟨xs, h1, h2⟩ := m.cell _ _ a1 hc e2
        refine ⟨a1, xs, v, rfl, rfl, h1, by rw [h2.len, line_eq]; exact hz, ?_⟩
        have f := Fut.wrote (W := W) (H := H) (o := .lst (xs ++ [v])) e2 h1 trivial
        exact p W _ f (m.wrote e2 ⟨_, upd_same, m.rpL f (h2.append ⟨v, [], rfl, r1, rfl⟩)⟩) _ rfl
      · exact p.elim
    · exact p.elim
  · exact p.elim
def oExtend : D → List D → Mem → R D
  | .ref i, [d], M => match M[i]?, ownOf M d with
    | some (.lst l), some l' => if l.length + l'.length ≤ 16777216 then .ok .non (M.set i (.lst (l ++ l'))) else .no
    | _, _ => .no
  | _, _, _ => .no
def strsOf : List D → Option (List (List Nat))
  | [] => some []
  | .str b :: r => (strsOf r).map (b :: ·)
  | _ :: _ => none
theorem strsOf_ok : ∀ {l : List D} {us : List V} {bs : List (List Nat)}, RpL G W H l us → strsOf l = some bs → us = (bs.map l2s).map V.str
  | [], us, bs, r, e => by have : us = [] := r; subst this; cases e; rfl
  | .str b :: l, us, bs, r, e => by
    obtain ⟨u, us', e1, r1, r2⟩ := r
    cases r1
    simp only [strsOf] at e
    cases q : strsOf l with
    | none => rw [q] at e; cases e
    | some bs' =>
      rw [q] at e; cases e
      rw [e1, strsOf_ok r2 q]; rfl
  | .non :: _, _, _, _, e => by cases e
  | .int _ :: _, _, _, _, e => by cases e
  | .bl _ :: _, _, _, _, e => by cases e
  | .tup _ :: _, _, _, _, e => by cases e
  | .lst _ :: _, _, _, _, e => by cases e
  | .fz _ :: _, _, _, _, e => by cases e
  | .ct _ :: _, _, _, _, e => by cases e
  | .ref _ :: _, _, _, _, e => by cases e
def joinL (sep : List Nat) : List (List Nat) → List Nat
  | [] => []
  | [x] => x
  | x :: r => x ++ sep ++ joinL sep r
def oJoin : D → List D → Mem → R D
  | .str sep, [d], M => match (seqOf M d).bind strsOf with
    | some xs => if (xs.map (·.length)).sum + xs.length * sep.length ≤ 16777216 then .ok (.str (joinL sep xs)) M else .no
    | none => .no
  | _, _, _ => .no
end
end Fn
set_option Elab.async false
set_option linter.all false
set_option maxRecDepth 100000
set_option maxHeartbeats 1000000
namespace Fn
open PySem PySem.Spec PyProof.Rows L2
section
variable {X : Cx} {G : Gx} {cl : Nat → Addr} {E : XK} {W : Wd} {H : Hp} {M : Mem} {a b c : Expr} {fa fb fc : FE} {pos : Pos}
theorem join_l2s (sep : List Nat) : ∀ xs : List (List Nat), Str.join (l2s sep) (xs.map l2s) = l2s (joinL sep xs)
  | [] => rfl
  | [x] => rfl
  | x :: y :: r => by
    show l2s x ++ l2s sep ++ Str.join (l2s sep) ((y :: r).map l2s) = l2s (x ++ sep ++ joinL sep (y :: r))
    rw [join_l2s sep (y :: r), l2s_append, l2s_append]
theorem mt1_join : Mt1 G E (fun x xs H Q => ∃ a p, ∃ ys : List Str, x = .str a ∧ xs = [.ref p] ∧ (SqL G.K H p (ys.map V.str) ∨ SqT G.K H p (ys.map V.str)) ∧
    (ys.map (·.length)).sum + ys.length * a.length ≤ 16777216 ∧ Q (.str (PySem.Txt.join a ys)) H) oJoin := fun W H M a u ds us Q m ra r p => by
  unfold oJoin at p
  split at p
  · obtain ⟨v, e1, r1⟩ := rp_one r
    subst e1
    cases ra
    split at p
    · rename_i xs e1
      cases q : seqOf M _ with
      | none => rw [q] at e1; cases e1
      | some l =>
        rw [q] at e1
        obtain ⟨a1, us, h1, h2, h3⟩ := seqOf_ok m r1 q
        subst h1
        have := strsOf_ok h3 e1
        subst this
        split at p
        · rename_i hz
          refine ⟨_, a1, xs.map l2s, rfl, rfl, h2, ?_, p.here m _ ?_⟩
          · rw [List.map_map, List.length_map, l2s_len]
            rw [show (fun x : Str => x.length) ∘ l2s = (·.length) from funext fun x => l2s_len x]
            exact hz
          · show V.str _ = V.str _
            rw [PySem.Txt.join, PySem.StrLaws.glued_eq_join, join_l2s]
        · exact p.elim
    · exact p.elim
  · exact p.elim
theorem op2_inS : Op2 G E (fun x y H Q => ∃ (c : Nat) (z : Str), x = .str ⟨#[c]⟩ ∧ y = .str z ∧ Q (.bl (decide (c ∈ z.cps.toList))) H) (oInS false) := fun W H M a b u v Q m ra rb p => by
  unfold oInS at p
  split at p
  · cases ra; cases rb
    exact ⟨_, _, rfl, rfl, p.here m _ (by rw [l2s_toList]; rfl)⟩
  · exact p.elim
theorem op2_notInS : Op2 G E (fun x y H Q => ∃ (c : Nat) (z : Str), x = .str ⟨#[c]⟩ ∧ y = .str z ∧ Q (.bl (!decide (c ∈ z.cps.toList))) H) (oInS true) := fun W H M a b u v Q m ra rb p => by
  unfold oInS at p
  split at p
  · cases ra; cases rb
    exact ⟨_, _, rfl, rfl, p.here m _ (by rw [l2s_toList]; rfl)⟩
  · exact p.elim
theorem sn_inS (ha : PE X a (tE G E fa)) (hb : PE X b (tE G E fb)) (hm : behindInMarks .In b = false := by rfl) : PE X (.Compare a [.In] [b] pos) (tE G E (mOp (oInS false) fa fb)) := sn_cmp op_in_sign op2_inS hm ha hb
def tyD (M : Mem) : D → Option String
  | .non => some "NoneType"
  | .bl _ => some "bool"
  | .int _ => some "int"
  | .str _ => some "str"
  | .tup _ => some "tuple"
  | .ct _ => some "tuple"
  | .lst _ => some "list"
  | .fz _ => some "list"
  | .ref i => match M[i]? with
    | some (.lst _) => some "list"
    | _ => none
/-- is a of class b, of the classes of data -/
def isTy (a b : String) : Bool := a == b || (a == "bool" && b == "int")
def isTyOk (b : String) : Bool := b == "bool" || b == "int" || b == "str" || b == "tuple" || b == "list"
theorem kitB_ok {a b : String} (ha : a = "NoneType" ∨ a = "bool" ∨ a = "int" ∨ a = "str" ∨ a = "tuple" ∨ a = "list") (hb : isTyOk b = true) : kitB a b = some (isTy a b) := by
  unfold isTyOk at hb
  simp only [Bool.or_eq_true, beq_iff_eq] at hb
  rcases hb with (((rfl | rfl) | rfl) | rfl) | rfl <;> rcases ha with rfl | rfl | rfl | rfl | rfl | rfl <;> decide +kernel
theorem tyX_lst {xs : List V} {a : Addr} (h : SqL G.K H a xs) : TyX G.K H (.ref a) (.type "list") := by
  rcases h with (h | ⟨o, h⟩) | ⟨o, its, n, h1, h2, _⟩
  · exact .base (.lst h)
  · exact .base (.frz h)
  · exact .kList h1 h2
theorem tyX_tup {xs : List V} {a : Addr} (h : SqT G.K H a xs) : TyX G.K H (.ref a) (.type "tuple") := by
  rcases h with (h | ⟨o, h⟩) | ⟨o, its, n, h1, h2, _⟩
  · exact .base (.tup h)
  · exact .fTuple h
  · exact .kTuple h1 h2
theorem tyD_ok (m : MemOk G W H M) {d : D} {u : V} {t : String} (r : Rp G W H d u) (e : tyD M d = some t) : TyX G.K H u (.type t) ∧ (t = "NoneType" ∨ t = "bool" ∨ t = "int" ∨ t = "str" ∨ t = "tuple" ∨ t = "list") := by
  cases d with
  | non => cases r; cases e; exact ⟨.base .non, .inl rfl⟩
  | bl b => cases r; cases e; exact ⟨.base (.bl b), .inr (.inl rfl)⟩
  | int b => cases r; cases e; exact ⟨.base (.int b), .inr (.inr (.inl rfl))⟩
  | str b => cases r; cases e; exact ⟨.base (.str _), .inr (.inr (.inr (.inl rfl)))⟩
  | tup l => cases e; obtain ⟨a, us, h1, h2, _⟩ := r; subst h1; exact ⟨tyX_tup h2.sq, .inr (.inr (.inr (.inr (.inl rfl))))⟩
  | ct l => cases e; obtain ⟨a, us, h1, h2, _⟩ := r; subst h1; exact ⟨tyX_tup h2.sq, .inr (.inr (.inr (.inr (.inl rfl))))⟩
  | lst l => cases e; obtain ⟨a, us, h1, h2, _⟩ := lstOf_ok m (d := .lst l) r rfl; subst h1; exact ⟨tyX_lst h2, .inr (.inr (.inr (.inr (.inr rfl))))⟩
  | fz l => cases e; obtain ⟨a, us, h1, h2, _⟩ := lstOf_ok m (d := .fz l) r rfl; subst h1; exact ⟨tyX_lst h2, .inr (.inr (.inr (.inr (.inr rfl))))⟩
  | ref i =>
    obtain ⟨a, e1, e2⟩ := r
    subst e2
    simp only [tyD] at e
    split at e
    · rename_i l hc
      cases e
      obtain ⟨us, h1, h2⟩ := m.cell i _ a hc e1
      exact ⟨.base (.lst h1), .inr (.inr (.inr (.inr (.inr rfl))))⟩
    · cases e
/-- isinstance(e, T) -/
def oIsi (T : String) (d : D) (M : Mem) : R D := match tyD M d with
  | some t => .ok (.bl (isTy t T)) M
  | none => .no
theorem sn_isi {T : String} {x : Str} {p1 p3 : Pos} (hg : Gl X "isinstance") (hm : X.mg "isinstance" = none) (hg2 : Gl X x) (hm2 : X.mg x = none) (hv2 : bootBuiltins x = some (.type T)) (hT : isTyOk T = true) (hn : x ≠ "__name__") (hd : (x == ("__debug__" : Str)) = false) (ha : PE X a (tE ⟨X.K, cl⟩ E fa))
    (hs1 : starEach [.Name x p3] X.env = (false, eval (.Name x p3) X.env) :: starEach [] X.env := by rfl)
    (hs2 : starEach [a, .Name x p3] X.env = (false, eval a X.env) :: starEach [.Name x p3] X.env := by rfl)
    (hpl : (backTo pos (starEach [.Name x p3] X.env)).any (·.1) = false := by rfl) : PE X (.Call (.Name "isinstance" p1) [a, .Name x p3] [] pos) (tE ⟨X.K, cl⟩ E (mUn (oIsi T) fa)) :=
  pe_imp (pe_callB call_isi hg hm (by decide +kernel) (pa_cons ha (pa_cons (pe_bltn (v := .ty T) hg2 hm2 hv2 rfl hn hd) pa_nil hs1) hs2) (by decide) (by decide) hs2 hpl) fun σ H Q ⟨W, env, M, s, p⟩ => by
    refine tE.bind s p fun d m W1 H1 u f1 s1 r1 p1 => ?_
    simp only [oIsi] at p1
    split at p1
    · rename_i t e
      obtain ⟨k1, k2⟩ := tyD_ok s1.mem r1 e
      exact ⟨u, .ty T, .type t, .type T, isTy t T, rfl, .ty T, k1, kit_ty (kitB_ok k2 hT), p1.here s1.mem _ rfl⟩
    · exact p1.elim
end
end Fn
set_option Elab.async false
set_option linter.all false
set_option maxRecDepth 100000
set_option maxHeartbeats 1000000
namespace Fn
open PySem PySem.Spec PyProof.Rows L2
inductive Flow where
  | nx (env : Env) | bk (env : Env) | ct (env : Env) | rt (d : D)
abbrev FS := Env → Mem → R Flow
abbrev FG := D → Env → Mem → R Env
section
variable {X : Cx} {G : Gx} {cl : Nat → Addr} {E : XK} {W : Wd} {H : Hp} {M : Mem} {a b c : Expr} {fa fb fc : FE} {pos : Pos}
def PFl (G : Gx) (D : Ends) : Flow → Mem → Wd → Hp → Prop
  | .nx env, _, W', H' => ∀ σ', EnvOk G W' H' env σ' → D.nx σ' H'
  | .bk env, _, W', H' => ∀ σ', EnvOk G W' H' env σ' → D.bk σ' H'
  | .ct env, _, W', H' => ∀ σ', EnvOk G W' H' env σ' → D.ct σ' H'
  | .rt d, _, W', H' => ∀ u, Rp G W' H' d u → D.rt u H'
def tS (G : Gx) (E : XK) (f : FS) : TS := fun D σ H => ∃ W env M, Sta G W env M σ H ∧ PR G W H (PFl G D) E (f env M)
/-- slots beside vs stay -/
def PEnv (G : Gx) (vs : List Nat) (σ : L2.St) (Q : L2.St → Hp → Prop) : Env → Mem → Wd → Hp → Prop := fun env _ W' H' => ∀ σ', EnvOk G W' H' env σ' → wipe σ' vs = wipe σ vs → Q σ' H'
def tGt (G : Gx) (E : XK) (vs : List Nat) (f : FG) : TG := fun v σ H Q => ∃ W env M d, Sta G W env M σ H ∧ Rp G W H d v ∧ PR G W H (PEnv G vs σ Q) E (f d env M)
theorem wipe_get (σ : L2.St) (j : Nat) : ∀ vs : List Nat, j ∉ vs → (wipe σ vs)[j]? = σ[j]?
  | [], _ => rfl
  | v :: vs, h => by
    unfold wipe
    rw [List.getElem?_set_ne (fun z => h (by rw [z]; exact List.mem_cons_self ..))]
    exact wipe_get σ j vs fun z => h (List.mem_cons_of_mem _ z)
theorem wipe_in (σ : L2.St) (j : Nat) : ∀ vs : List Nat, j ∈ vs → j < σ.length → (wipe σ vs)[j]? = some none
  | v :: vs, h, hl => by
    unfold wipe
    by_cases e : v = j
    · subst e
      exact List.getElem?_set_self (by rw [wipe_length]; exact hl)
    · rw [List.getElem?_set_ne e]
      exact wipe_in σ j vs ((List.mem_cons.mp h).resolve_left fun z => e z.symm) hl
theorem wipe_ext {σ σ' : L2.St} {vs : List Nat} (hl : σ.length = σ'.length) (h : ∀ j, j ∉ vs → σ[j]? = σ'[j]?) : wipe σ vs = wipe σ' vs := by
  apply List.ext_getElem?
  intro j
  by_cases hj : j ∈ vs
  · by_cases hb : j < σ.length
    · rw [wipe_in σ j vs hj hb, wipe_in σ' j vs hj (by omega)]
    · rw [List.getElem?_eq_none (by rw [wipe_length]; omega), List.getElem?_eq_none (by rw [wipe_length]; omega)]
  · rw [wipe_get σ j vs hj, wipe_get σ' j vs hj, h j hj]
theorem wipe_set {σ : L2.St} {vs : List Nat} {i : Nat} {x : Option V} (hi : i ∈ vs) : wipe (σ.set i x) vs = wipe σ vs :=
  wipe_ext (by simp) fun j hj => List.getElem?_set_ne (fun z => hj (by rw [← z]; exact hi))
theorem pg_imp {e : Expr} {t t' : TG} (h : PG X e t) (i : ∀ v σ H Q, t' v σ H Q → t v σ H Q) : PG X e t' := ⟨fun pins s σ H v u Q I r q => h.run pins s σ H v u Q I r (i v σ H Q q)⟩
theorem EnvOk.set {env : Env} {σ : L2.St} {d : D} {u : V} (h : EnvOk G W H env σ) (i : Nat) (r : Rp G W H d u) : EnvOk G W H (env.set i (some d)) (σ.set i (some u)) := by
  refine ⟨by simp [h.1], fun j d' e => ?_⟩
  by_cases hj : i = j
  · subst hj
    by_cases hl : i < env.length
    · rw [List.getElem?_set_self hl] at e
      cases e
      exact ⟨u, List.getElem?_set_self (by rw [← h.1]; exact hl), r⟩
    · rw [List.set_eq_of_length_le (by omega)] at e
      rw [List.getElem?_eq_none (by omega)] at e
      cases e
  · rw [List.getElem?_set_ne hj] at e ⊢
    exact h.2 j d' e
def gN (i : Nat) : FG := fun d env M => .ok (env.set i (some d)) M
theorem sg_name {i : Nat} {x : Str} {pos : Pos} {vs : List Nat} (h : PG X (.Name x pos) (gName i)) (hv : i ∈ vs) : PG X (.Name x pos) (tGt G E vs (gN i)) := pg_imp h fun v σ H Q ⟨W, env, M, d, s, r, p⟩ => p.here s.mem _ (s.env.set i r) (wipe_set hv)
abbrev FGs := List D → Env → Mem → R Env
def tGts (G : Gx) (E : XK) (sl : List Nat) (f : FGs) : TGs := fun vs σ H Q => ∃ W env M ds, Sta G W env M σ H ∧ RpL G W H ds vs ∧ PR G W H (PEnv G sl σ Q) E (f ds env M)
theorem pgs_imp {e : List Expr} {t t' : TGs} (h : PGs X e t) (i : ∀ v σ H Q, t' v σ H Q → t v σ H Q) : PGs X e t' := ⟨fun pins s σ H v u Q I r q => h.run pins s σ H v u Q I r (i v σ H Q q)⟩
def gsNil : FGs := fun ds env M => match ds with
  | [] => .ok env M
  | _ => .no
def gsCons (f : FG) (g : FGs) : FGs := fun ds env M => match ds with
  | d :: r => (f d env M).bind fun env' m => g r env' m
  | [] => .no
theorem sgs_nil {vs : List Nat} : PGs X [] (tGts G E vs gsNil) := pgs_imp pgs_nil fun v σ H Q ⟨W, env, M, ds, s, r, p⟩ => by
  unfold gsNil at p
  split at p
  · have : v = [] := r
    subst this
    exact ⟨rfl, p.here s.mem _ s.env rfl⟩
  · exact p.elim
theorem sgs_cons {e : Expr} {es : List Expr} {f : FG} {g : FGs} {sl : List Nat} (h1 : PG X e (tGt G E sl f)) (h2 : PGs X es (tGts G E sl g))
    (hs : (assignEach (e :: es) X.env).map (·.2) = assign e X.env :: (assignEach es X.env).map (·.2) := by rfl) : PGs X (e :: es) (tGts G E sl (gsCons f g)) := pgs_imp (pgs_cons h1 h2 hs) fun v σ H Q ⟨W, env, M, ds, s, r, p⟩ => by
  unfold gsCons at p
  split at p
  · rename_i d r'
    obtain ⟨u, us, e1, r1, r2⟩ := r
    refine ⟨u, us, e1, W, env, M, d, s, r1, PR.bind p fun env' m W1 H1 f1 k1 p1 => fun σ' en ew => ?_⟩
    refine ⟨W1, env', m, r', ⟨k1, en⟩, s.mem.rpL f1 r2, PR.mono p1 fun env2 m2 W2 H2 f2 k2 q σ2 en2 ew2 => q σ2 en2 (ew2.trans ew)⟩
  · exact p.elim
def gT (n : Nat) (g : FGs) : FG := fun d env M => match d with
  | .tup l => if l.length = n then g l env M else .no
  | .ct l => if l.length = n then g l env M else .no
  | _ => .no
/-- x[i] = v of a list -/
def gIx (fo fi : FE) : FG := fun d env M => (fo env M).bind fun o m => (fi env m).bind fun i m' => match o, i with
  | .ref j, .int k => match m'[j]? with
    | some (.lst l) => match ixN l.length k with
      | some n => .ok env (m'.set j (.lst (l.set n d)))
      | none => .no
    | _ => .no
  | _, _ => .no
theorem sg_ix {sl : List Nat} (ha : PE X a (tE G E fa)) (hb : PE X b (tE G E fb)) (hs : ∀ v, assign (.Subscript a b pos) X.env v = (do
      let ov ← holding [v] (eval a X.env)
      let iv ← holding [v, ov] (eval b X.env)
      standAt pos
      holding [v, ov, iv] (setItem ov iv v)
      release [v, ov, iv] []) := by intro _; rfl) : PG X (.Subscript a b pos) (tGt G E sl (gIx fa fb)) := pg_imp (pg_sub ha hb set_list hs) fun v σ H Q ⟨W, env, M, d, s, r, p⟩ => by
  refine tE.bind s p fun o m W1 H1 u1 f1 s1 r1 p1 => ?_
  refine tE.bind s1 p1 fun i m2 W2 H2 u2 f2 s2 r2 p2 => ?_
  split at p2
  · rename_i j k
    split at p2
    · rename_i l hc
      split at p2
      · rename_i n hn
        obtain ⟨a1, e1, e2⟩ := s1.mem.rp f2 r1
        subst e2; cases r2
        obtain ⟨us, h1, h2⟩ := s2.mem.cell _ _ a1 hc e1
        refine ⟨a1, us, k, n, rfl, rfl, h1, by rw [h2.len]; exact hn, ?_⟩
        have f := Fut.wrote (W := W2) (H := H2) (o := .lst (us.set n v)) e1 h1 trivial
        exact p2 W2 _ f (s2.mem.wrote e1 ⟨_, upd_same, s2.mem.rpL f (h2.set n (s1.mem.rp f2 (s.mem.rp f1 r)))⟩) _ (s2.env.fut s2.mem f) rfl
      · exact p2.elim
    · exact p2.elim
  · exact p2.elim
def mSet (i : Nat) (f : FE) : FS := fun env M => (f env M).bind fun d m => .ok (.nx (env.set i (some d))) m
theorem ss_set {i : Nat} {x : Str} {pos' : Pos} (ha : PE X a (tE G E fa)) (hN : X.N.Nodup) (hi : X.N[i]? = some x) (hx : Loc X.env.scope x) (hs : swapsWith a (some (.Name x pos')) pos.line X.env = pure false := by rfl) (hf : X.fn x = true ∨ X.env.scope.names.lookup x = some .local := by first | exact .inl rfl | exact .inr rfl | assumption) :
    PS X (.Assign [.Name x pos'] a pos) (tS G E (mSet i fa)) := ps_imp (ps_set hN hi hx ha hs hf) fun D σ H ⟨W, env, M, s, p⟩ => by
  refine tE.bind s p fun d m W1 H1 u f1 s1 r1 p1 => ?_
  exact p1.here s1.mem _ (s1.env.set i r1)
def mAsg (f : FE) (g : FG) : FS := fun env M => (f env M).bind fun d m => (g d env m).bind fun env' m' => .ok (.nx env') m'
theorem ss_asg {tg : Expr} {g : FG} {sl : List Nat} (ha : PE X a (tE G E fa)) (hg : PG X tg (tGt G E sl g)) (hs : swapsWithSole [tg] a pos.line X.env = pure false := by rfl) (hw : swappedStores [tg] a X.env = pure none := by rfl)
    (h1 : (assignEach [tg] X.env).map (·.2) = [assign tg X.env] := by rfl) : PS X (.Assign [tg] a pos) (tS G E (mAsg fa g)) := ps_imp (ps_asg ha hg hs hw h1) fun D σ H ⟨W, env, M, s, p⟩ => by
  refine tE.bind s p fun d m W1 H1 u f1 s1 r1 p1 => ?_
  refine ⟨W1, env, m, d, s1, r1, PR.bind p1 fun env' m2 W2 H2 f2 k2 p2 => fun σ' en _ => ?_⟩
  exact p2.here k2 _ en
/-- a, b = e, e': no tuple is made -/
def mPar (i j : Nat) (g : FA) : FS := fun env M => (g env M).bind fun ds m => match ds with
  | [d, d'] => .ok (.nx ((env.set i (some d)).set j (some d'))) m
  | _ => .no
theorem ss_par {i j : Nat} {x y : Str} {g : FA} {px py pt : Pos} {kt k2 pt2} (hc : X.calm = true) (hN : X.N.Nodup) (hi : X.N[i]? = some x) (hj : X.N[j]? = some y) (hij : i ≠ j)
    (hx : X.env.scope.names.lookup x = some .local) (hy : X.env.scope.names.lookup y = some .local) (ha : PA X [a, b] (tA G E g))
    (hw : swappedStores [.Tuple [.Name x px, .Name y py] kt pt] (.Tuple [a, b] k2 pt2) X.env = pure (some [x, y]))
    (hs : swapsWithSole [.Tuple [.Name x px, .Name y py] kt pt] (.Tuple [a, b] k2 pt2) pos.line X.env = pure false := by rfl) :
    PS X (.Assign [.Tuple [.Name x px, .Name y py] kt pt] (.Tuple [a, b] k2 pt2) pos) (tS G E (mPar i j g)) := ps_imp (ps_par hc hN hi hj hij hx hy ha hw hs) fun D σ H ⟨W, env, M, s, p⟩ => by
  refine tA.bind s p fun ds m W1 H1 us f1 s1 r1 p1 => ?_
  split at p1
  · rename_i d d'
    obtain ⟨u, us', e1, r2, u', us2, e2, r3, r4⟩ := r1
    have : us2 = [] := r4
    subst this e2 e1
    exact ⟨u, u', rfl, p1.here s1.mem _ ((s1.env.set i r2).set j r3)⟩
  · exact p1.elim
def mExpr (f : FE) : FS := fun env M => (f env M).bind fun _ m => .ok (.nx env) m
theorem ss_expr (ha : PE X a (tE G E fa)) (hs : swapsWith a none pos.line X.env = pure false := by rfl) : PS X (.Expr a pos) (tS G E (mExpr fa)) := ps_imp (ps_expr ha hs) fun D σ H ⟨W, env, M, s, p⟩ => by
  refine tE.bind s p fun d m W1 H1 u f1 s1 r1 p1 => ?_
  exact p1.here s1.mem _ s1.env
def mRet (f : FE) : FS := fun env M => (f env M).bind fun d m => .ok (.rt d) m
theorem ss_ret (ha : PE X a (tE G E fa)) : PS X (.Return (some a) pos) (tS G E (mRet fa)) := ps_imp (ps_ret ha) fun D σ H ⟨W, env, M, s, p⟩ => by
  refine tE.bind s p fun d m W1 H1 u f1 s1 r1 p1 => ?_
  exact p1.here s1.mem _ r1
def mRetN : FS := fun _ M => .ok (.rt .non) M
def mPass : FS := fun env M => .ok (.nx env) M
def mSeq (f g : FS) : FS := fun env M => (f env M).bind fun fl m => match fl with
  | .nx env' => g env' m
  | fl => .ok fl m
theorem sb_nil : PSs X [] (tS G E mPass) := pss_imp pss_nil fun D σ H ⟨W, env, M, s, p⟩ => p.here s.mem _ s.env
theorem sb_one {st : Stmt} {f : FS} (h : PS X st (tS G E f)) : PSs X [st] (tS G E f) := pss_one h
theorem sb_cons {st : Stmt} {r : List Stmt} {f g : FS} (h : PS X st (tS G E f)) (h2 : PSs X r (tS G E g)) : PSs X (st :: r) (tS G E (mSeq f g)) := pss_imp (pss_cons h h2) fun D σ H ⟨W, env, M, s, p⟩ => by
  refine ⟨W, env, M, s, PR.bind p fun fl m W1 H1 f1 k1 p1 => ?_⟩
  cases fl with
  | nx env' => exact fun σ' en => ⟨W1, env', m, ⟨k1, en⟩, p1⟩
  | bk env' => exact PR.here (E := E) k1 p1
  | ct env' => exact PR.here (E := E) k1 p1
  | rt d => exact PR.here (E := E) k1 p1
def mIfS (c : FT) (f g : FS) : FS := fun env M => (c env M).bind fun b m => if b = true then f env m else g env m
theorem ss_if {gc : FT} {f g : FS} {st1 st2 : List Stmt} (hc : PT X c (tT G E gc)) (ha : PSs X st1 (tS G E f)) (hb : PSs X st2 (tS G E g)) : PS X (.If c st1 st2 pos) (tS G E (mIfS gc f g)) := ps_imp (ps_if hc ha hb) fun D σ H ⟨W, env, M, s, p⟩ => by
  refine tT.bind s p fun k m W1 H1 f1 s1 p1 => ?_
  cases k with
  | true => rw [if_pos rfl] at p1 ⊢; exact ⟨W1, env, m, s1, p1⟩
  | false => rw [if_neg Bool.false_ne_true] at p1 ⊢; exact ⟨W1, env, m, s1, p1⟩
/-- x op= e of a name: as x = x op e -/
def mAug (i : Nat) (o : D → D → Mem → R D) (f : FE) : FS := fun env M => match env[i]? with
  | some (some x) => (f env M).bind fun d m => (o x d m).bind fun z m' => .ok (.nx (env.set i (some z))) m'
  | _ => .no
end
end Fn
set_option Elab.async false
set_option linter.all false
set_option maxRecDepth 100000
set_option maxHeartbeats 1000000
namespace Fn
open PySem PySem.Spec PyProof.Rows L2
/-- what is walked: its items; what must stay true of the memory meanwhile -/
structure Src where
  items : List D
  still : Mem → Prop
abbrev FI := Env → Mem → R Src
section
variable {X : Cx} {G : Gx} {cl : Nat → Addr} {E : XK} {W : Wd} {H : Hp} {M : Mem} {a b c : Expr} {fa fb fc : FE} {pos : Pos}
/-- what is locked stays -/
def Lk (H H' : Hp) : Prop := ∀ a od u, H a = some (.frz od u) → H' a = some (.frz od u)
structure SrcOk (G : Gx) (W0 : Wd) (H0 : Hp) (src : Src) (J : It) : Prop where
  item : ∀ W H M, Kp W0 H0 W H → Lk H0 H → MemOk G W H M → src.still M → ∀ (i : Nat) d, src.items[i]? = some d → J.go i H ∧ ∀ x H', J.yld i H x H' → Fut W H W H' ∧ MemOk G W H' M ∧ Rp G W H' d x
  stop : ∀ W H M, Kp W0 H0 W H → Lk H0 H → MemOk G W H M → src.still M → J.stop src.items.length H
def PI' (G : Gx) (Rr : It → Hp → Prop) : Src → Mem → Wd → Hp → Prop := fun src M W H => ∀ J, SrcOk G W H src J → src.still M → Rr J H
def tI (G : Gx) (E : XK) (f : FI) : TI := fun σ H Rr => ∃ W env M, Sta G W env M σ H ∧ PR G W H (PI' G Rr) E (f env M)
theorem pi_imp {tg it : Expr} {t t' : TI} (h : PI X tg it t) (i : ∀ σ H Q, t' σ H Q → t σ H Q) : PI X tg it t' := ⟨fun pins s σ H Q I q => h.run pins s σ H Q I (i σ H Q q)⟩
/-- a list or a tuple -/
def iSeq (K : PySem.W.Frag) (tl : TE) : TI := fun σ H R => tl σ H fun x H1 => ∃ a, x = .ref a ∧ (((∃ xs, SqL K H1 a xs) ∧ R (Itl K a) H1) ∨ ((∃ xs, SqT K H1 a xs) ∧ R (Itt K a) H1))
theorem pi_seq {tg l : Expr} {tl : TE} (hl : PE X l tl) : PI X tg l (iSeq X.K tl) := by
  refine ⟨fun pins s σ H R I h => ?_⟩
  refine thn (hl.run pins s σ H _ I h) fun v s1 ⟨x, H1, I1, r1, q1⟩ => ?_
  obtain ⟨a, e, q⟩ := q1
  subst e
  cases r1
  rcases q with ⟨⟨xs, hq⟩, q⟩ | ⟨⟨xs, hq⟩, q⟩
  · obtain ⟨its, rv, p, hz⟩ := I1.list hq
    refine wpAny_pyIter_list p.isList ?_
    refine ⟨s1.heap.objs.size, [s1.heap.objs.size], _, _, H1, rfl, I1.kept (t' := s1.toks) fun b o e => Heap.get?_push_of_some _ e, turn_list a _, ⟨_, Heap.get?_push_size _ rfl, rfl, rfl⟩, fun b hb => ?_, q⟩
    have e : b = s1.heap.objs.size := by simpa using hb
    subst e
    exact I1.fpOk (Nat.le_refl _) (I1.hok.fresh (Nat.le_refl _))
  · obtain ⟨its, rv, p, hz⟩ := I1.tuple hq
    refine wpAny_pyIter_tuple (show s1.heap.IsTuple a its.toArray from p) ?_
    refine ⟨s1.heap.objs.size, [s1.heap.objs.size], _, _, H1, rfl, I1.kept (t' := s1.toks) fun b o e => Heap.get?_push_of_some _ e, turn_tuple a _, ⟨_, Heap.get?_push_size _ rfl, rfl, rfl⟩, fun b hb => ?_, q⟩
    have e : b = s1.heap.objs.size := by simpa using hb
    subst e
    exact I1.fpOk (Nat.le_refl _) (I1.hok.fresh (Nat.le_refl _))
/-- the items of a list or tuple, walked -/
def srcOf (M : Mem) (d : D) : Option Src := match d with
  | .tup l => some ⟨l, fun _ => True⟩
  | .ct l => some ⟨l, fun _ => True⟩
  | .lst l => some ⟨l, fun _ => True⟩
  | .fz l => some ⟨l, fun _ => True⟩
  | .ref i => match M[i]? with
    | some (.lst l) => some ⟨l, fun M' => M'[i]? = some (.lst l)⟩
    | _ => none
  | _ => none
def iSq (f : FE) : FI := fun env M => (f env M).bind fun d m => match srcOf m d with
  | some s => .ok s m
  | none => .no
theorem src_itl {W0 : Wd} {H0 : Hp} {src : Src} {a : Addr} (h : ∀ W H M, Kp W0 H0 W H → MemOk G W H M → src.still M → ∃ us, SqL G.K H a us ∧ RpL G W H src.items us) : SrcOk G W0 H0 src (Itl G.K a) where
  item := fun W H M f _ m st i d e => by
    obtain ⟨us, h1, h2⟩ := h W H M f m st
    obtain ⟨u, e2, r2⟩ := h2.get e
    refine ⟨⟨us, u, h1, e2⟩, fun x H' y => ?_⟩
    obtain ⟨rfl, y⟩ := y
    have := y us h1
    rw [e2] at this; cases this
    exact ⟨Fut.rfl', m, r2⟩
  stop := fun W H M f _ m st => by
    obtain ⟨us, h1, h2⟩ := h W H M f m st
    exact ⟨us, h1, by rw [h2.len]; exact Nat.le_refl _⟩
theorem src_itt {W0 : Wd} {H0 : Hp} {src : Src} {a : Addr} (h : ∀ W H M, Kp W0 H0 W H → MemOk G W H M → src.still M → ∃ us, SqT G.K H a us ∧ RpL G W H src.items us) : SrcOk G W0 H0 src (Itt G.K a) where
  item := fun W H M f _ m st i d e => by
    obtain ⟨us, h1, h2⟩ := h W H M f m st
    obtain ⟨u, e2, r2⟩ := h2.get e
    refine ⟨⟨us, u, h1, e2⟩, fun x H' y => ?_⟩
    obtain ⟨rfl, y⟩ := y
    have := y us h1
    rw [e2] at this; cases this
    exact ⟨Fut.rfl', m, r2⟩
  stop := fun W H M f _ m st => by
    obtain ⟨us, h1, h2⟩ := h W H M f m st
    exact ⟨us, h1, by rw [h2.len]; exact Nat.le_refl _⟩
theorem srcOf_ok (m : MemOk G W H M) {d : D} {u : V} {src : Src} (r : Rp G W H d u) (e : srcOf M d = some src) :
    src.still M ∧ ∃ a, u = .ref a ∧ (((∃ xs, SqL G.K H a xs) ∧ SrcOk G W H src (Itl G.K a)) ∨ ((∃ xs, SqT G.K H a xs) ∧ SrcOk G W H src (Itt G.K a))) := by
  cases d with
  | tup l =>
    cases e
    obtain ⟨a, us, e1, s1, r1⟩ := id r
    refine ⟨trivial, a, e1, .inr ⟨⟨us, s1.sq⟩, src_itt fun W2 H2 M2 f2 m2 _ => ?_⟩⟩
    obtain ⟨a', us', e', s', r'⟩ := Rp.kp f2 _ _ r
    rw [e1] at e'; cases e'
    exact ⟨us', s'.sq, r'⟩
  | ct l =>
    cases e
    obtain ⟨a, us, e1, s1, r1⟩ := id r
    refine ⟨trivial, a, e1, .inr ⟨⟨us, s1.sq⟩, src_itt fun W2 H2 M2 f2 m2 _ => ?_⟩⟩
    obtain ⟨a', us', e', s', r'⟩ := Rp.kp f2 _ _ r
    rw [e1] at e'; cases e'
    exact ⟨us', s'.sq, r'⟩
  | lst l =>
    cases e
    obtain ⟨a, us, e1, s1, r1⟩ := id r
    refine ⟨trivial, a, e1, .inl ⟨⟨us, .inl (.inl s1.1)⟩, src_itl fun W2 H2 M2 f2 m2 _ => ?_⟩⟩
    obtain ⟨a', us', e', s', r'⟩ := Rp.kp f2 _ _ r
    rw [e1] at e'; cases e'
    exact ⟨us', .inl (.inl s'.1), r'⟩
  | fz l =>
    cases e
    obtain ⟨a, us, e1, s1, r1⟩ := lstOf_ok m (d := .fz l) r rfl
    refine ⟨trivial, a, e1, .inl ⟨⟨us, s1⟩, src_itl fun W2 H2 M2 f2 m2 _ => ?_⟩⟩
    obtain ⟨a', us', e', s', r'⟩ := lstOf_ok m2 (d := .fz l) (Rp.kp f2 _ _ r) rfl
    rw [e1] at e'; cases e'
    exact ⟨us', s', r'⟩
  | ref i =>
    simp only [srcOf] at e
    split at e
    · rename_i l hc
      cases e
      obtain ⟨a, e1, e2⟩ := id r
      obtain ⟨us, h1, h2⟩ := m.cell i _ a hc e1
      refine ⟨hc, a, e2, .inl ⟨⟨us, .inl (.inl h1)⟩, src_itl fun W2 H2 M2 f2 m2 st => ?_⟩⟩
      obtain ⟨us', h1', h2'⟩ := m2.cell i _ a st (f2.get _ _ e1)
      exact ⟨us', .inl (.inl h1'), h2'⟩
    · cases e
  | _ => cases e
theorem si_seq {tg : Expr} (ha : PE X a (tE ⟨X.K, cl⟩ E fa)) : PI X tg a (tI ⟨X.K, cl⟩ E (iSq fa)) := pi_imp (pi_seq ha) fun σ H Rr ⟨W, env, M, s, p⟩ => by
  refine tE.bind s p fun d m W1 H1 u f1 s1 r1 p1 => ?_
  split at p1
  · rename_i src e
    obtain ⟨st, a1, e1, q⟩ := srcOf_ok s1.mem r1 e
    have k := p1.here s1.mem
    refine ⟨a1, e1, ?_⟩
    rcases q with ⟨h1, h2⟩ | ⟨h1, h2⟩
    · exact .inl ⟨h1, k _ h2 st⟩
    · exact .inr ⟨h1, k _ h2 st⟩
  · exact p1.elim
/-- a text, sign by sign -/
def iStrM (f : FE) : FI := fun env M => (f env M).bind fun d m => match d with
  | .str x => .ok ⟨x.map fun c => .str [c], fun _ => True⟩ m
  | _ => .no
theorem si_str {tg : Expr} (ha : PE X a (tE G E fa)) : PI X tg a (tI G E (iStrM fa)) := pi_imp (pi_str ha) fun σ H Rr ⟨W, env, M, s, p⟩ => by
  refine tE.bind s p fun d m W1 H1 u f1 s1 r1 p1 => ?_
  cases d with
  | str x =>
    cases r1
    refine ⟨l2s x, rfl, p1.here s1.mem _ ⟨fun W2 H2 M2 f2 _ m2 _ i d e => ?_, fun W2 H2 M2 f2 _ m2 _ => ?_⟩ trivial⟩
    · rw [List.getElem?_map] at e
      cases q : x[i]? with
      | none => rw [q] at e; cases e
      | some c =>
        rw [q] at e; cases e
        have hi : i < x.length := (List.getElem?_eq_some_iff.mp q).1
        refine ⟨?_, fun y H' h => ?_⟩
        · show i < (l2s x).cps.size
          simp [l2s]; exact hi
        · obtain ⟨rfl, c', e1, e2⟩ := h
          have : c' = c := by
            simp [l2s] at e1
            rw [q] at e1; exact (Option.some.inj e1).symm
          subst this
          exact ⟨Fut.rfl', m2, e2⟩
    · show (l2s x).cps.size ≤ _
      simp [l2s]
  | _ => exact p1.elim
def rngItems (lo : Int) (n : Nat) : List D := (List.range n).map fun i : Nat => .int (lo + (i : Int))
theorem src_rng {W0 : Wd} {H0 : Hp} (lo : Int) (n : Nat) : SrcOk G W0 H0 ⟨rngItems lo n, fun _ => True⟩ (Itr lo n) where
  item := fun W H M f _ m _ i d e => by
    have e' : (rngItems lo n)[i]? = some d := e
    unfold rngItems at e'
    rw [List.getElem?_map] at e'
    cases q : (List.range n)[i]? with
    | none => rw [q] at e'; cases e'
    | some k =>
      rw [q] at e'; cases e'
      obtain ⟨h1, h2⟩ := List.getElem?_eq_some_iff.mp q
      simp at h1 h2
      subst h2
      refine ⟨h1, fun x H' y => ?_⟩
      obtain ⟨rfl, rfl⟩ := y
      exact ⟨Fut.rfl', m, rfl⟩
  stop := fun W H M f _ m _ => by
    show n ≤ (rngItems lo n).length
    simp [rngItems]
def rngOk (i : Int) : Bool := decide (-(2 ^ 62) ≤ i) && decide (i < 2 ^ 62)
theorem rngOk_ok {i : Int} (h : rngOk i = true) : -(2 ^ 62) ≤ i ∧ i < 2 ^ 62 := by
  unfold rngOk at h
  simp only [Bool.and_eq_true, decide_eq_true_eq] at h
  exact h
def iR1 (g : FA) : FI := fun env M => (g env M).bind fun ds m => match ds with
  | [.int j] => if rngOk j = true then .ok ⟨rngItems 0 j.toNat, fun _ => True⟩ m else .no
  | _ => .no
def iR2 (g : FA) : FI := fun env M => (g env M).bind fun ds m => match ds with
  | [.int i, .int j] => if rngOk i = true ∧ rngOk j = true then .ok ⟨rngItems i (j - i).toNat, fun _ => True⟩ m else .no
  | _ => .no
theorem si_range1 {tg : Expr} {g : FA} {p : Pos} (hg : Gl X "range") (hm : X.mg "range" = none) (ha : PA X [a] (tA G E g)) (hs : starEach [a] X.env = [(false, eval a X.env)] := by rfl) : PI X tg (.Call (.Name "range" p) [a] [] pos) (tI G E (iR1 g)) :=
  pi_imp (pi_range1 hg hm ha hs) fun σ H Rr ⟨W, env, M, s, p⟩ => by
    refine tA.bind s p fun ds m W1 H1 us f1 s1 r1 p1 => ?_
    split at p1
    · rename_i j
      split at p1
      · rename_i hj
        obtain ⟨u, e1, r2⟩ := rp_one r1
        subst e1; cases r2
        exact ⟨j, rfl, (rngOk_ok hj).1, (rngOk_ok hj).2, p1.here s1.mem _ (src_rng 0 j.toNat) trivial⟩
      · exact p1.elim
    · exact p1.elim
open Classical in
noncomputable def forL (P : Mem → Prop) (g : FG) (body : FS) : List D → Env → Mem → R Flow
  | [], env, M => if P M then .ok (.nx env) M else .no
  | d :: r, env, M => if P M then (g d env M).bind fun env1 m1 => (body env1 m1).bind fun fl m => match fl with
      | .nx env' => forL P g body r env' m
      | .ct env' => forL P g body r env' m
      | .bk env' => .ok (.nx env') m
      | .rt d => .ok (.rt d) m
    else .no
noncomputable def mFor (f : FI) (g : FG) (body : FS) : FS := fun env M => (f env M).bind fun src m => forL src.still g body src.items env m
theorem ss_for {tg it : Expr} {f : FI} {g : FG} {body : FS} {st : List Stmt} {sl : List Nat} (hp : PassesOwn (model X.prog X.w) X.A X.env X.xe) (hc : X.calm = true) (hi : PI X tg it (tI G E f)) (hg : PG X tg (tGt G E sl g)) (hb : PSs X st (tS G E body))
    (hs : ∀ x, foldedSetIterable it X.env x = pure x := by intro _; rfl) : PS X (.For tg it st [] pos) (tS G E (mFor f g body)) := ps_imp (ps_for hp hc hi hg hb hs) fun D σ H ⟨W, env, M, s, p⟩ => by
  refine ⟨W, env, M, s, PR.bind p fun src m W0 H0 f0 k0 p0 => fun J sj st0 => ?_⟩
  have s0 := s.fut f0 k0
  refine ⟨fun i n σ' H' => n + i = src.items.length ∧ ∃ W env M, Fut W0 H0 W H' ∧ Sta G W env M σ' H' ∧ PR G W H' (PFl G D) E (forL src.still g body (src.items.drop i) env M), ⟨src.items.length, rfl, W0, env, m, Fut.rfl', s0, p0⟩, ?_⟩
  rintro i n σ' H' ⟨hn, W1, env1, M1, f1, s1, p1⟩
  cases hd : src.items.drop i with
  | nil =>
    rw [hd] at p1
    unfold forL at p1
    split at p1
    · rename_i hP
      have hl : src.items.length ≤ i := List.drop_eq_nil_iff.mp hd
      have : i = src.items.length := by omega
      subst this
      exact .inl ⟨sj.stop W1 H' M1 (f1.kp k0) f1.lk s1.mem hP, p1.here s1.mem _ s1.env⟩
    · exact p1.elim
  | cons d r =>
    rw [hd] at p1
    unfold forL at p1
    split at p1
    · rename_i hP
      have hi' : src.items[i]? = some d := by
        have h0 : (src.items.drop i)[0]? = some d := by rw [hd]; rfl
        rw [List.getElem?_drop] at h0
        simpa using h0
      have hr : src.items.drop (i + 1) = r := by
        rw [← List.tail_drop, hd]; rfl
      have hlt : i < src.items.length := (List.getElem?_eq_some_iff.mp hi').1
      obtain ⟨go, yl⟩ := sj.item W1 H' M1 (f1.kp k0) f1.lk s1.mem hP i d hi'
      refine .inr ⟨go, fun σ2 H2 => ∃ W env M, Fut W0 H0 W H2 ∧ Sta G W env M σ2 H2 ∧ PR G W H2 (PFl G D) E (forL src.still g body r env M), fun σ2 H2 ⟨W, env, M, q1, q2, q3⟩ => ⟨n - 1, by omega, by omega, W, env, M, q1, q2, by rw [hr]; exact q3⟩, fun x H2 y => ?_⟩
      obtain ⟨f2, k2, rx⟩ := yl x H2 y
      have s2 := s1.fut f2 k2
      refine ⟨W1, env1, M1, d, s2, rx, PR.bind (PR.fut f2 p1) fun env3 m3 W3 H3 f3 k3 p3 => fun σ3 en3 _ => ?_⟩
      refine ⟨W3, env3, m3, ⟨k3, en3⟩, PR.bind p3 fun fl m4 W4 H4 f4 k4 p4 => ?_⟩
      have ff := f1.trans (f2.trans (f3.trans f4))
      cases fl with
      | nx env' => exact fun σ4 en => ⟨W4, env', m4, ff, ⟨k4, en⟩, p4⟩
      | ct env' => exact fun σ4 en => ⟨W4, env', m4, ff, ⟨k4, en⟩, p4⟩
      | bk env' => exact PR.here (E := E) k4 p4
      | rt d => exact PR.here (E := E) k4 p4
    · exact p1.elim
end
end Fn
set_option Elab.async false
set_option linter.all false
set_option maxRecDepth 100000
set_option maxHeartbeats 1000000
namespace Fn
open PySem PySem.Spec PyProof.Rows L2
section
variable {X : Cx} {G : Gx} {cl : Nat → Addr} {E : XK} {W : Wd} {H : Hp} {M : Mem} {a b c : Expr} {fa fb fc : FE} {pos : Pos}
def wipeE (env : Env) : List Nat → Env
  | [] => env
  | v :: vs => (wipeE env vs).set v none
theorem wipeE_ok {env : Env} {σ : L2.St} (h : EnvOk G W H env σ) : ∀ vs, EnvOk G W H (wipeE env vs) (wipe σ vs)
  | [] => h
  | v :: vs => by
    have ih := wipeE_ok h vs
    unfold wipeE wipe
    refine ⟨by simp [ih.1], fun j d e => ?_⟩
    by_cases hj : v = j
    · subst hj
      by_cases hl : v < (wipeE env vs).length
      · rw [List.getElem?_set_self hl] at e; cases e
      · rw [List.getElem?_eq_none (by simp; omega)] at e; cases e
    · rw [List.getElem?_set_ne hj] at e ⊢
      exact ih.2 j d e
/-- the block's tests -/
theorem wipe_wipe (σ : L2.St) (vs : List Nat) : wipe (wipe σ vs) vs = wipe σ vs := wipe_ext (wipe_length σ vs) fun j hj => wipe_get σ j vs hj
def tsYes : FT := fun _ M => .ok true M
open Classical in
noncomputable def compL (P : Mem → Prop) (g : FG) (t : FT) (f : FE) (env : Env) : List D → Mem → R (List D)
  | [], M => if P M then .ok [] M else .no
  | d :: r, M => if P M then (g d env M).bind fun env1 m1 => (t env1 m1).bind fun b m2 => if b = true then (f env1 m2).bind fun y m3 => (compL P g t f env r m3).bind fun ys m4 => .ok (y :: ys) m4 else compL P g t f env r m2
    else .no
/-- a hidden object is written -/
theorem Kp.hidden {D0 : Addr} {xs : List V} {o : HO} (hD : D0 ∈ W.hd) (hx : H D0 = some (.lst xs)) : Kp W H W (upd H D0 o) :=
  ⟨fun _ _ h => h, fun a o' e _ h2 => by rw [upd_ne (fun z => h2 (by rw [z]; exact hD))]; exact e,
   fun a o' e st => by rw [upd_ne fun z => by subst z; rw [hx] at e; cases e; exact st]; exact e, fun _ _ _ h1 h2 => ⟨h1, h2⟩⟩
theorem CellOk.kp {W' : Wd} {H' : Hp} (k : Kp W H W' H') {a : Addr} {c : Cell} (e : H' a = H a) (h : CellOk G W H a c) : CellOk G W' H' a c := by
  have pk : ∀ {κ κ' : Type} {f : κ → κ'} {l : List (κ × D)} {vs : List (κ' × V)}, RpK G W H f l vs → RpK G W' H' f l vs := fun h => Paired.imp (fun _ _ z => ⟨z.1, Rp.kp k _ _ z.2⟩) h
  cases c with
  | lst l => obtain ⟨vs, q, r⟩ := h; exact ⟨vs, by rw [e]; exact q, RpL.kp k _ _ r⟩
  | dk lk kvs => obtain ⟨vs, q, r⟩ := h; exact ⟨vs, by rw [e]; exact q, pk r⟩
  | dt lk kvs => obtain ⟨vs, q, r⟩ := h; exact ⟨vs, by rw [e]; exact q, pk r⟩
  | ins c0 fs => obtain ⟨dx, vs, q, r⟩ := h; exact ⟨dx, vs, by rw [e]; exact q, pk r⟩
theorem MemOk.hidden (m : MemOk G W H M) {D0 : Addr} {xs : List V} {o : HO} (hD : D0 ∈ W.hd) (hx : H D0 = some (.lst xs)) : MemOk G W (upd H D0 o) M where
  len := m.len
  nd := m.nd
  cell := fun i c a e1 e2 => (m.cell i c a e1 e2).kp (Kp.hidden hD hx) (upd_ne fun z => by subst z; exact m.apart _ (List.mem_of_getElem? e2) hD)
  apart := m.apart
  hid := fun b hb => by
    by_cases z : b = D0
    · subst z; exact ⟨_, upd_same⟩
    · obtain ⟨u, hu⟩ := m.hid b hb
      exact ⟨u, by rw [upd_ne z]; exact hu⟩
/-- D0 hidden, and no more -/
theorem Kp.hide {D0 : Addr} {o : HO} (hD : H D0 = none) : Kp W H ⟨W.as, D0 :: W.hd⟩ (upd H D0 o) :=
  ⟨fun _ _ h => h, fun a o' e _ _ => by rw [upd_ne (ne_of_none e hD)]; exact e, fun a o' e _ => by rw [upd_ne (ne_of_none e hD)]; exact e,
   fun a o' e h1 h2 => ⟨h1, fun z => by rcases List.mem_cons.mp z with z | z; · exact ne_of_none e hD z
                                        · exact h2 z⟩⟩
theorem MemOk.hide (m : MemOk G W H M) {D0 : Addr} {o : HO} (hD : H D0 = none) : MemOk G ⟨W.as, D0 :: W.hd⟩ (upd H D0 o) M where
  len := m.len
  nd := m.nd
  cell := fun i c a e1 e2 => by
    have k := m.cell i c a e1 e2
    obtain ⟨u, hu, _⟩ := k.there
    exact k.kp (Kp.hide hD) (upd_ne (ne_of_none hu hD))
  apart := fun a ha z => by
    rcases List.mem_cons.mp z with z | z
    · subst z; exact (m.fresh hD).1 ha
    · exact m.apart a ha z
  hid := fun b hb => by
    rcases List.mem_cons.mp hb with z | z
    · subst z; exact ⟨_, upd_same⟩
    · obtain ⟨u, hu⟩ := m.hid b z
      exact ⟨u, by rw [upd_ne (ne_of_none hu hD)]; exact hu⟩
theorem Kp.show {as hd : List Addr} {D0 : Addr} : Kp ⟨as, D0 :: hd⟩ H ⟨as, hd⟩ H :=
  ⟨fun _ _ h => h, fun _ _ e _ _ => e, fun _ _ e _ => e, fun _ _ _ h1 h2 => ⟨h1, fun z => h2 (List.mem_cons_of_mem _ z)⟩⟩
theorem MemOk.show {as hd : List Addr} {D0 : Addr} (m : MemOk G ⟨as, D0 :: hd⟩ H M) : MemOk G ⟨as, hd⟩ H M where
  len := m.len
  nd := m.nd
  cell := fun i c a e1 e2 => (m.cell i c a e1 e2).kp Kp.show rfl
  apart := fun a ha z => m.apart a ha (List.mem_cons_of_mem _ z)
  hid := fun b hb => m.hid b (List.mem_cons_of_mem _ hb)
theorem Kp.track {as hd : List Addr} {D0 : Addr} : Kp ⟨as, D0 :: hd⟩ H ⟨as ++ [D0], hd⟩ H :=
  ⟨fun i a h => by
    show (as ++ [D0])[i]? = some a
    rw [List.getElem?_append_left (List.getElem?_eq_some_iff.mp h).1]; exact h, fun _ _ e _ _ => e, fun _ _ e _ => e,
   fun a _ _ h1 h2 => ⟨fun z => by
    rcases List.mem_append.mp z with z | z
    · exact h1 z
    · exact h2 (by rw [List.mem_singleton] at z; rw [z]; exact List.mem_cons_self ..), fun z => h2 (List.mem_cons_of_mem _ z)⟩⟩
theorem MemOk.track {as hd : List Addr} {D0 : Addr} {us : List V} {ys : List D} (m : MemOk G ⟨as, D0 :: hd⟩ H M) (hx : H D0 = some (.lst us)) (hn : D0 ∉ hd) (r : RpL G ⟨as, D0 :: hd⟩ H ys us) : MemOk G ⟨as ++ [D0], hd⟩ H (M ++ [.lst ys]) where
  len := by
    have := m.len
    simp at this ⊢
    omega
  nd := by
    show (as ++ [D0]).Nodup
    rw [List.nodup_append]
    refine ⟨m.nd, by simp, fun a ha b hb => ?_⟩
    rw [List.mem_singleton] at hb; subst hb
    intro z; subst z
    exact m.apart a ha (List.mem_cons_self ..)
  cell := fun i c' a e1 e2 => by
    have ml : as.length = M.length := m.len
    have e2' : (as ++ [D0])[i]? = some a := e2
    by_cases hi : i < M.length
    · rw [List.getElem?_append_left hi] at e1
      rw [List.getElem?_append_left (by omega)] at e2'
      exact (m.cell i c' a e1 e2').kp Kp.track rfl
    · rw [List.getElem?_append_right (by omega)] at e1 e2'
      have e3 : i - M.length = 0 := by
        have := (List.getElem?_eq_some_iff.mp e1).1
        simp at this; omega
      rw [e3] at e1
      rw [show i - as.length = 0 by omega] at e2'
      simp at e1 e2'
      subst e1 e2'
      exact ⟨us, hx, RpL.kp Kp.track _ _ r⟩
  apart := fun a ha z => by
    rcases List.mem_append.mp ha with q | q
    · exact m.apart a q (List.mem_cons_of_mem _ z)
    · rw [List.mem_singleton] at q; subst q
      exact hn z
  hid := fun b hb => m.hid b (List.mem_cons_of_mem _ hb)
def R.nox {α : Type} : R α → R α
  | .ok a m => .ok a m
  | _ => .no
@[simp] theorem R.nox_ok {α : Type} (a : α) (m : Mem) : (R.ok a m).nox = .ok a m := rfl
theorem R.bind_eq {α β : Type} {r : R α} {k : α → Mem → R β} {b : β} {m : Mem} (h : r.bind k = .ok b m) : ∃ a m1, r = .ok a m1 ∧ k a m1 = .ok b m := by
  cases r with
  | ok a m1 => exact ⟨a, m1, rfl, h⟩
  | ex c fs m1 => cases h
  | no => cases h
/-- the hidden list becomes the made one -/
theorem mkL_shown {W0 : Wd} {H0 : Hp} {as : List Addr} {D0 : Addr} {us : List V} {c : Bool} {ys : List D} {Q : VK} (f : Fut W0 H0 ⟨as, W0.hd⟩ H) (h0 : H0 D0 = none) (n0 : D0 ∉ W0.as ∧ D0 ∉ W0.hd) (m : MemOk G ⟨as, D0 :: W0.hd⟩ H M) (hx : H D0 = some (.lst us)) (r : RpL G ⟨as, D0 :: W0.hd⟩ H ys us) (p : PR G W0 H0 (PV G Q) E (mkL c ys M)) : Q (.ref D0) H := by
  have nas : D0 ∉ as := fun z => m.apart D0 z (List.mem_cons_self ..)
  unfold mkL at p
  cases c with
  | false =>
    rw [if_neg Bool.false_ne_true] at p
    exact p ⟨as, W0.hd⟩ H f m.show _ ⟨D0, us, rfl, ⟨hx, nas, n0.2⟩, RpL.kp Kp.show _ _ r⟩
  | true =>
    rw [if_pos rfl] at p
    refine p ⟨as ++ [D0], W0.hd⟩ H ⟨?_, rfl, f.keep, f.lk⟩ (m.track hx n0.2 r) _ ⟨D0, ?_, rfl⟩
    · obtain ⟨nw, e, q⟩ := f.ext
      have e' : as = W0.as ++ nw := e
      refine ⟨nw ++ [D0], by show as ++ [D0] = _; rw [e', List.append_assoc], fun a ha => ?_⟩
      rcases List.mem_append.mp ha with z | z
      · exact q a z
      · rw [List.mem_singleton] at z; subst z
        exact ⟨h0, n0.1⟩
    · have ml : as.length = M.length := m.len
      show (as ++ [D0])[M.length]? = some D0
      rw [← ml]; simp
noncomputable def mLc (c : Bool) (vs : List Nat) (fi : FI) (g : FG) (t : FT) (f : FE) : FE := fun env M => (fi env M).bind fun src m => if src.items.length < 16777216 then (compL src.still g t f (wipeE env vs) src.items m).nox.bind fun ys m' => mkL c ys m' else .no
theorem PR.of_ok {α : Type} {K : α → Mem → Wd → Hp → Prop} {r : R α} {x : α} {m : Mem} (e : r = .ok x m) (h : ∀ W' H', Fut W H W' H' → MemOk G W' H' m → K x m W' H') : PR G W H K E r := by
  subst e; exact h
theorem tLc_of {E' : XK} {c : Bool} {vs : List Nat} {fi : FI} {g : FG} {t : FT} {f : FE} (σ : L2.St) (H : Hp) (Q : VK) (h : tE G E (mLc c vs fi g t f) σ H Q) : tLc (tI G E fi) (tGt G E' vs g) (tT G E' t) (tE G E' f) vs σ H Q := by
  obtain ⟨W, env, M, s, p⟩ := h
  refine ⟨W, env, M, s, PR.bind p fun src m W0 H0 f0 k0 p0 => fun J sj st0 => fun D0 hD0 => ?_⟩
  have s0 := s.fut f0 k0
  split at p0
  · rename_i hz
    obtain ⟨ys, m', hrun⟩ : ∃ ys m', compL src.still g t f (wipeE env vs) src.items m = .ok ys m' := by
      cases hc : compL src.still g t f (wipeE env vs) src.items m with
      | ok ys m' => exact ⟨ys, m', rfl⟩
      | ex c fs m' => rw [hc] at p0; exact p0.elim
      | no => rw [hc] at p0; exact p0.elim
    rw [hrun] at p0
    have q0 : PR G W0 H0 (PV G Q) E (mkL c ys m') := p0
    have n0 := k0.fresh hD0
    refine ⟨fun i n H' => n + i = src.items.length ∧ ∃ as M done rest acc, compL src.still g t f (wipeE env vs) (src.items.drop i) M = .ok rest m' ∧ done ++ rest = ys ∧ done.length ≤ i ∧ Fut W0 H0 ⟨as, W0.hd⟩ H' ∧ Kp W0 H0 ⟨as, D0 :: W0.hd⟩ H' ∧ MemOk G ⟨as, D0 :: W0.hd⟩ H' M ∧ H' D0 = some (.lst acc) ∧ RpL G ⟨as, D0 :: W0.hd⟩ H' done acc, ⟨src.items.length, rfl, W0.as, m, [], ys, [], hrun, rfl, Nat.le_refl _, ⟨⟨[], by simp, by simp⟩, rfl, fun a o e _ => by rw [upd_ne (ne_of_none e hD0)]; exact e, fun a od u e => by rw [upd_ne (ne_of_none e hD0)]; exact e⟩, Kp.hide hD0, k0.hide hD0, upd_same, rfl⟩, ?_⟩
    rintro i n H1 ⟨hn, as, M1, done, rest, acc, h1, h2, h3, h4, h4k, h5, h6, h7⟩
    cases hd : src.items.drop i with
    | nil =>
      rw [hd] at h1
      unfold compL at h1
      split at h1
      · rename_i hP
        cases h1
        rw [List.append_nil] at h2
        subst h2
        have hl : src.items.length ≤ i := List.drop_eq_nil_iff.mp hd
        have : i = src.items.length := by omega
        subst this
        exact .inl ⟨sj.stop _ H1 _ h4k h4.lk h5 hP, mkL_shown h4 hD0 n0 h5 h6 h7 q0⟩
      · cases h1
    | cons d r =>
      rw [hd] at h1
      unfold compL at h1
      split at h1
      · rename_i hP
        have hi' : src.items[i]? = some d := by
          have h0 : (src.items.drop i)[0]? = some d := by rw [hd]; rfl
          rw [List.getElem?_drop] at h0
          simpa using h0
        have hr : src.items.drop (i + 1) = r := by
          rw [← List.tail_drop, hd]; rfl
        have hlt : i < src.items.length := (List.getElem?_eq_some_iff.mp hi').1
        obtain ⟨go, yl⟩ := sj.item _ H1 _ h4k h4.lk h5 hP i d hi'
        obtain ⟨env1, m1, g1, h1⟩ := R.bind_eq h1
        obtain ⟨b, m2, g2, h1⟩ := R.bind_eq h1
        refine .inr ⟨go, fun H' => ∃ as M done rest acc, compL src.still g t f (wipeE env vs) r M = .ok rest m' ∧ done ++ rest = ys ∧ done.length ≤ i + 1 ∧ Fut W0 H0 ⟨as, W0.hd⟩ H' ∧ Kp W0 H0 ⟨as, D0 :: W0.hd⟩ H' ∧ MemOk G ⟨as, D0 :: W0.hd⟩ H' M ∧ H' D0 = some (.lst acc) ∧ RpL G ⟨as, D0 :: W0.hd⟩ H' done acc, fun H' ⟨as, M, done, rest, acc, k⟩ => ⟨n - 1, by omega, by omega, as, M, done, rest, acc, by rw [hr]; exact k⟩, fun x H2 y => ?_⟩
        obtain ⟨f2, k2, rx⟩ := yl x H2 y
        have en2 : EnvOk G ⟨as, D0 :: W0.hd⟩ H2 env σ := s0.env.kp (h4k.trans (f2.kp h5))
        refine ⟨_, wipeE env vs, M1, d, ⟨k2, wipeE_ok en2 vs⟩, rx, PR.of_ok g1 fun W3 H3 f3 k3 => fun σ3 en3 ew3 => ⟨by rw [ew3]; exact wipe_wipe σ vs, W3, env1, m1, ⟨k3, en3⟩, PR.of_ok g2 fun W4 H4 f4 k4 => ?_⟩⟩
        have f24 := f2.trans (f3.trans f4)
        have a4 := h5.rpL f24 h7
        have hD4 : H4 D0 = some (.lst acc) := f24.keep _ _ h6 fun z => h5.apart D0 z (List.mem_cons_self ..)
        have ft : ∀ {as5 : List Addr} {H5 : Hp}, Fut ⟨as, D0 :: W0.hd⟩ H1 ⟨as5, D0 :: W0.hd⟩ H5 → Fut W0 H0 ⟨as5, W0.hd⟩ H5 := fun f5 => h4.trans ⟨f5.ext, rfl, f5.keep, f5.lk⟩
        cases b with
        | false =>
          rw [if_neg Bool.false_ne_true] at h1
          simp only [PB, Bool.false_eq_true, if_false]
          obtain ⟨as4, hd4⟩ := W4
          obtain rfl : hd4 = D0 :: W0.hd := f24.hd
          exact ⟨as4, m2, done, rest, acc, h1, h2, by omega, ft f24, h4k.trans (f24.kp h5), k4, hD4, a4⟩
        | true =>
          rw [if_pos rfl] at h1
          obtain ⟨y, m3, g3, h1⟩ := R.bind_eq h1
          obtain ⟨ys', m4, g4, h1⟩ := R.bind_eq h1
          cases h1
          simp only [PB, if_true]
          refine ⟨W4, env1, m2, ⟨k4, en3.fut k3 f4⟩, PR.of_ok g3 fun W5 H5 f5 k5 => fun u ru => ?_⟩
          have f25 := f24.trans f5
          obtain ⟨as5, hd5⟩ := W5
          obtain rfl : hd5 = D0 :: W0.hd := f25.hd
          have hD5 : H5 D0 = some (.lst acc) := f25.keep _ _ h6 fun z => h5.apart D0 z (List.mem_cons_self ..)
          have a5 := h5.rpL f25 h7
          have hid : D0 ∈ (⟨as5, D0 :: W0.hd⟩ : Wd).hd := List.mem_cons_self ..
          have kh : Kp ⟨as5, D0 :: W0.hd⟩ H5 ⟨as5, D0 :: W0.hd⟩ (upd H5 D0 (.lst (acc ++ [u]))) := Kp.hidden hid hD5
          refine ⟨acc, hD5, by rw [h7.len, line_eq]; omega, as5, m3, done ++ [y], ys', acc ++ [u], g4, by rw [List.append_assoc]; exact h2, by simp; omega, ?_, h4k.trans ((f25.kp h5).trans kh), k5.hidden hid hD5, upd_same, RpL.kp kh _ _ (a5.append ⟨u, [], rfl, ru, rfl⟩)⟩
          have f5' := ft f25
          exact ⟨f5'.ext, rfl, fun a o e ha => by rw [upd_ne (ne_of_none e hD0)]; exact f5'.keep a o e ha, fun a od u e => by rw [upd_ne (ne_of_none e hD0)]; exact f5'.lk a od u e⟩
      · cases h1
  · exact p0.elim
theorem sn_lc (c : Bool) {elt tg iter : Expr} {ifs : List Expr} {scope : Scope} {own : List (Str × Nat)} {fi : FI} {g : FG} {t : FT} {f : FE} (hc : X.calm = true) (hN : X.N.Nodup) (hi : PI X tg iter (tI G E fi)) (ok : BlkOk X.N X.env.scope scope own)
    (hg : ∀ (s : Shared) (H : Hp) (C : Addr) (cl : List (Str × Addr)) (fp : List Addr), PG (X.blk s H scope (compEnvC scope cl C X.env) fp) tg (tGt G (fun _ _ _ => False) (own.map (·.2)) g)) (ht : ∀ (s : Shared) (H : Hp) (C : Addr) (cl : List (Str × Addr)) (fp : List Addr), PTs (X.blk s H scope (compEnvC scope cl C X.env) fp) ifs (tT G (fun _ _ _ => False) t))
    (he : ∀ (s : Shared) (H : Hp) (C : Addr) (cl : List (Str × Addr)) (fp : List Addr), PE (X.blk s H scope (compEnvC scope cl C X.env) fp) elt (tE G (fun _ _ _ => False) f)) (hs : ∀ x, foldedSetIterable iter X.env x = pure x := by intro _; rfl) :
    PE X (.ListComp elt [⟨tg, iter, ifs, 0⟩] scope pos) (tE G E (mLc c (own.map (·.2)) fi g t f)) := pe_imp (pe_lc hc hN hi ok hg ht he hs) tLc_of
theorem sts_nil : PTs X [] (tT G E tsYes) := ⟨fun pins s σ H Q I h => pts_nil.run pins s σ H Q I (by obtain ⟨W, env, M, st, p⟩ := h; exact p.here st.mem)⟩
theorem sts_one {t : FT} (h : PT X c (tT G E t)) : PTs X [c] (tT G E t) := pts_one h
end
end Fn
set_option Elab.async false
set_option linter.all false
set_option maxRecDepth 100000
set_option maxHeartbeats 1000000
namespace Fn
open PySem PySem.Spec PyProof.Rows L2
abbrev FD := List D → Mem → R D
section
variable {X : Cx} {G : Gx} {cl : Nat → Addr} {E : XK} {W : Wd} {H : Hp} {M : Mem} {a b c : Expr} {fa fb fc : FE} {pos : Pos}
def spOf (G : Gx) (n : Nat) (g : FD) : Sp := fun vs H Q E => ∃ W M ds, MemOk G W H M ∧ RpL G W H ds vs ∧ ds.length = n ∧ PR G W H (PV G Q) E (g ds M)
theorem passA {X : Cx} {E : XK} : Passes CX0 X E := fun _ _ _ _ _ _ _ h => h.elim
/-- f(..) with the written arguments and the defaults dd -/
def mFun (n : Nat) (g : FD) (dd : List D) (fa : FA) : FE := fun env M => (fa env M).bind fun ds m => if (ds ++ dd).length = n then g (ds ++ dd) m else .no
def Closed (dd : List D) (dvs : List V) : Prop := ∀ (G : Gx) (W : Wd) (H : Hp), RpL G W H dd dvs
theorem closed_nil : Closed [] [] := fun _ _ _ => rfl
section
variable {CX : CXT} {k n : Nat} {f C : Addr} {fd : FuncData} {ps : List Str} {g : FD} {dvs : List V} {dd : List D} {ds : List Value} {x m : Str} {p apos : Pos} {e o : Expr} {es : List Expr} {ga : FA}
theorem fun_reads {E' : XK} (hc : Closed dd dvs) (σ : L2.St) (H : Hp) (Q : VK) (h : tE G E (mFun n g dd ga) σ H Q) : tCall (spOf G n g) dvs E (tA G E ga) σ H Q := by
  obtain ⟨W, env, M, s, p⟩ := h
  refine tA.bind s p fun ds m2 W2 H2 us f2 s2 r2 p2 => ?_
  split at p2
  · rename_i hl
    exact ⟨W2, m2, ds ++ dd, s2.mem, r2.append (hc G W2 H2), hl, p2⟩
  · exact p2.elim
theorem sn_call (F : FnOk X.prog X.w X.K X.mg X.base CX k f fd ps (spOf ⟨X.K, cl⟩ n g)) (hr : Room k X.A) (hg : Gl X x) (hm : X.mg x = some (.ref f)) (hk : PySem.W.keepIn X.K (.ref f) = true) (hb : Binds X.K fd ps ds) (hd : Vals dvs ds) (hc : Closed dd dvs) (hx : Passes CX X E)
    (ha : PA X (e :: es) (tA ⟨X.K, cl⟩ E ga)) (hdb : (x == ("__debug__" : Str)) = false := by decide) (he : starEach (e :: es) X.env = (false, eval e X.env) :: starEach es X.env := by rfl) (hpl : (backTo pos (starEach es X.env)).any (·.1) = false := by rfl) :
    PE X (.Call (.Name x p) (e :: es) [] pos) (tE ⟨X.K, cl⟩ E (mFun n g dd ga)) := pe_imp (pe_call F hr hg hm hk hb hd hx ha hdb he hpl) (fun_reads (E' := E) hc)
end
def envStart (N : Nat) (ds : List D) : Env := ds.map some ++ List.replicate (N - ds.length) none
/-- rb, a body's run, does what rg tells -/
def Ref (M : Mem) (rg : R D) (rb : R Flow) : Prop := ∀ (G : Gx) (W : Wd) (H : Hp) (Q : VK) (E : XK), MemOk G W H M → PR G W H (PV G Q) E rg → PR G W H (PFl G { nx := fun _ H' => Q .non H', rt := Q }) E rb
theorem Ref.no {M : Mem} {rb : R Flow} : Ref M .no rb := fun _ _ _ _ _ _ h => h.elim
theorem Ref.ret {M m : Mem} {d : D} : Ref M (.ok d m) (.ok (.rt d) m) := fun _ _ _ _ _ _ h => h
theorem Ref.nx {M m : Mem} {env : Env} : Ref M (.ok .non m) (.ok (.nx env) m) := fun _ _ _ _ _ _ h => fun W' H' f m' σ' _ => h W' H' f m' .non rfl
theorem Ref.ex {M m : Mem} {c : Nat} {fs : List (Str × D)} : Ref M (.ex c fs m) (.ex c fs m) := fun _ _ _ _ _ _ h => h
theorem Ref.of {M : Mem} {rg : R D} {rb rb' : R Flow} (e : rb = rb') (h : Ref M rg rb') : Ref M rg rb := by rw [e]; exact h
theorem envStart_ok {N : List Str} {ds : List D} {vs : List V} (r : RpL G W H ds vs) : EnvOk G W H (envStart N.length ds) (L2.start N vs) := by
  unfold envStart L2.start
  rw [r.len]
  refine ⟨by simp [r.len], fun i d e => ?_⟩
  by_cases hi : i < ds.length
  · rw [List.getElem?_append_left (by simpa using hi), List.getElem?_map] at e
    cases q : ds[i]? with
    | none => rw [q] at e; cases e
    | some d' =>
      rw [q] at e; cases e
      obtain ⟨u, h1, h2⟩ := r.get q
      refine ⟨u, ?_, h2⟩
      rw [List.getElem?_append_left (by simp [r.len]; exact hi), List.getElem?_map, h1]
      rfl
  · rw [List.getElem?_append_right (by simp; omega), List.getElem?_replicate] at e
    split at e <;> cases e
/-- a def's model: its body's run -/
def runB (B : FS) (N : Nat) : FD := fun ds M => match B (envStart N ds) M with
  | .ok (.rt d) m => .ok d m
  | .ok (.nx _) m => .ok .non m
  | .ok _ _ => .no
  | .ex c fs m => .ex c fs m
  | .no => .no
theorem ref_run (B : FS) (N : Nat) (ds : List D) (M : Mem) : Ref M (runB B N ds M) (B (envStart N ds) M) := by
  unfold runB
  split
  · rename_i e; exact Ref.of e Ref.ret
  · rename_i e; exact Ref.of e Ref.nx
  · exact Ref.no
  · rename_i e; exact Ref.of e Ref.ex
  · exact Ref.no
mutual
def bdD (n : Nat) : D → Bool
  | .ref i => decide (i < n)
  | .tup l => bdL n l
  | .ct l => bdL n l
  | .lst l => bdL n l
  | .fz l => bdL n l
  | _ => true
def bdL (n : Nat) : List D → Bool
  | [] => true
  | d :: r => bdD n d && bdL n r
end
def bdC (n : Nat) : Cell → Bool
  | .lst l => bdL n l
  | .dk _ kvs => bdL n (kvs.map (·.2))
  | .dt _ kvs => bdL n (kvs.map (·.2))
  | .ins _ fs => bdL n (fs.map (·.2))
mutual
def frzD (m : Mem) (n : Nat) : D → D
  | .ref i => if i < n then .ref i else match m[i]? with
    | some (.lst l) => .lst l
    | _ => .ref i
  | .tup l => .tup (frzL m n l)
  | .ct l => .ct (frzL m n l)
  | .lst l => .lst (frzL m n l)
  | .fz l => .fz (frzL m n l)
  | d => d
def frzL (m : Mem) (n : Nat) : List D → List D
  | [] => []
  | d :: r => frzD m n d :: frzL m n r
end
/-- may the memory be cut to its first cells -/
def cutOk (M m : Mem) (d : D) : Prop := M.length ≤ m.length ∧ bdD M.length d = true ∧ ∀ (j : Nat) (c : Cell), j < M.length → m[j]? = some c → M[j]? = some c ∨ bdC M.length c = true
open Classical in
noncomputable def gcR (M : Mem) (r : R D) : R D := match r with
  | .ok d m => if cutOk M m (frzD m M.length d) then .ok (frzD m M.length d) (m.take M.length) else .ok d m
  | r => r
noncomputable def gcB (B : FS) (N : Nat) : FD := fun ds M => gcR M (runB B N ds M)
mutual
theorem Rp.bd {n : Nat} (hn : n = W.as.length) : ∀ (d : D) (u : V), Rp G W H d u → bdD n d = true
  | .non, u, h => rfl
  | .bl b, u, h => rfl
  | .int i, u, h => rfl
  | .str x, u, h => rfl
  | .tup l, u, h => by obtain ⟨a, us, e, s, r⟩ := h; exact RpL.bd hn l us r
  | .ct l, u, h => by obtain ⟨a, us, e, s, r⟩ := h; exact RpL.bd hn l us r
  | .lst l, u, h => by obtain ⟨a, us, e, s, r⟩ := h; exact RpL.bd hn l us r
  | .fz l, u, h => by obtain ⟨a, us, e, s, r⟩ := h; exact RpL.bd hn l us r
  | .ref i, u, h => by
    obtain ⟨a, e, r⟩ := h
    simp only [bdD, decide_eq_true_eq, hn]
    exact (List.getElem?_eq_some_iff.mp e).1
theorem RpL.bd {n : Nat} (hn : n = W.as.length) : ∀ (l : List D) (us : List V), RpL G W H l us → bdL n l = true
  | [], us, h => rfl
  | d :: r, us, h => by
    obtain ⟨u, us', e, h1, h2⟩ := h
    simp only [bdL, Rp.bd hn d u h1, RpL.bd hn r us' h2, Bool.and_self]
end
/-- the world cut to its first cells -/
def cutW (W : Wd) (n : Nat) : Wd := ⟨W.as.take n, W.hd⟩
theorem mem_take {α : Type} {l : List α} {n : Nat} {a : α} (h : a ∈ l.take n) : a ∈ l := List.mem_of_mem_take h
mutual
theorem Rp.trim {n : Nat} (hn : n ≤ W.as.length) : ∀ (d : D) (u : V), bdD n d = true → Rp G W H d u → Rp G (cutW W n) H d u
  | .non, u, b, h => h
  | .bl _, u, b, h => h
  | .int i, u, b, h => h
  | .str x, u, b, h => h
  | .tup l, u, b, h => by obtain ⟨a, us, e, s, r⟩ := h; exact ⟨a, us, e, s, RpL.trim hn l us b r⟩
  | .ct l, u, b, h => by obtain ⟨a, us, e, s, r⟩ := h; exact ⟨a, us, e, s, RpL.trim hn l us b r⟩
  | .lst l, u, b, h => by obtain ⟨a, us, e, s, r⟩ := h; exact ⟨a, us, e, ⟨s.1, fun z => s.2.1 (mem_take z), s.2.2⟩, RpL.trim hn l us b r⟩
  | .fz l, u, b, h => by obtain ⟨a, us, e, s, r⟩ := h; exact ⟨a, us, e, s, RpL.trim hn l us b r⟩
  | .ref i, u, b, h => by
    obtain ⟨a, e, r⟩ := h
    refine ⟨a, ?_, r⟩
    simp only [bdD, decide_eq_true_eq] at b
    show (W.as.take n)[i]? = some a
    rw [List.getElem?_take, if_pos b]
    exact e
theorem RpL.trim {n : Nat} (hn : n ≤ W.as.length) : ∀ (l : List D) (us : List V), bdL n l = true → RpL G W H l us → RpL G (cutW W n) H l us
  | [], us, b, h => h
  | d :: r, us, b, h => by
    obtain ⟨u, us', e, h1, h2⟩ := h
    simp only [bdL, Bool.and_eq_true] at b
    exact ⟨u, us', e, Rp.trim hn d u b.1 h1, RpL.trim hn r us' b.2 h2⟩
end
mutual
theorem Rp.frz {m : Mem} {n : Nat} (k : MemOk G W H m) (hn : n ≤ W.as.length) : ∀ (d : D) (u : V), bdD n (frzD m n d) = true → Rp G W H d u → Rp G (cutW W n) H (frzD m n d) u
  | .non, u, b, h => h
  | .bl _, u, b, h => h
  | .int i, u, b, h => h
  | .str x, u, b, h => h
  | .tup l, u, b, h => by obtain ⟨a, us, e, s, r⟩ := h; exact ⟨a, us, e, s.imp id fun z => ⟨by rw [z.1]; rfl, z.2⟩, RpL.frz k hn l us b r⟩
  | .ct l, u, b, h => by obtain ⟨a, us, e, s, r⟩ := h; exact ⟨a, us, e, s, RpL.frz k hn l us b r⟩
  | .lst l, u, b, h => by obtain ⟨a, us, e, s, r⟩ := h; exact ⟨a, us, e, ⟨s.1, fun z => s.2.1 (mem_take z), s.2.2⟩, RpL.frz k hn l us b r⟩
  | .fz l, u, b, h => by obtain ⟨a, us, e, s, r⟩ := h; exact ⟨a, us, e, s, RpL.frz k hn l us b r⟩
  | .ref i, u, b, h => by
    simp only [frzD] at b ⊢
    split at b
    · rename_i hi
      rw [if_pos hi]
      exact Rp.trim hn (.ref i) u (by simp only [bdD, decide_eq_true_eq]; exact hi) h
    · rename_i hi
      rw [if_neg hi]
      split at b
      · rename_i l hc
        obtain ⟨a, e, rfl⟩ := h
        obtain ⟨us, h1, h2⟩ := k.cell i _ a hc e
        refine ⟨a, us, rfl, ⟨h1, fun z => ?_, k.apart a (List.mem_of_getElem? e)⟩, RpL.trim hn l us b h2⟩
        obtain ⟨j, hj⟩ := List.getElem?_of_mem z
        have hj' : (W.as.take n)[j]? = some a := hj
        rw [List.getElem?_take] at hj'
        split at hj'
        · rename_i hjn
          have := (List.getElem?_inj (List.getElem?_eq_some_iff.mp hj').1 k.nd).mp (hj'.trans e.symm)
          omega
        · cases hj'
      · simp only [bdD, decide_eq_true_eq] at b
        exact absurd b hi
theorem RpL.frz {m : Mem} {n : Nat} (k : MemOk G W H m) (hn : n ≤ W.as.length) : ∀ (l : List D) (us : List V), bdL n (frzL m n l) = true → RpL G W H l us → RpL G (cutW W n) H (frzL m n l) us
  | [], us, b, h => h
  | d :: r, us, b, h => by
    obtain ⟨u, us', e, h1, h2⟩ := h
    simp only [frzL, bdL, Bool.and_eq_true] at b
    exact ⟨u, us', e, Rp.frz k hn d u b.1 h1, RpL.frz k hn r us' b.2 h2⟩
end
theorem rpk_vals {κ κ' : Type} {f : κ → κ'} : ∀ {l : List (κ × D)} {vs : List (κ' × V)}, RpK G W H f l vs → RpL G W H (l.map (·.2)) (vs.map (·.2))
  | _, _, .nil => (rfl : ([] : List V) = [])
  | _, _, .cons h t => ⟨_, _, rfl, h.2, rpk_vals t⟩
theorem CellOk.bd {n : Nat} (hn : n = W.as.length) {a : Addr} {c : Cell} (h : CellOk G W H a c) : bdC n c = true := by
  cases c with
  | lst l => obtain ⟨us, _, r⟩ := h; exact RpL.bd hn l us r
  | dk lk kvs => obtain ⟨us, _, r⟩ := h; exact RpL.bd hn _ _ (rpk_vals r)
  | dt lk kvs => obtain ⟨us, _, r⟩ := h; exact RpL.bd hn _ _ (rpk_vals r)
  | ins c0 fs => obtain ⟨dx, us, _, r⟩ := h; exact RpL.bd hn _ _ (rpk_vals r)
theorem rpk_cut {n : Nat} (hn : n ≤ W.as.length) {κ κ' : Type} {f : κ → κ'} : ∀ {l : List (κ × D)} {vs : List (κ' × V)}, bdL n (l.map (·.2)) = true → RpK G W H f l vs → RpK G (cutW W n) H f l vs
  | _, _, _, .nil => .nil
  | _, _, b, .cons h t => by
    simp only [List.map_cons, bdL, Bool.and_eq_true] at b
    exact .cons ⟨h.1, Rp.trim hn _ _ b.1 h.2⟩ (rpk_cut hn b.2 t)
theorem CellOk.trim {n : Nat} (hn : n ≤ W.as.length) {a : Addr} {c : Cell} (b : bdC n c = true) (h : CellOk G W H a c) : CellOk G (cutW W n) H a c := by
  cases c with
  | lst l => obtain ⟨us, q, r⟩ := h; exact ⟨us, q, RpL.trim hn l us b r⟩
  | dk lk kvs => obtain ⟨us, q, r⟩ := h; exact ⟨us, q, rpk_cut hn b r⟩
  | dt lk kvs => obtain ⟨us, q, r⟩ := h; exact ⟨us, q, rpk_cut hn b r⟩
  | ins c0 fs => obtain ⟨dx, us, q, r⟩ := h; exact ⟨dx, us, q, rpk_cut hn b r⟩
theorem MemOk.bd (k : MemOk G W H M) {j : Nat} {c : Cell} (h : M[j]? = some c) : bdC M.length c = true := by
  have hl : j < W.as.length := by rw [k.len]; exact (List.getElem?_eq_some_iff.mp h).1
  exact (k.cell j c _ h (List.getElem?_eq_getElem hl)).bd k.len.symm
theorem MemOk.trim {m : Mem} (k0 : MemOk G W H M) {W' : Wd} {H' : Hp} (k : MemOk G W' H' m) (hl : M.length ≤ m.length) (hb : ∀ (j : Nat) (c : Cell), j < M.length → m[j]? = some c → M[j]? = some c ∨ bdC M.length c = true) : MemOk G (cutW W' M.length) H' (m.take M.length) where
  len := by
    show (W'.as.take M.length).length = _
    rw [List.length_take, List.length_take, k.len]
  nd := k.nd.sublist (List.take_sublist ..)
  cell := fun i c a e1 e2 => by
    have e2' : (W'.as.take M.length)[i]? = some a := e2
    rw [List.getElem?_take] at e1 e2'
    split at e1
    · rename_i hi
      rw [if_pos hi] at e2'
      have hn : M.length ≤ W'.as.length := by rw [k.len]; exact hl
      refine (k.cell i c a e1 e2').trim hn ?_
      rcases hb i c hi e1 with z | z
      · exact k0.bd z
      · exact z
    · cases e1
  apart := fun a ha => k.apart a (mem_take ha)
  hid := k.hid
theorem Fut.trim {W' : Wd} {H' : Hp} (k0 : MemOk G W H M) (f : Fut W H W' H') : Fut W H (cutW W' M.length) H' := by
  refine ⟨⟨[], ?_, by simp⟩, f.hd, f.keep, f.lk⟩
  obtain ⟨nw, e, _⟩ := f.ext
  show W'.as.take M.length = _
  rw [e, ← k0.len, List.append_nil, List.take_left']
  rfl
theorem ref_gc (B : FS) (N : Nat) (ds : List D) (M : Mem) : Ref M (gcB B N ds M) (B (envStart N ds) M) := by
  intro G W H Q E m p
  refine ref_run B N ds M G W H Q E m ?_
  unfold gcB at p
  cases hr : runB B N ds M with
  | ex c fs m' => rw [hr] at p; exact p
  | no => rw [hr] at p; exact p
  | ok d m' =>
    rw [hr] at p
    simp only [gcR] at p
    split at p
    · rename_i hc
      refine fun W' H' f k u ru => p (cutW W' M.length) H' (Fut.trim m f) (MemOk.trim m k hc.1 hc.2.2) u ?_
      exact Rp.frz k (by rw [k.len]; exact hc.1) d u hc.2.1 ru
    · exact p
theorem cut_set {M junk : Mem} {d : D} {i : Nat} {c : Cell} (hd : bdD M.length d = true) (hc : bdC M.length c = true) : cutOk M (M.set i c ++ junk) d := ⟨by simp, hd, fun j c' hj e => by
  rw [List.getElem?_append_left (by simpa using hj)] at e
  by_cases hij : i = j
  · subst hij
    rw [List.getElem?_set_self hj] at e
    cases e
    exact .inr hc
  · rw [List.getElem?_set_ne hij] at e
    exact .inl e⟩
section
variable {P : Program} {w : World} {K : PySem.W.Frag} {mg : Str → Option Value} {base : Heap}
/-- THE RULE: a def's body by its model, the model by what is said of it -/
theorem fn_def {x qual : Str} {st : Stmt} {f : Addr} {fd : FuncData} {N ps : List Str} {k : Nat} {g : FD} {B : FS} {cl : Nat → Addr} (F : Fun K x qual st f fd) (S : FnScope N ps (defScope st))
    (hbody : ∀ (cdv : Value) (A : Around) (outer : List PySem.Env) (s : Shared) (H : Hp) (E : XK), Room k (A.deeper (envOfC qual (defScope st) s.heap.objs.size f cdv)) →
      PSs (cxOf CX0 P w K mg base N qual (defScope st) f cdv A outer s H E).nox (defBody st) (tS ⟨K, cl⟩ E B))
    (href : ∀ ds M, ds.length = ps.length → Ref M (g ds M) (B (envStart N.length ds) M)) : FnOk P w K mg base CX0 (k + 1) f fd ps (spOf ⟨K, cl⟩ ps.length g) := by
  refine F.ok S (fun vs H Q E ⟨W, M, ds, m, r, hl, _⟩ => by rw [r.len, hl]) fun cdv A outer s H vs Q E hr ⟨W, M, ds, m, r, hl, p⟩ => ?_
  exact ⟨_, hbody cdv A outer s H E hr, W, envStart N.length ds, M, ⟨m, envStart_ok r⟩, href ds M hl _ W H Q E m p⟩
end
end
end Fn
set_option Elab.async false
set_option linter.all false
set_option maxRecDepth 100000
set_option maxHeartbeats 1000000
namespace Fn
open PySem PySem.Spec PyProof.Rows L2
section
variable {X : Cx} {G : Gx} {cl : Nat → Addr} {E : XK} {W : Wd} {H : Hp} {M : Mem} {a b c : Expr} {fa fb fc : FE} {pos : Pos}
theorem huE {k : Nat} {A : Around} (hr : Room k A) : A.units + 64 < cLine := hr.units
theorem hu1E {k : Nat} {A : Around} (hr : Room k A) : A.units + 65 < cLine := by have := hr.un; omega
theorem sn_strL {x : Str} {l : List Nat} {j : Nat} (h : s2l x = l) : PE X (.Constant (.str x) j pos) (tE G E (mC (.str l))) := by subst h; exact sn_str
theorem sn_glob {x : Str} {v : V} {u : Value} {d : D} (hg : Gl X x) (hm : X.mg x = some u) (r : RelV v u) (hc : ∀ W H, Rp G W H d v) (hd : (x == ("__debug__" : Str)) = false := by decide) : PE X (.Name x pos) (tE G E (mC d)) :=
  pe_imp (pe_glob hg hm r hd) fun σ H Q ⟨W, env, M, s, p⟩ => p W H Fut.rfl' s.mem _ (hc W H)
section
variable {id T : String} {r : List V → Hp → VK → Prop} {o : List D → Mem → R D} {x : Str} {p : Pos} {e : Expr} {es : List Expr} {g : FA}
theorem sn_callB (hc : CallR X (.builtin id) r) (hs : Fn1 ⟨X.K, cl⟩ E r o) (hg : Gl X x) (hm : X.mg x = none) (hv : bootBuiltins x = some (.builtin id)) (ha : PA X (e :: es) (tA ⟨X.K, cl⟩ E g)) (hn : x ≠ "__name__" := by decide) (hdb : (x == ("__debug__" : Str)) = false := by decide)
    (he : starEach (e :: es) X.env = (false, eval e X.env) :: starEach es X.env := by rfl) (hpl : (backTo pos (starEach es X.env)).any (·.1) = false := by rfl) : PE X (.Call (.Name x p) (e :: es) [] pos) (tE ⟨X.K, cl⟩ E (mCall o g)) :=
  pe_imp (pe_callB hc hg hm hv ha hn hdb he hpl) (tE_call hs)
theorem sn_callTy (hc : CallR X (.type T) r) (hs : Fn1 ⟨X.K, cl⟩ E r o) (hg : Gl X x) (hm : X.mg x = none) (hv : bootBuiltins x = some (.type T)) (ha : PA X (e :: es) (tA ⟨X.K, cl⟩ E g)) (hn : x ≠ "__name__" := by decide) (hdb : (x == ("__debug__" : Str)) = false := by decide)
    (he : starEach (e :: es) X.env = (false, eval e X.env) :: starEach es X.env := by rfl) (hpl : (backTo pos (starEach es X.env)).any (·.1) = false := by rfl) : PE X (.Call (.Name x p) (e :: es) [] pos) (tE ⟨X.K, cl⟩ E (mCall o g)) :=
  pe_imp (pe_callTy hc hg hm hv ha hn hdb he hpl) (tE_call hs)
end
section
variable {id T : String} {r : V → List V → Hp → VK → Prop} {o : D → List D → Mem → R D} {name : Str} {apos cpos : Pos} {rc e : Expr} {es : List Expr} {f : FE} {g : FA}
theorem sn_meth (pa : PlainAttrs T) (slot : Slot T name id) (hty : typeOf (.builtin id) = pure (.type "method_descriptor")) (hm : MtR X id r) (hs : Mt1 ⟨X.K, cl⟩ E r o) (ho : PE X rc (tE ⟨X.K, cl⟩ E f)) (ha : PA X (e :: es) (tA ⟨X.K, cl⟩ E g))
    (hbase : attributeBase rc name X.env (eval rc X.env) = eval rc X.env := by rfl)
    (hfew : ((backTo cpos (starEach (e :: es) X.env)).all (fun x => !x.1) && (backToKw cpos (keywordEach [] X.env)).all (fun x => x.1.isSome)
      && decide ((e :: es).length + ([] : List Keyword).length + (if ([] : List Keyword).isEmpty then 0 else 1) < 30)) = true := by rfl)
    (hline : (apos.endLine == cpos.line) = true := by rfl) (hs1 : starEach (e :: es) X.env = (false, eval e X.env) :: starEach es X.env := by rfl) (hplain : (backTo cpos (starEach es X.env)).any (·.1) = false := by rfl) :
    PE X (.Call (.Attribute rc name apos) (e :: es) [] cpos) (tE ⟨X.K, cl⟩ E (mMeth T o f g)) := pe_imp (pe_bm pa slot hty hm ho ha hbase hfew hline hs1 hplain) (tE_meth hs)
end
theorem test_of {f : FE} {t : TE} (h : ∀ σ H Q, tE G E f σ H Q → t σ H Q) (σ : L2.St) (H : Hp) (Q : Bool → Hp → Prop) (q : tT G E (bOf f) σ H Q) : tTest t σ H Q := by
  obtain ⟨W, env, M, s, p⟩ := q
  refine h σ H _ (tE.bind s p fun d m W1 H1 u f1 s1 r1 p1 => ?_)
  cases d with
  | bl k => exact ⟨k, r1, p1.here s1.mem⟩
  | _ => exact p1.elim
theorem st_cmp {op : CmpOp} {r : R2} {o : D → D → Mem → R D} (ho : OpR X (compareOp op) r) (hs : Op2 G E r o) (hm : behindInMarks op b = false) (ha : PE X a (tE G E fa)) (hb : PE X b (tE G E fb)) : PT X (.Compare a [op] [b] pos) (tT G E (bOf (mOp o fa fb))) :=
  pt_imp (pt_cmpR ho ha hb hm) (test_of (tE_op hs))
/-- the parameters from the positional ones and the keywords' values: pi over any values -/
structure Perm2 where
  on : {α : Type} → List α → List α → List α
def piApp : Perm2 := ⟨fun ds zs => ds ++ zs⟩
def mFunKw (n m np : Nat) (π : Perm2) (dd : List D) (g : FD) (fa fk : FA) : FE := fun env M => (fa env M).bind fun ds m1 => (fk env m1).bind fun zs m2 => if ds.length = n ∧ zs.length = m ∧ (π.on ds (zs ++ dd)).length = np then g (π.on ds (zs ++ dd)) m2 else .no
theorem law_end {K : PySem.W.Frag} {cl : Nat → Addr} {g : FD} (h : ∀ ns : List Int, ns.length ≤ 63 → ∃ m, g [.fz (ns.map .int)] [] = .ok (.bl true) m) {H : Hp} {a : Addr} {ns : List Int} (hl : ns.length ≤ 63) (ho : Only H) (hS : SqL K H a (ns.map V.int)) :
    spOf ⟨K, cl⟩ 1 g [.ref a] H (fun v _ => v = .bl true) fun _ _ _ => False := by
  obtain ⟨m, e⟩ := h ns hl
  have hints : ∀ ns : List Int, RpL ⟨K, cl⟩ ⟨[], []⟩ H (ns.map .int) (ns.map V.int) := fun ns => by
    induction ns with
    | nil => exact (rfl : ([] : List V) = [])
    | cons n r ih => exact ⟨_, _, rfl, rfl, ih⟩
  refine ⟨⟨[], []⟩, [], [.fz (ns.map .int)], ⟨rfl, List.nodup_nil, fun i c a e => by simp at e, by simp, by simp⟩, ⟨_, [], rfl, ⟨a, _, rfl, ?_, hints ns⟩, rfl⟩, rfl, ?_⟩
  · rcases hS with (h1 | ⟨o, h1⟩) | h1
    · rcases ho a with z | ⟨o, xs, z⟩
      · rw [h1] at z; cases z
      · rw [h1] at z; cases z
    · exact .inl ⟨o, h1⟩
    · exact .inr h1
  · rw [e]
    exact fun W' H' f m' u hu => hu
end
end Fn
set_option Elab.async false
set_option linter.all false
set_option maxRecDepth 100000
set_option maxHeartbeats 1000000
namespace Fn
open PySem PySem.Spec PyProof.Rows L2
section
variable {X : Cx} {G : Gx} {cl : Nat → Addr} {E : XK} {W : Wd} {H : Hp} {M : Mem} {a b c : Expr} {fa fb fc : FE} {pos : Pos}
def encD (d : D) : PyData := (pyD d).getD .none
def leD (a b : D) : Bool := PySem.W.dataLe false encD a b
def sortD (l : List D) : List D := l.mergeSort leD
def isTupD : D → Bool
  | .tup (_ :: _) => true
  | _ => false
def isOneD : D → Bool
  | .non => false
  | .tup _ => false
  | .ct _ => false
  | .ref _ => false
  | _ => true
/-- may these be sorted: all alike data, tuples with an item or no tuples -/
def sortOk (l : List D) : Prop := (∀ d ∈ l, (pyD d).isSome = true ∧ (encD d).depth ≤ 60) ∧ (∀ d ∈ l, ∀ d' ∈ l, PySem.W.alike (encD d) (encD d') = true) ∧ ((∀ d ∈ l, isTupD d = true) ∨ ∀ d ∈ l, isOneD d = true)
open Classical in
noncomputable def oSorted (c : Bool) : List D → Mem → R D
  | [d], M => match lstOf M d with
    | some l => if sortOk l then mkL c (sortD l) M else .no
    | none => .no
  | _, _ => .no
theorem eachIs_rp {h : Heap} : ∀ {ds : List D} {us : List V} {vs : List Value}, RpL G W H ds us → Vals us vs → PySem.W.EachIs (fun v d => ∃ u, Rp G W H d u ∧ RelV u v) vs ds
  | [], us, vs, r, k => by
    have : us = [] := r
    subst this
    cases k
    exact .nil
  | d :: r, us, vs, h1, k => by
    obtain ⟨u, us', e, h2, h3⟩ := h1
    subst e
    cases k with
    | cons k1 k2 => exact .cons ⟨u, h2, k1⟩ (eachIs_rp (h := h) h3 k2)
theorem eachIs_back : ∀ {ds : List D} {vs : List Value}, PySem.W.EachIs (fun v d => ∃ u, Rp G W H d u ∧ RelV u v) vs ds → ∃ us, RpL G W H ds us ∧ Vals us vs
  | _, _, .nil => ⟨[], (rfl : ([] : List V) = []), .nil⟩
  | _, _, .cons h t => by
    obtain ⟨u, h1, h2⟩ := h
    obtain ⟨us, h3, h4⟩ := eachIs_back t
    exact ⟨u :: us, ⟨u, us, rfl, h1, h3⟩, .cons h2 h4⟩
theorem eachIs_mono {α β : Type} {R R' : α → β → Prop} : ∀ {as : List α} {bs : List β}, PySem.W.EachIs R as bs → (∀ a b, b ∈ bs → R a b → R' a b) → PySem.W.EachIs R' as bs
  | _, _, .nil, _ => .nil
  | _, _, .cons h t, k => .cons (k _ _ (List.mem_cons_self ..) h) (eachIs_mono t fun a b hb => k a b (List.mem_cons_of_mem _ hb))
/-- sorted(xs) -/
def rSortD (G : Gx) : List V → Hp → VK → Prop := fun vs H Q => ∃ (W : Wd) (a : Addr) (us : List V) (ds : List D), vs = [V.ref a] ∧ SqL G.K H a us ∧ RpL G W H ds us ∧ sortOk ds ∧ ∀ us' p, RpL G W H (sortD ds) us' → H p = none → Q (.ref p) (upd H p (.lst us'))
theorem cr_sortedD (hu : X.A.units + 64 < cLine) : CallR X (.builtin "sorted") (rSortD ⟨X.K, cl⟩) := by
  intro pins s σ H vs us Q I r h
  obtain ⟨W, a, vs', ds, rfl, hs, hr, hk, q⟩ := h
  obtain ⟨its, rv, hl, hz⟩ := I.list hs
  rw [Vals.ref1 r]
  have e := eachIs_rp (h := s.heap) hr rv
  have er : PySem.W.EachIs (fun v d => ∃ as, Reads s.heap v (encD d) as) its ds := eachIs_mono e fun v d hd ⟨u, h1, h2⟩ => by
    obtain ⟨hp, _⟩ := hk.1 d hd
    cases hpd : pyD d with
    | none => rw [hpd] at hp; cases hp
    | some p =>
      have : encD d = p := by unfold encD; rw [hpd]; rfl
      rw [this]
      exact Dp.reads I p u v (pyD_ok h1 hpd) h2
  have hlen : its.length = ds.length := by rw [← rv.length, hr.len]
  have hL : ds.length ≤ sizeLine := by rw [← hr.len]; exact hz
  refine PySem.W.sorted_data hl.isList e er (fun p hp p' hp' => ?_) ?_ hL (fun d hd => ?_) fun out ho eo => ?_
  · obtain ⟨d, hd, rfl⟩ := List.mem_map.mp hp
    obtain ⟨d', hd', rfl⟩ := List.mem_map.mp hp'
    exact hk.2.1 d hd d' hd'
  · rcases hk.2.2 with z | z
    · refine .inl fun p hp => ?_
      obtain ⟨d, hd, rfl⟩ := List.mem_map.mp hp
      have h1 := z d hd
      have h2 := (hk.1 d hd).1
      cases d with
      | tup l =>
        cases l with
        | nil => cases h1
        | cons x r =>
          unfold encD
          cases hq : pyD (.tup (x :: r)) with
          | none => rw [hq] at h2; cases h2
          | some p =>
            simp only [pyD] at hq
            cases hq2 : pyL (x :: r) with
            | none => rw [hq2] at hq; cases hq
            | some ps =>
              rw [hq2] at hq; cases hq
              simp only [pyL] at hq2
              split at hq2
              · cases hq2; exact ⟨_, _, rfl⟩
              · cases hq2
      | _ => cases h1
    · refine .inr fun p hp => ?_
      obtain ⟨d, hd, rfl⟩ := List.mem_map.mp hp
      have h1 := z d hd
      have h2 := (hk.1 d hd).1
      cases d with
      | non => cases h1
      | tup l => cases h1
      | ref l => cases h1
      | ct l => cases h1
      | bl b => exact ⟨(by intro z; cases z), (by intro xs z; cases z)⟩
      | int b => exact ⟨(by intro z; cases z), (by intro xs z; cases z)⟩
      | str b => exact ⟨(by intro z; cases z), (by intro xs z; cases z)⟩
      | lst l =>
        unfold encD
        simp only [pyD] at h2 ⊢
        cases hq2 : pyL l with
        | none => rw [hq2] at h2; cases h2
        | some ps => exact ⟨(by intro z; cases z), (by intro xs z; cases z)⟩
      | fz l =>
        unfold encD
        simp only [pyD] at h2 ⊢
        cases hq2 : pyL l with
        | none => rw [hq2] at h2; cases h2
        | some ps => exact ⟨(by intro z; cases z), (by intro xs z; cases z)⟩
  · have := (hk.1 d hd).2
    omega
  · obtain ⟨us', h1, h2⟩ := eachIs_back eo
    obtain ⟨ep, he'⟩ := PyProof.Rows.sortedAll_at s.heap its out.toArray
    have hlen' : us'.length ≤ sizeLine := by rw [h2.length, ho]; exact hL
    exact ⟨.ref _, upd H (s.heap.objs.size + 1) (.lst us'), I.laid (t' := s.toks) (fun _ _ => PyProof.Rows.sortedAll_old) (Nat.le_succ _) ⟨hlen', out, ep, h2, he'⟩, rfl, q us' _ h1 (I.hok.fresh (Nat.le_succ _))⟩
theorem fn_sorted {c : Bool} : Fn1 G E (rSortD G) (oSorted c) := fun W H M ds us Q m r p => by
  unfold oSorted at p
  split at p
  · obtain ⟨u, e1, r1⟩ := rp_one r
    subst e1
    split at p
    · rename_i l e1
      split at p
      · rename_i hk
        obtain ⟨a1, us, h1, h2, h3⟩ := lstOf_ok m r1 e1
        subst h1
        exact ⟨W, a1, us, l, rfl, h2, h3, hk, fun us' p' hr hp => mkL_new m p hr p' hp⟩
      · exact p.elim
    · exact p.elim
  · exact p.elim
def mPar3 (i j l : Nat) (g : FA) : FS := fun env M => (g env M).bind fun ds m => match ds with
  | [d, d', d''] => .ok (.nx (((env.set i (some d)).set j (some d')).set l (some d''))) m
  | _ => .no
theorem ss_par3 {i j l : Nat} {x y z : Str} {g : FA} {px py pz pt : Pos} {kt k2 pt2} (hc : X.calm = true) (hN : X.N.Nodup) (hi : X.N[i]? = some x) (hj : X.N[j]? = some y) (hl : X.N[l]? = some z) (hij : i ≠ j) (hil : i ≠ l) (hjl : j ≠ l)
    (hx : X.env.scope.names.lookup x = some .local) (hy : X.env.scope.names.lookup y = some .local) (hz : X.env.scope.names.lookup z = some .local) (ha : PA X [a, b, c] (tA G E g))
    (hw : swappedStores [.Tuple [.Name x px, .Name y py, .Name z pz] kt pt] (.Tuple [a, b, c] k2 pt2) X.env = pure (some [x, y, z]))
    (hs : swapsWithSole [.Tuple [.Name x px, .Name y py, .Name z pz] kt pt] (.Tuple [a, b, c] k2 pt2) pos.line X.env = pure false := by rfl) :
    PS X (.Assign [.Tuple [.Name x px, .Name y py, .Name z pz] kt pt] (.Tuple [a, b, c] k2 pt2) pos) (tS G E (mPar3 i j l g)) := ps_imp (ps_par3 hc hN hi hj hl hij hil hjl hx hy hz ha hw hs) fun D σ H ⟨W, env, M, s, p⟩ => by
  refine tA.bind s p fun ds m W1 H1 us f1 s1 r1 p1 => ?_
  split at p1
  · obtain ⟨u, us', e1, r2, u', us2, e2, r3, u'', us3, e3, r4, r5⟩ := r1
    have : us3 = [] := r5
    subst this e3 e2 e1
    exact ⟨u, u', u'', rfl, p1.here s1.mem _ (((s1.env.set i r2).set j r3).set l r4)⟩
  · exact p1.elim
end
end Fn
set_option Elab.async false
set_option linter.all false
set_option maxRecDepth 100000
set_option maxHeartbeats 4000000
namespace Fn
open PySem PySem.Spec PyProof.Rows L2
section
variable {env : Env} {M : Mem}
theorem mVar_eq (i : Nat) : mVar i env M = match env[i]? with | some (some d) => .ok d M | _ => .no := rfl
theorem mC_eq (d : D) : mC d env M = .ok d M := rfl
theorem mOp_eq (o : D → D → Mem → R D) (fa fb : FE) : mOp o fa fb env M = (fa env M).bind fun a m => (fb env m).bind fun b m' => o a b m' := rfl
theorem mUn_eq (o : D → Mem → R D) (fa : FE) : mUn o fa env M = (fa env M).bind fun a m => o a m := rfl
theorem mSeq_eq (f g : FS) : mSeq f g env M = (f env M).bind fun fl m => match fl with | .nx env' => g env' m | fl => .ok fl m := rfl
theorem mSet_eq (i : Nat) (f : FE) : mSet i f env M = (f env M).bind fun d m => .ok (.nx (env.set i (some d))) m := rfl
theorem mRet_eq (f : FE) : mRet f env M = (f env M).bind fun d m => .ok (.rt d) m := rfl
theorem mExpr_eq (f : FE) : mExpr f env M = (f env M).bind fun _ m => .ok (.nx env) m := rfl
theorem mIfS_eq (c : FT) (f g : FS) : mIfS c f g env M = (c env M).bind fun b m => if b = true then f env m else g env m := rfl
theorem mPass_eq : mPass env M = .ok (.nx env) M := rfl
theorem mAsg_eq (f : FE) (g : FG) : mAsg f g env M = (f env M).bind fun d m => (g d env m).bind fun env' m' => .ok (.nx env') m' := rfl
theorem mCall_eq (o : List D → Mem → R D) (g : FA) : mCall o g env M = (g env M).bind o := rfl
theorem mFun_eq (n : Nat) (g : FD) (dd : List D) (fa : FA) : mFun n g dd fa env M = (fa env M).bind fun ds m => if (ds ++ dd).length = n then g (ds ++ dd) m else .no := rfl
theorem aNil_eq : aNil env M = .ok [] M := rfl
theorem aCons_eq (f : FE) (g : FA) : aCons f g env M = (f env M).bind fun d m => (g env m).bind fun ds m' => .ok (d :: ds) m' := rfl
theorem mTup_eq (g : FA) : mTup g env M = (g env M).bind fun ds m => if ds.length ≤ 16777216 then .ok (.tup ds) m else .no := rfl
theorem mLst_eq (c : Bool) (g : FA) : mLst c g env M = (g env M).bind fun ds m => if ds.length ≤ 16777216 then mkL c ds m else .no := rfl
theorem bOf_eq (f : FE) : bOf f env M = (f env M).bind fun d m => match d with | .bl b => .ok b m | _ => .no := rfl
theorem mkL_t (ds : List D) : mkL true ds M = .ok (.ref M.length) (M ++ [.lst ds]) := rfl
theorem mkL_f (ds : List D) : mkL false ds M = .ok (.lst ds) M := rfl
theorem mMeth_eq (T : String) (o : D → List D → Mem → R D) (f : FE) (g : FA) : mMeth T o f g env M = (f env M).bind fun a m => if tyOk T m a = true then (g env m).bind fun ds m' => o a ds m' else .no := rfl
theorem oIx_fz (l : List D) (i : Int) : oIx (.fz l) (.int i) M = match atI l i with | some d => .ok d M | none => .no := rfl
theorem oIx_lst (l : List D) (i : Int) : oIx (.lst l) (.int i) M = match atI l i with | some d => .ok d M | none => .no := rfl
theorem oIx_tup (l : List D) (i : Int) : oIx (.tup l) (.int i) M = match atI l i with | some d => .ok d M | none => .no := rfl
theorem oAdd_int (c : Bool) (i j : Int) : oAdd c (.int i) (.int j) M = .ok (.int (i + j)) M := rfl
theorem oSub_int (i j : Int) : oSub (.int i) (.int j) M = .ok (.int (i - j)) M := rfl
theorem oMul_int (c : Bool) (i j : Int) (h : mulOk i j = true) : oMul c (.int i) (.int j) M = .ok (.int (i * j)) M := by
  show (if mulOk i j = true then _ else _) = _
  rw [if_pos h]
theorem oMod_int (i j : Int) (h : 0 < j) : oMod (.int i) (.int j) M = .ok (.int (i % j)) M := by
  show (if decide (0 < j) = true then _ else _) = _
  rw [if_pos (decide_eq_true h)]
theorem oDiv_int (i j : Int) (h : divOk i j = true) : oDiv (.int i) (.int j) M = .ok (.int (i / j)) M := by
  show (if divOk i j = true then _ else _) = _
  rw [if_pos h]
theorem oLt_int (i j : Int) : oLt (.int i) (.int j) M = .ok (.bl (decide (i < j))) M := rfl
theorem oLe_int (i j : Int) : oLe (.int i) (.int j) M = .ok (.bl (decide (i ≤ j))) M := rfl
theorem oGt_int (i j : Int) : oGt (.int i) (.int j) M = .ok (.bl (decide (j < i))) M := rfl
theorem oGe_int (i j : Int) : oGe (.int i) (.int j) M = .ok (.bl (decide (j ≤ i))) M := rfl
theorem oLen_fz (l : List D) : oLen [.fz l] M = .ok (.int l.length) M := rfl
theorem oLen_lst (l : List D) : oLen [.lst l] M = .ok (.int l.length) M := rfl
theorem oLen_tup (l : List D) : oLen [.tup l] M = .ok (.int l.length) M := rfl
theorem oLen_str (l : List Nat) (h : l.length ≤ 16777216) : oLen [.str l] M = .ok (.int l.length) M := by
  show (if l.length ≤ 16777216 then _ else _) = _
  rw [if_pos h]
theorem mRetN_eq : mRetN env M = .ok (.rt .non) M := rfl
theorem mPar_eq (i j : Nat) (g : FA) : mPar i j g env M = (g env M).bind fun ds m => match ds with | [d, d'] => .ok (.nx ((env.set i (some d)).set j (some d'))) m | _ => .no := rfl
theorem mAug_eq (i : Nat) (o : D → D → Mem → R D) (f : FE) : mAug i o f env M = match env[i]? with | some (some x) => (f env M).bind fun d m => (o x d m).bind fun z m' => .ok (.nx (env.set i (some z))) m' | _ => .no := rfl
theorem tOf_eq (f : FE) : tOf f env M = (f env M).bind fun d m => match truD m d with | some b => .ok b m | none => .no := rfl
theorem tAndM_eq (f g : FT) : tAndM f g env M = (f env M).bind fun b m => if b = true then g env m else .ok false m := rfl
theorem tOrM_eq (f g : FT) : tOrM f g env M = (f env M).bind fun b m => if b = true then .ok true m else g env m := rfl
theorem tNotM_eq (f : FT) : tNotM f env M = (f env M).bind fun b m => .ok (!b) m := rfl
theorem tsYes_eq : tsYes env M = .ok true M := rfl
theorem mFunKw_eq (n m np : Nat) (π : Perm2) (dd : List D) (g : FD) (fa fk : FA) : mFunKw n m np π dd g fa fk env M = (fa env M).bind fun ds m1 => (fk env m1).bind fun zs m2 => if ds.length = n ∧ zs.length = m ∧ (π.on ds (zs ++ dd)).length = np then g (π.on ds (zs ++ dd)) m2 else .no := rfl
theorem piApp_on {α : Type} (a b : List α) : piApp.on a b = a ++ b := rfl
theorem mAnd_eq (f g : FE) : mAnd f g env M = (f env M).bind fun d m => match d with | .bl true => g env m | .bl false => .ok (.bl false) m | _ => .no := rfl
theorem mOr_eq (f g : FE) : mOr f g env M = (f env M).bind fun d m => match d with | .bl true => .ok (.bl true) m | .bl false => g env m | _ => .no := rfl
theorem mNot_eq (f : FE) : mNot f env M = (f env M).bind fun d m => match d with | .bl b => .ok (.bl (!b)) m | _ => .no := rfl
theorem mIf_eq (t : FT) (f g : FE) : mIf t f g env M = (t env M).bind fun b m => if b = true then f env m else g env m := rfl
theorem mChain_eq (o o' : D → D → Mem → R D) (fa fb fc : FE) : mChain o o' fa fb fc env M = (fa env M).bind fun x m => (fb env m).bind fun y m => (o x y m).bind fun z m => match z with | .bl true => (fc env m).bind fun w m => o' y w m | .bl false => .ok (.bl false) m | _ => .no := rfl
theorem mSl_eq (c : Bool) (f : FE) (lo hi : FO) : mSl c f lo hi env M = (f env M).bind fun d m => (lo env m).bind fun l m1 => (hi env m1).bind fun h m2 => oSl c d l h m2 := rfl
theorem pNone_eq : pNone env M = .ok none M := rfl
theorem pSome_eq (f : FE) : pSome f env M = (f env M).bind fun d m => match d with | .int i => .ok (some i) m | _ => .no := rfl
theorem gN_eq (i : Nat) (d : D) : gN i d env M = .ok (env.set i (some d)) M := rfl
theorem gT_eq (n : Nat) (g : FGs) (d : D) : gT n g d env M = match d with | .tup l => if l.length = n then g l env M else .no | .ct l => if l.length = n then g l env M else .no | _ => .no := rfl
theorem gsNil_eq (ds : List D) : gsNil ds env M = match ds with | [] => .ok env M | _ => .no := rfl
theorem gsCons_eq (f : FG) (g : FGs) (ds : List D) : gsCons f g ds env M = match ds with | d :: r => (f d env M).bind fun env' m => g r env' m | [] => .no := rfl
theorem oMax_int (i j : Int) : oMax [.int i, .int j] M = .ok (.int (if j > i then j else i)) M := rfl
theorem oMin_int (i j : Int) : oMin [.int i, .int j] M = .ok (.int (if j < i then j else i)) M := rfl
theorem oInt_bl (b : Bool) : oInt [.bl b] M = .ok (.int (if b = true then 1 else 0)) M := rfl
theorem oInt_int (b : Int) : oInt [.int b] M = .ok (.int b) M := rfl
theorem oIsi_bl (b : Bool) (T : String) : oIsi T (.bl b) M = .ok (.bl (isTy "bool" T)) M := rfl
theorem oNeg_int (i : Int) : oNeg (.int i) M = .ok (.int (-i)) M := rfl
theorem oTuple_lst (l : List D) : oTuple [.lst l] M = .ok (.tup l) M := rfl
theorem oTuple_tup (l : List D) : oTuple [.tup l] M = .ok (.tup l) M := rfl
theorem iR1_eq (g : FA) : iR1 g env M = (g env M).bind fun ds m => match ds with | [.int j] => if rngOk j = true then .ok ⟨rngItems 0 j.toNat, fun _ => True⟩ m else .no | _ => .no := rfl
theorem iR2_eq (g : FA) : iR2 g env M = (g env M).bind fun ds m => match ds with | [.int i, .int j] => if rngOk i = true ∧ rngOk j = true then .ok ⟨rngItems i (j - i).toNat, fun _ => True⟩ m else .no | _ => .no := rfl
theorem iSq_eq (f : FE) : iSq f env M = (f env M).bind fun d m => match srcOf m d with | some s => .ok s m | none => .no := rfl
theorem iStrM_eq (f : FE) : iStrM f env M = (f env M).bind fun d m => match d with | .str x => .ok ⟨x.map fun c => .str [c], fun _ => True⟩ m | _ => .no := rfl
theorem srcOf_tup (l : List D) : srcOf M (.tup l) = some ⟨l, fun _ => True⟩ := rfl
theorem srcOf_lst (l : List D) : srcOf M (.lst l) = some ⟨l, fun _ => True⟩ := rfl
theorem srcOf_fz (l : List D) : srcOf M (.fz l) = some ⟨l, fun _ => True⟩ := rfl
end
theorem p64 : (2 : Int) ^ 64 = 18446744073709551616 := by decide +kernel
theorem mul_small {i j : Int} (h1 : -18446744073709551616 < j) (h2 : j < 18446744073709551616) : mulOk i j = true := by
  unfold mulOk
  rw [p64]
  simp only [Bool.or_eq_true, decide_eq_true_eq]
  exact Or.inl (Or.inr ⟨h1, h2⟩)
theorem mul_smallL {i j : Int} (h1 : -18446744073709551616 < i) (h2 : i < 18446744073709551616) : mulOk i j = true := by
  unfold mulOk
  rw [p64]
  simp only [Bool.or_eq_true, decide_eq_true_eq]
  exact Or.inl (Or.inl ⟨h1, h2⟩)
theorem oMul_r (c : Bool) (i j : Int) {M : Mem} (h1 : -18446744073709551616 < j) (h2 : j < 18446744073709551616) : oMul c (.int i) (.int j) M = .ok (.int (i * j)) M := oMul_int c i j (mul_small h1 h2)
theorem oMul_l (c : Bool) (i j : Int) {M : Mem} (h1 : -18446744073709551616 < i) (h2 : i < 18446744073709551616) : oMul c (.int i) (.int j) M = .ok (.int (i * j)) M := oMul_int c i j (mul_smallL h1 h2)
theorem i1 : -18446744073709551616 < (7919 : Int) := by omega
theorem i2 : (7919 : Int) < 18446744073709551616 := by omega
theorem i3 : -18446744073709551616 < (7 : Int) := by omega
theorem i4 : (7 : Int) < 18446744073709551616 := by omega
theorem i5 : (0 : Int) < 2147483629 := by omega
theorem i6 : -18446744073709551616 < (48271 : Int) := by omega
theorem i7 : (48271 : Int) < 18446744073709551616 := by omega
theorem i8 : (0 : Int) < 2147483647 := by omega
theorem i9 : -18446744073709551616 < (31 : Int) := by omega
theorem i10 : (31 : Int) < 18446744073709551616 := by omega
theorem i11 : -18446744073709551616 < (40692 : Int) := by omega
theorem i12 : (40692 : Int) < 18446744073709551616 := by omega
theorem i13 : -18446744073709551616 < (2 : Int) := by omega
theorem i14 : (2 : Int) < 18446744073709551616 := by omega
theorem i15 : (0 : Int) < 2147483587 := by omega
theorem i16 : (0 : Int) < 2147483579 := by omega
theorem i17 : (0 : Int) < 31 := by omega
theorem i18 : (31 : Int) < 1000000000000000000000000 := by omega
def intsD (ns : List Int) : List D := ns.map .int
def cellV (ns : List Int) (k : Nat) : Int :=
  if h : k < ns.length then ns[k] else
  if 0 < ns.length then (ns.getD (k * 7 % ns.length) 0 % 2147483629 * 48271 + k * 7919) % 2147483647 * 31 else ((k : Int) * 7919 + 5) % 2147483647 * 31
/-- the body of _law_cell -/
def cellB : FS := (mSeq (mIfS (bOf (mOp oLt (mVar 1) (mCall oLen (aCons (mVar 0) aNil)))) (mRet (mOp oIx (mVar 0) (mVar 1))) mPass) (mSeq (mSet 2 (mOp (oAdd false) (mOp (oMul false) (mVar 1) (mC (.int 7919))) (mC (.int 5)))) (mSeq (mIfS (bOf (mOp oGt (mCall oLen (aCons (mVar 0) aNil)) (mC (.int 0)))) (mSet 2 (mOp (oAdd false) (mOp (oMul false) (mOp oMod (mOp oIx (mVar 0) (mOp oMod (mOp (oMul false) (mVar 1) (mC (.int 7))) (mCall oLen (aCons (mVar 0) aNil)))) (mC (.int 2147483629))) (mC (.int 48271))) (mOp (oMul false) (mVar 1) (mC (.int 7919))))) mPass) (mRet (mOp (oMul false) (mOp oMod (mVar 2) (mC (.int 2147483647))) (mC (.int 31)))))))
theorem cell_run (ns : List Int) (k : Nat) (M : Mem) : cellB [some (.fz (intsD ns)), some (.int k), none] M = .ok (.rt (.int (cellV ns k))) M := by
  by_cases h : k < ns.length
  · have h' : decide ((k : Int) < (ns.length : Int)) = true := decide_eq_true (by omega)
    have hat : atI (ns.map D.int) (k : Int) = some (.int ns[k]) := atI_nat (by simp [h])
    simp -implicitDefEqProofs only [mSeq_eq, mIfS_eq, mSet_eq, mRet_eq, mRetN_eq, mExpr_eq, mPass_eq, mAsg_eq, mPar_eq, mAug_eq, bOf_eq, tOf_eq, tAndM_eq, tOrM_eq, tNotM_eq, tsYes_eq, mOp_eq, mUn_eq, mVar_eq, mC_eq, mCall_eq, mFun_eq, mFunKw_eq, mMeth_eq, mAnd_eq, mOr_eq, mNot_eq, mIf_eq, mChain_eq, mSl_eq, pNone_eq, pSome_eq, aCons_eq, aNil_eq, mTup_eq, mLst_eq, gN_eq, gT_eq, gsNil_eq, gsCons_eq, mkL_t, mkL_f, R.bind_ok, R.bind_no, R.nox_ok, List.getElem?_cons_zero, List.getElem?_cons_succ, List.set_cons_zero, List.set_cons_succ, List.length_cons, List.length_nil, List.append_nil, List.nil_append, List.cons_append, piApp_on, oLen_fz, oLen_lst, oLen_tup, oLt_int, oLe_int, oGt_int, oGe_int, oAdd_int, oSub_int, oIx_fz, oIx_lst, oIx_tup, oMax_int, oMin_int, oInt_bl, oInt_int, oIsi_bl, oNeg_int, oTuple_lst, oTuple_tup, iR1_eq, iR2_eq, iSq_eq, iStrM_eq, srcOf_tup, srcOf_lst, srcOf_fz, if_true, if_false, Bool.false_eq_true, Bool.true_eq_false, reduceIte, Nat.reduceAdd, Nat.reduceLeDiff, Nat.reduceEqDiff, decide_true, decide_false, and_self, and_true, true_and, cellB, intsD, List.length_map, h', hat]
    simp [cellV, h]
  · have h' : decide ((k : Int) < (ns.length : Int)) = false := decide_eq_false (by omega)
    by_cases h0 : 0 < ns.length
    · have h0' : decide ((0 : Int) < (ns.length : Int)) = true := decide_eq_true (by omega)
      have hk : ((k : Int) * 7) % (ns.length : Int) = ((k * 7 % ns.length : Nat) : Int) := by simp
      have hl : k * 7 % ns.length < ns.length := Nat.mod_lt _ h0
      have hat : atI (ns.map D.int) ((k * 7 % ns.length : Nat) : Int) = some (.int (ns.getD (k * 7 % ns.length) 0)) := atI_nat (by
        rw [List.getElem?_map, List.getElem?_eq_getElem hl]
        simp [List.getD, List.getElem?_eq_getElem hl])
      simp -implicitDefEqProofs only [mSeq_eq, mIfS_eq, mSet_eq, mRet_eq, mRetN_eq, mExpr_eq, mPass_eq, mAsg_eq, mPar_eq, mAug_eq, bOf_eq, tOf_eq, tAndM_eq, tOrM_eq, tNotM_eq, tsYes_eq, mOp_eq, mUn_eq, mVar_eq, mC_eq, mCall_eq, mFun_eq, mFunKw_eq, mMeth_eq, mAnd_eq, mOr_eq, mNot_eq, mIf_eq, mChain_eq, mSl_eq, pNone_eq, pSome_eq, aCons_eq, aNil_eq, mTup_eq, mLst_eq, gN_eq, gT_eq, gsNil_eq, gsCons_eq, mkL_t, mkL_f, R.bind_ok, R.bind_no, R.nox_ok, List.getElem?_cons_zero, List.getElem?_cons_succ, List.set_cons_zero, List.set_cons_succ, List.length_cons, List.length_nil, List.append_nil, List.nil_append, List.cons_append, piApp_on, oLen_fz, oLen_lst, oLen_tup, oLt_int, oLe_int, oGt_int, oGe_int, oAdd_int, oSub_int, oIx_fz, oIx_lst, oIx_tup, oMax_int, oMin_int, oInt_bl, oInt_int, oIsi_bl, oNeg_int, oTuple_lst, oTuple_tup, iR1_eq, iR2_eq, iSq_eq, iStrM_eq, srcOf_tup, srcOf_lst, srcOf_fz, if_true, if_false, Bool.false_eq_true, Bool.true_eq_false, reduceIte, Nat.reduceAdd, Nat.reduceLeDiff, Nat.reduceEqDiff, decide_true, decide_false, and_self, and_true, true_and, cellB, intsD, List.length_map, h', h0', oMul_r _ _ 7919 i1 i2, oMul_r _ _ 7 i3 i4, oMod_int _ (ns.length : Int) (by omega), hk, hat, oMod_int _ 2147483629 i5, oMul_r _ _ 48271 i6 i7, oMod_int _ 2147483647 i8, oMul_r _ _ 31 i9 i10]
      simp only [cellV, dif_neg h, if_pos h0]
    · have h0' : decide ((0 : Int) < (ns.length : Int)) = false := decide_eq_false (by omega)
      simp -implicitDefEqProofs only [mSeq_eq, mIfS_eq, mSet_eq, mRet_eq, mRetN_eq, mExpr_eq, mPass_eq, mAsg_eq, mPar_eq, mAug_eq, bOf_eq, tOf_eq, tAndM_eq, tOrM_eq, tNotM_eq, tsYes_eq, mOp_eq, mUn_eq, mVar_eq, mC_eq, mCall_eq, mFun_eq, mFunKw_eq, mMeth_eq, mAnd_eq, mOr_eq, mNot_eq, mIf_eq, mChain_eq, mSl_eq, pNone_eq, pSome_eq, aCons_eq, aNil_eq, mTup_eq, mLst_eq, gN_eq, gT_eq, gsNil_eq, gsCons_eq, mkL_t, mkL_f, R.bind_ok, R.bind_no, R.nox_ok, List.getElem?_cons_zero, List.getElem?_cons_succ, List.set_cons_zero, List.set_cons_succ, List.length_cons, List.length_nil, List.append_nil, List.nil_append, List.cons_append, piApp_on, oLen_fz, oLen_lst, oLen_tup, oLt_int, oLe_int, oGt_int, oGe_int, oAdd_int, oSub_int, oIx_fz, oIx_lst, oIx_tup, oMax_int, oMin_int, oInt_bl, oInt_int, oIsi_bl, oNeg_int, oTuple_lst, oTuple_tup, iR1_eq, iR2_eq, iSq_eq, iStrM_eq, srcOf_tup, srcOf_lst, srcOf_fz, if_true, if_false, Bool.false_eq_true, Bool.true_eq_false, reduceIte, Nat.reduceAdd, Nat.reduceLeDiff, Nat.reduceEqDiff, decide_true, decide_false, and_self, and_true, true_and, cellB, intsD, List.length_map, h', h0', oMul_r _ _ 7919 i1 i2, oMod_int _ 2147483647 i8, oMul_r _ _ 31 i9 i10]
      simp only [cellV, dif_neg h, if_neg h0]
structure Fl where
  own : Int
  cnt : Int
  seed : Int
def Fl.c (s : Fl) : Cell := .lst [.int s.own, .int s.cnt, .int s.seed]
/-- a flow that may be drawn of -/
def Fl.ok (s : Fl) : Prop := -9223372036854775808 < s.seed ∧ s.seed < 9223372036854775808
/-- the body of _law_flow, by the model of _law_cell -/
def flowB (g : FD) : FS := (mSeq (mSet 2 (mFun 2 g [] (aCons (mVar 0) (aCons (mVar 1) aNil)))) (mSeq (mSet 3 (mC (.int 0))) (mSeq (mIfS (bOf (mOp oGe (mVar 2) (mOp oPow (mC (.int 10)) (mC (.int 18))))) (mSet 3 (mVar 2)) mPass) (mRet (mLst true (aCons (mVar 3) (aCons (mC (.int 0)) (aCons (mOp (oAdd false) (mOp oMod (mVar 2) (mC (.int 2147483629))) (mOp (oMul false) (mC (.int 40692)) (mVar 1))) aNil))))))))
theorem pow_10_18 {M : Mem} : oPow (.int 10) (.int 18) M = .ok (.int 1000000000000000000) M := by
  have h : powOk 10 18 = true := by decide +kernel
  have e : (10 : Int) ^ (18 : Int).toNat = 1000000000000000000 := by decide +kernel
  simp only [oPow, oIC, h, if_true, e]
theorem flow_run (g : FD) (ns : List Int) (k : Nat) (M : Mem) (hk : k < 1000) (hg : g [.fz (intsD ns), .int k] M = .ok (.int (cellV ns k)) M) :
    ∃ s : Fl, s.ok ∧ flowB g [some (.fz (intsD ns)), some (.int k), none, none] M = .ok (.rt (.ref M.length)) (M ++ [s.c]) := by
  have h1 : 0 ≤ cellV ns k % 2147483629 := Int.emod_nonneg _ (by omega)
  have h2 : cellV ns k % 2147483629 < 2147483629 := Int.emod_lt_of_pos _ (by omega)
  by_cases h : 1000000000000000000 ≤ cellV ns k
  · refine ⟨⟨cellV ns k, 0, cellV ns k % 2147483629 + 40692 * k⟩, ⟨by show _ < _ + _; omega, by show _ + _ < _; omega⟩, ?_⟩
    simp -implicitDefEqProofs only [mSeq_eq, mIfS_eq, mSet_eq, mRet_eq, mRetN_eq, mExpr_eq, mPass_eq, mAsg_eq, mPar_eq, mAug_eq, bOf_eq, tOf_eq, tAndM_eq, tOrM_eq, tNotM_eq, tsYes_eq, mOp_eq, mUn_eq, mVar_eq, mC_eq, mCall_eq, mFun_eq, mFunKw_eq, mMeth_eq, mAnd_eq, mOr_eq, mNot_eq, mIf_eq, mChain_eq, mSl_eq, pNone_eq, pSome_eq, aCons_eq, aNil_eq, mTup_eq, mLst_eq, gN_eq, gT_eq, gsNil_eq, gsCons_eq, mkL_t, mkL_f, R.bind_ok, R.bind_no, R.nox_ok, List.getElem?_cons_zero, List.getElem?_cons_succ, List.set_cons_zero, List.set_cons_succ, List.length_cons, List.length_nil, List.append_nil, List.nil_append, List.cons_append, piApp_on, oLen_fz, oLen_lst, oLen_tup, oLt_int, oLe_int, oGt_int, oGe_int, oAdd_int, oSub_int, oIx_fz, oIx_lst, oIx_tup, oMax_int, oMin_int, oInt_bl, oInt_int, oIsi_bl, oNeg_int, oTuple_lst, oTuple_tup, iR1_eq, iR2_eq, iSq_eq, iStrM_eq, srcOf_tup, srcOf_lst, srcOf_fz, if_true, if_false, Bool.false_eq_true, Bool.true_eq_false, reduceIte, Nat.reduceAdd, Nat.reduceLeDiff, Nat.reduceEqDiff, decide_true, decide_false, and_self, and_true, true_and, flowB, hg, pow_10_18, decide_eq_true h, oMod_int _ 2147483629 i5, oMul_l _ 40692 _ i11 i12]
    rfl
  · refine ⟨⟨0, 0, cellV ns k % 2147483629 + 40692 * k⟩, ⟨by show _ < _ + _; omega, by show _ + _ < _; omega⟩, ?_⟩
    simp -implicitDefEqProofs only [mSeq_eq, mIfS_eq, mSet_eq, mRet_eq, mRetN_eq, mExpr_eq, mPass_eq, mAsg_eq, mPar_eq, mAug_eq, bOf_eq, tOf_eq, tAndM_eq, tOrM_eq, tNotM_eq, tsYes_eq, mOp_eq, mUn_eq, mVar_eq, mC_eq, mCall_eq, mFun_eq, mFunKw_eq, mMeth_eq, mAnd_eq, mOr_eq, mNot_eq, mIf_eq, mChain_eq, mSl_eq, pNone_eq, pSome_eq, aCons_eq, aNil_eq, mTup_eq, mLst_eq, gN_eq, gT_eq, gsNil_eq, gsCons_eq, mkL_t, mkL_f, R.bind_ok, R.bind_no, R.nox_ok, List.getElem?_cons_zero, List.getElem?_cons_succ, List.set_cons_zero, List.set_cons_succ, List.length_cons, List.length_nil, List.append_nil, List.nil_append, List.cons_append, piApp_on, oLen_fz, oLen_lst, oLen_tup, oLt_int, oLe_int, oGt_int, oGe_int, oAdd_int, oSub_int, oIx_fz, oIx_lst, oIx_tup, oMax_int, oMin_int, oInt_bl, oInt_int, oIsi_bl, oNeg_int, oTuple_lst, oTuple_tup, iR1_eq, iR2_eq, iSq_eq, iStrM_eq, srcOf_tup, srcOf_lst, srcOf_fz, if_true, if_false, Bool.false_eq_true, Bool.true_eq_false, reduceIte, Nat.reduceAdd, Nat.reduceLeDiff, Nat.reduceEqDiff, decide_true, decide_false, and_self, and_true, true_and, flowB, hg, pow_10_18, decide_eq_false h, oMod_int _ 2147483629 i5, oMul_l _ 40692 _ i11 i12]
    rfl
/-- the body of _law_draw -/
def drawB : FS := (mSeq (mIfS (bOf (mOp oGt (mOp oIx (mVar 0) (mC (.int 0))) (mC (.int 0)))) (mSeq (mSet 2 (mOp oMod (mOp oIx (mVar 0) (mC (.int 0))) (mVar 1))) (mSeq (mAsg (mOp oDiv (mOp oIx (mVar 0) (mC (.int 0))) (mVar 1)) (gIx (mVar 0) (mC (.int 0)))) (mRet (mVar 2)))) mPass) (mSeq (mAsg (mOp (oAdd false) (mOp oIx (mVar 0) (mC (.int 1))) (mC (.int 1))) (gIx (mVar 0) (mC (.int 1)))) (mSeq (mSet 3 (mOp oMod (mOp (oAdd false) (mOp (oAdd false) (mOp (oMul false) (mOp oIx (mVar 0) (mC (.int 2))) (mOp (oAdd false) (mC (.int 48271)) (mOp (oMul false) (mC (.int 2)) (mOp oIx (mVar 0) (mC (.int 1)))))) (mOp (oMul false) (mC (.int 7919)) (mOp oIx (mVar 0) (mC (.int 1))))) (mC (.int 1))) (mC (.int 2147483629)))) (mSeq (mSet 3 (mOp oMod (mOp (oMul false) (mVar 3) (mVar 3)) (mC (.int 2147483587)))) (mRet (mOp oMod (mOp oDiv (mOp oMod (mOp (oMul false) (mOp (oAdd false) (mVar 3) (mC (.int 5))) (mOp (oAdd false) (mVar 3) (mC (.int 40692)))) (mC (.int 2147483579))) (mC (.int 31))) (mVar 1)))))))
theorem oIx_ref {M : Mem} {i : Nat} {l : List D} (h : M[i]? = some (.lst l)) (k : Int) : oIx (.ref i) (.int k) M = match atI l k with | some d => .ok d M | none => .no := by
  simp only [oIx, seqOf, lstOf, h]
  all_goals rfl
theorem at0 {α : Type} (a b c : α) : atI [a, b, c] 0 = some a := rfl
theorem at1 {α : Type} (a b c : α) : atI [a, b, c] 1 = some b := rfl
theorem at2 {α : Type} (a b c : α) : atI [a, b, c] 2 = some c := rfl
theorem gIx_eq (fo fi : FE) (d : D) {env : Env} {M : Mem} : gIx fo fi d env M = (fo env M).bind fun o m => (fi env m).bind fun i m' => match o, i with
  | .ref j, .int k => match m'[j]? with
    | some (.lst l) => match ixN l.length k with
      | some n => .ok env (m'.set j (.lst (l.set n d)))
      | none => .no
    | _ => .no
  | _, _ => .no := rfl
theorem ix30 : ixN 3 0 = some 0 := rfl
theorem ix31 : ixN 3 1 = some 1 := rfl
theorem div_ok {many : Int} (h : 0 < many) (h2 : many < 1000000000000000000000000) (i : Int) : divOk i many = true := by
  unfold divOk
  simp only [Bool.and_eq_true, decide_eq_true_eq]
  refine ⟨h, ?_⟩
  have : many.natAbs < 2 ^ 80 := by
    have : (2 : Nat) ^ 80 = 1208925819614629174706176 := by decide +kernel
    omega
  exact Nat.lt_of_lt_of_le (PySem.Flt.log2_lt_of (by decide) this) (by decide)
theorem draw_run (s : Fl) (hs : s.ok) (i : Nat) (M : Mem) (many : Int) (h0 : 0 < many) (h1 : many < 1000000000000000000000000) (hM : M[i]? = some s.c) :
    ∃ (v : Int) (s' : Fl), 0 ≤ v ∧ v < many ∧ s'.ok ∧ drawB [some (.ref i), some (.int many), none, none] M = .ok (.rt (.int v)) (M.set i s'.c) := by
  have hi : i < M.length := (List.getElem?_eq_some_iff.mp hM).1
  have hM' : M[i]? = some (.lst [.int s.own, .int s.cnt, .int s.seed]) := hM
  by_cases h : 0 < s.own
  · refine ⟨s.own % many, ⟨s.own / many, s.cnt, s.seed⟩, Int.emod_nonneg _ (by omega), Int.emod_lt_of_pos _ h0, hs, ?_⟩
    simp -implicitDefEqProofs only [mSeq_eq, mIfS_eq, mSet_eq, mRet_eq, mRetN_eq, mExpr_eq, mPass_eq, mAsg_eq, mPar_eq, mAug_eq, bOf_eq, tOf_eq, tAndM_eq, tOrM_eq, tNotM_eq, tsYes_eq, mOp_eq, mUn_eq, mVar_eq, mC_eq, mCall_eq, mFun_eq, mFunKw_eq, mMeth_eq, mAnd_eq, mOr_eq, mNot_eq, mIf_eq, mChain_eq, mSl_eq, pNone_eq, pSome_eq, aCons_eq, aNil_eq, mTup_eq, mLst_eq, gN_eq, gT_eq, gsNil_eq, gsCons_eq, mkL_t, mkL_f, R.bind_ok, R.bind_no, R.nox_ok, List.getElem?_cons_zero, List.getElem?_cons_succ, List.set_cons_zero, List.set_cons_succ, List.length_cons, List.length_nil, List.append_nil, List.nil_append, List.cons_append, piApp_on, oLen_fz, oLen_lst, oLen_tup, oLt_int, oLe_int, oGt_int, oGe_int, oAdd_int, oSub_int, oIx_fz, oIx_lst, oIx_tup, oMax_int, oMin_int, oInt_bl, oInt_int, oIsi_bl, oNeg_int, oTuple_lst, oTuple_tup, iR1_eq, iR2_eq, iSq_eq, iStrM_eq, srcOf_tup, srcOf_lst, srcOf_fz, if_true, if_false, Bool.false_eq_true, Bool.true_eq_false, reduceIte, Nat.reduceAdd, Nat.reduceLeDiff, Nat.reduceEqDiff, decide_true, decide_false, and_self, and_true, true_and, drawB, oIx_ref hM', at0, decide_eq_true h, oMod_int _ many h0, oDiv_int _ many (div_ok h0 h1 _), gIx_eq, hM', ix30]
    rfl
  · have hset : (M.set i (.lst [.int s.own, .int (s.cnt + 1), .int s.seed]))[i]? = some (.lst [.int s.own, .int (s.cnt + 1), .int s.seed]) := List.getElem?_set_self hi
    let n1 : Int := (s.seed * (48271 + 2 * (s.cnt + 1)) + 7919 * (s.cnt + 1) + 1) % 2147483629
    let n2 : Int := n1 * n1 % 2147483587
    have b1 : 0 ≤ n1 := Int.emod_nonneg _ (by omega)
    have b2 : n1 < 2147483629 := Int.emod_lt_of_pos _ (by omega)
    have b3 : 0 ≤ n2 := Int.emod_nonneg _ (by omega)
    have b4 : n2 < 2147483587 := Int.emod_lt_of_pos _ (by omega)
    refine ⟨(n2 + 5) * (n2 + 40692) % 2147483579 / 31 % many, ⟨s.own, s.cnt + 1, s.seed⟩, Int.emod_nonneg _ (by omega), Int.emod_lt_of_pos _ h0, hs, ?_⟩
    simp -implicitDefEqProofs only [mSeq_eq, mIfS_eq, mSet_eq, mRet_eq, mRetN_eq, mExpr_eq, mPass_eq, mAsg_eq, mPar_eq, mAug_eq, bOf_eq, tOf_eq, tAndM_eq, tOrM_eq, tNotM_eq, tsYes_eq, mOp_eq, mUn_eq, mVar_eq, mC_eq, mCall_eq, mFun_eq, mFunKw_eq, mMeth_eq, mAnd_eq, mOr_eq, mNot_eq, mIf_eq, mChain_eq, mSl_eq, pNone_eq, pSome_eq, aCons_eq, aNil_eq, mTup_eq, mLst_eq, gN_eq, gT_eq, gsNil_eq, gsCons_eq, mkL_t, mkL_f, R.bind_ok, R.bind_no, R.nox_ok, List.getElem?_cons_zero, List.getElem?_cons_succ, List.set_cons_zero, List.set_cons_succ, List.length_cons, List.length_nil, List.append_nil, List.nil_append, List.cons_append, piApp_on, oLen_fz, oLen_lst, oLen_tup, oLt_int, oLe_int, oGt_int, oGe_int, oAdd_int, oSub_int, oIx_fz, oIx_lst, oIx_tup, oMax_int, oMin_int, oInt_bl, oInt_int, oIsi_bl, oNeg_int, oTuple_lst, oTuple_tup, iR1_eq, iR2_eq, iSq_eq, iStrM_eq, srcOf_tup, srcOf_lst, srcOf_fz, if_true, if_false, Bool.false_eq_true, Bool.true_eq_false, reduceIte, Nat.reduceAdd, Nat.reduceLeDiff, Nat.reduceEqDiff, decide_true, decide_false, and_self, and_true, true_and, drawB, oIx_ref hM', at0, at1, decide_eq_false h, gIx_eq, hM', ix31, oIx_ref hset, at2, oMul_l _ 2 _ i13 i14, oMul_l _ 7919 _ i1 i2, oMul_l _ s.seed _ (by have := hs.1; omega) (by have := hs.2; omega), oMod_int _ 2147483629 i5]
    have e1 : (s.seed * (48271 + 2 * (s.cnt + 1)) + 7919 * (s.cnt + 1) + 1) % 2147483629 = n1 := rfl
    simp -implicitDefEqProofs only [mSeq_eq, mIfS_eq, mSet_eq, mRet_eq, mRetN_eq, mExpr_eq, mPass_eq, mAsg_eq, mPar_eq, mAug_eq, bOf_eq, tOf_eq, tAndM_eq, tOrM_eq, tNotM_eq, tsYes_eq, mOp_eq, mUn_eq, mVar_eq, mC_eq, mCall_eq, mFun_eq, mFunKw_eq, mMeth_eq, mAnd_eq, mOr_eq, mNot_eq, mIf_eq, mChain_eq, mSl_eq, pNone_eq, pSome_eq, aCons_eq, aNil_eq, mTup_eq, mLst_eq, gN_eq, gT_eq, gsNil_eq, gsCons_eq, mkL_t, mkL_f, R.bind_ok, R.bind_no, R.nox_ok, List.getElem?_cons_zero, List.getElem?_cons_succ, List.set_cons_zero, List.set_cons_succ, List.length_cons, List.length_nil, List.append_nil, List.nil_append, List.cons_append, piApp_on, oLen_fz, oLen_lst, oLen_tup, oLt_int, oLe_int, oGt_int, oGe_int, oAdd_int, oSub_int, oIx_fz, oIx_lst, oIx_tup, oMax_int, oMin_int, oInt_bl, oInt_int, oIsi_bl, oNeg_int, oTuple_lst, oTuple_tup, iR1_eq, iR2_eq, iSq_eq, iStrM_eq, srcOf_tup, srcOf_lst, srcOf_fz, if_true, if_false, Bool.false_eq_true, Bool.true_eq_false, reduceIte, Nat.reduceAdd, Nat.reduceLeDiff, Nat.reduceEqDiff, decide_true, decide_false, and_self, and_true, true_and, e1, oMul_l _ n1 _ (by omega) (by omega), oMod_int _ 2147483587 i15]
    have e2 : n1 * n1 % 2147483587 = n2 := rfl
    simp -implicitDefEqProofs only [mSeq_eq, mIfS_eq, mSet_eq, mRet_eq, mRetN_eq, mExpr_eq, mPass_eq, mAsg_eq, mPar_eq, mAug_eq, bOf_eq, tOf_eq, tAndM_eq, tOrM_eq, tNotM_eq, tsYes_eq, mOp_eq, mUn_eq, mVar_eq, mC_eq, mCall_eq, mFun_eq, mFunKw_eq, mMeth_eq, mAnd_eq, mOr_eq, mNot_eq, mIf_eq, mChain_eq, mSl_eq, pNone_eq, pSome_eq, aCons_eq, aNil_eq, mTup_eq, mLst_eq, gN_eq, gT_eq, gsNil_eq, gsCons_eq, mkL_t, mkL_f, R.bind_ok, R.bind_no, R.nox_ok, List.getElem?_cons_zero, List.getElem?_cons_succ, List.set_cons_zero, List.set_cons_succ, List.length_cons, List.length_nil, List.append_nil, List.nil_append, List.cons_append, piApp_on, oLen_fz, oLen_lst, oLen_tup, oLt_int, oLe_int, oGt_int, oGe_int, oAdd_int, oSub_int, oIx_fz, oIx_lst, oIx_tup, oMax_int, oMin_int, oInt_bl, oInt_int, oIsi_bl, oNeg_int, oTuple_lst, oTuple_tup, iR1_eq, iR2_eq, iSq_eq, iStrM_eq, srcOf_tup, srcOf_lst, srcOf_fz, if_true, if_false, Bool.false_eq_true, Bool.true_eq_false, reduceIte, Nat.reduceAdd, Nat.reduceLeDiff, Nat.reduceEqDiff, decide_true, decide_false, and_self, and_true, true_and, e2, oMul_l _ (n2 + 5) _ (by omega) (by omega), oMod_int _ 2147483579 i16, oDiv_int _ 31 (div_ok i17 i18 _), oMod_int _ many h0]
    rfl
theorem forL_nil {g : FG} {body : FS} {env : Env} {M : Mem} : forL (fun _ => True) g body [] env M = .ok (.nx env) M := by
  unfold forL; rw [if_pos trivial]
theorem forL_cons {g : FG} {body : FS} {d : D} {r : List D} {env : Env} {M : Mem} : forL (fun _ => True) g body (d :: r) env M = (g d env M).bind fun env1 m1 => (body env1 m1).bind fun fl m => match fl with
      | .nx env' => forL (fun _ => True) g body r env' m
      | .ct env' => forL (fun _ => True) g body r env' m
      | .bk env' => .ok (.nx env') m
      | .rt d => .ok (.rt d) m := by
  conv => lhs; unfold forL
  rw [if_pos trivial]
  all_goals rfl
theorem forL_inv {g : FG} {body : FS} (P : Nat → Env → Mem → Prop) : ∀ (items : List D) (k0 : Nat) (env : Env) (M : Mem), P k0 env M →
    (∀ (k : Nat) d env M, items[k]? = some d → P (k0 + k) env M → ∃ env' m', ((g d env M).bind fun e1 m1 => body e1 m1) = .ok (.nx env') m' ∧ P (k0 + k + 1) env' m') →
    ∃ env' m', forL (fun _ => True) g body items env M = .ok (.nx env') m' ∧ P (k0 + items.length) env' m'
  | [], k0, env, M, h0, _ => ⟨env, M, forL_nil, h0⟩
  | d :: r, k0, env, M, h0, hs => by
    obtain ⟨env1, m1, e1, h1⟩ := hs 0 d env M rfl h0
    obtain ⟨env2, m2, e2, h2⟩ := forL_inv P r (k0 + 1) env1 m1 h1 fun k d' env' M' hk hp => by
      have := hs (k + 1) d' env' M' (by simpa using hk) (by rw [show k0 + (k + 1) = k0 + 1 + k by omega]; exact hp)
      rw [show k0 + (k + 1) + 1 = k0 + 1 + k + 1 by omega] at this
      exact this
    refine ⟨env2, m2, ?_, by rw [show k0 + (d :: r).length = k0 + 1 + r.length by simp; omega]; exact h2⟩
    rw [forL_cons]
    obtain ⟨ea, ma, ea1, ea2⟩ := R.bind_eq e1
    rw [ea1, R.bind_ok, ea2, R.bind_ok]
    exact e2
theorem compL_nil {g : FG} {t : FT} {f : FE} {env : Env} {M : Mem} : compL (fun _ => True) g t f env [] M = .ok [] M := by
  unfold compL; rw [if_pos trivial]
theorem compL_cons {g : FG} {t : FT} {f : FE} {env : Env} {d : D} {r : List D} {M : Mem} : compL (fun _ => True) g t f env (d :: r) M = (g d env M).bind fun env1 m1 => (t env1 m1).bind fun b m2 => if b = true then (f env1 m2).bind fun y m3 => (compL (fun _ => True) g t f env r m3).bind fun ys m4 => .ok (y :: ys) m4 else compL (fun _ => True) g t f env r m2 := by
  conv => lhs; unfold compL
  rw [if_pos trivial]
/-- a comprehension without tests, its elements each by the memory as it is -/
theorem compL_inv {g : FG} {f : FE} {env : Env} (P : Nat → Mem → Prop) (Y : Nat → D → D → Prop) : ∀ (items : List D) (k0 : Nat) (M : Mem), P k0 M →
    (∀ (k : Nat) d M, items[k]? = some d → P (k0 + k) M → ∃ y m', ((g d env M).bind fun e1 m1 => f e1 m1) = .ok y m' ∧ Y (k0 + k) d y ∧ P (k0 + k + 1) m') →
    ∃ ys m', compL (fun _ => True) g tsYes f env items M = .ok ys m' ∧ ys.length = items.length ∧ (∀ (k : Nat) d y, items[k]? = some d → ys[k]? = some y → Y (k0 + k) d y) ∧ P (k0 + items.length) m'
  | [], k0, M, h0, _ => ⟨[], M, compL_nil, rfl, fun k d y e => by simp at e, h0⟩
  | d :: r, k0, M, h0, hs => by
    obtain ⟨y, m1, e1, y1, h1⟩ := hs 0 d M rfl h0
    obtain ⟨ys, m2, e2, l2, y2, h2⟩ := compL_inv P Y r (k0 + 1) m1 h1 fun k d' M' hk hp => by
      have := hs (k + 1) d' M' (by simpa using hk) (by rw [show k0 + (k + 1) = k0 + 1 + k by omega]; exact hp)
      rw [show k0 + (k + 1) + 1 = k0 + 1 + k + 1 by omega, show k0 + (k + 1) = k0 + 1 + k by omega] at this
      exact this
    refine ⟨y :: ys, m2, ?_, by simp [l2], fun k d' y' hk hy => ?_, by rw [show k0 + (d :: r).length = k0 + 1 + r.length by simp; omega]; exact h2⟩
    · rw [compL_cons]
      obtain ⟨ea, ma, ea1, ea2⟩ := R.bind_eq e1
      rw [ea1, R.bind_ok, tsYes_eq, R.bind_ok, if_pos rfl, ea2, R.bind_ok, e2, R.bind_ok]
    · cases k with
      | zero => simp at hk hy; subst hk hy; exact y1
      | succ k => rw [show k0 + (k + 1) = k0 + 1 + k by omega]; exact y2 k d' y' (by simpa using hk) (by simpa using hy)
theorem mLc_eq (c : Bool) (vs : List Nat) (fi : FI) (g : FG) (t : FT) (f : FE) {env : Env} {M : Mem} : mLc c vs fi g t f env M = (fi env M).bind fun src m => if src.items.length < 16777216 then (compL src.still g t f (wipeE env vs) src.items m).nox.bind fun ys m' => mkL c ys m' else .no := rfl
theorem mFor_eq (f : FI) (g : FG) (body : FS) {env : Env} {M : Mem} : mFor f g body env M = (f env M).bind fun src m => forL src.still g body src.items env m := rfl
theorem runB_rt {B : FS} {N : Nat} {ds : List D} {M m : Mem} {d : D} (h : B (envStart N ds) M = .ok (.rt d) m) : runB B N ds M = .ok d m := by
  unfold runB; rw [h]
theorem set_twice {M : Mem} {i : Nat} {a b : Cell} : (M.set i a).set i b = M.set i b := List.set_set ..
/-- the memory bears a flow at i, else as M0 -/
structure FlAt (M0 : Mem) (i : Nat) (M : Mem) : Prop where
  at_ : ∃ s : Fl, s.ok ∧ M = M0.set i s.c
  lt : i < M0.length
theorem FlAt.get {M0 M : Mem} {i : Nat} (h : FlAt M0 i M) : ∃ s : Fl, s.ok ∧ M[i]? = some s.c ∧ ∀ s' : Fl, s'.ok → FlAt M0 i (M.set i s'.c) := by
  obtain ⟨s, h1, h2⟩ := h.at_
  refine ⟨s, h1, by rw [h2]; exact List.getElem?_set_self h.lt, fun s' hs => ⟨⟨s', hs, by rw [h2, set_twice]⟩, h.lt⟩⟩
theorem FlAt.start {M : Mem} {i : Nat} {s : Fl} (hs : s.ok) (h : M[i]? = some s.c) : FlAt M i M := by
  obtain ⟨h1, h2⟩ := List.getElem?_eq_some_iff.mp h
  exact ⟨⟨s, hs, by rw [← h2, List.set_getElem_self]⟩, h1⟩
theorem FlAt.len {M0 M : Mem} {i : Nat} (h : FlAt M0 i M) : M.length = M0.length := by
  obtain ⟨s, _, h2⟩ := h.at_
  rw [h2, List.length_set]
theorem FlAt.other {M0 M : Mem} {i j : Nat} (h : FlAt M0 i M) (hj : i ≠ j) : M[j]? = M0[j]? := by
  obtain ⟨s, _, e⟩ := h.at_
  rw [e, List.getElem?_set_ne hj]
theorem rngItems_get {lo : Int} {n k : Nat} {d : D} (h : (rngItems lo n)[k]? = some d) : d = .int (lo + (k : Int)) ∧ k < n := by
  unfold rngItems at h
  rw [List.getElem?_map] at h
  cases q : (List.range n)[k]? with
  | none => rw [q] at h; cases h
  | some j =>
    rw [q] at h; cases h
    obtain ⟨h1, h2⟩ := List.getElem?_eq_some_iff.mp q
    simp at h1 h2
    subst h2
    exact ⟨rfl, h1⟩
theorem rngItems_len {lo : Int} {n : Nat} : (rngItems lo n).length = n := by simp [rngItems]
theorem rngOk_of {i : Int} (h1 : 0 ≤ i) (h2 : i < 4611686018427387904) : rngOk i = true := by
  unfold rngOk
  have e : (2 : Int) ^ 62 = 4611686018427387904 := by decide +kernel
  rw [e]
  simp only [Bool.and_eq_true, decide_eq_true_eq]
  omega
theorem oSl_str {c : Bool} {x : List Nat} {lo hi : Option Int} {M : Mem} (h : x.length ≤ 16777216) : oSl c (.str x) lo hi M = .ok (.str (cutD x lo hi)) M := by
  simp only [oSl, h, if_true]
theorem oSl_tup {c : Bool} {x : List D} {lo hi : Option Int} {M : Mem} : oSl c (.tup x) lo hi M = .ok (.tup (cutD x lo hi)) M := rfl
theorem oSl_lst {x : List D} {lo hi : Option Int} {M : Mem} : oSl false (.lst x) lo hi M = .ok (.lst (cutD x lo hi)) M := rfl
theorem oSl_fz {x : List D} {lo hi : Option Int} {M : Mem} : oSl false (.fz x) lo hi M = .ok (.lst (cutD x lo hi)) M := rfl
theorem cutD_len {α : Type} (xs : List α) (lo hi : Option Int) : (cutD xs lo hi).length ≤ xs.length := by
  unfold cutD
  rw [List.length_take, List.length_drop]
  omega
theorem cutD_take {α : Type} (xs : List α) (k : Nat) : cutD xs none (some (k : Int)) = xs.take k := by
  unfold cutD
  rw [HT.sIx_none, HT.sIx_nat, List.drop_zero, Nat.sub_zero]
  by_cases h : k ≤ xs.length
  · rw [Nat.min_eq_left h]
  · rw [Nat.min_eq_right (by omega), List.take_of_length_le (Nat.le_refl _), List.take_of_length_le (by omega)]
theorem cutD_drop {α : Type} (xs : List α) (k : Nat) : cutD xs (some (k : Int)) none = xs.drop k := by
  unfold cutD
  rw [HT.sIx_none, HT.sIx_nat]
  by_cases h : k ≤ xs.length
  · rw [Nat.min_eq_left h, List.take_of_length_le]
    rw [List.length_drop]
    omega
  · rw [Nat.min_eq_right (by omega), List.drop_eq_nil_of_le (Nat.le_refl _), List.drop_eq_nil_of_le (by omega)]
    simp
theorem oIx_str {x : List Nat} {i : Int} {c : Nat} {M : Mem} (h : x.length ≤ 16777216) (e : atI x i = some c) : oIx (.str x) (.int i) M = .ok (.str [c]) M := by
  simp only [oIx, h, if_true, e]
theorem atI_some {α : Type} {xs : List α} {i : Int} (h0 : 0 ≤ i) (h1 : i < xs.length) : ∃ v, atI xs i = some v ∧ v ∈ xs := by
  obtain ⟨j, rfl⟩ : ∃ j : Nat, i = (j : Int) := ⟨i.toNat, by omega⟩
  have hj : j < xs.length := by omega
  exact ⟨xs[j], atI_nat (List.getElem?_eq_getElem hj), List.getElem_mem hj⟩
theorem oAdd_str {c : Bool} {a b : List Nat} {M : Mem} (h : a.length + b.length ≤ 16777216) : oAdd c (.str a) (.str b) M = .ok (.str (a ++ b)) M := by
  show oAddS (.str a) (.str b) M = _
  simp only [oAddS, h, if_true]
theorem oEq_bl (ne a b : Bool) {M : Mem} : oEq ne (.bl a) (.bl b) M = .ok (.bl (if ne = true then !(a == b) else (a == b))) M := by
  cases ne <;> rfl
theorem oEq_int (ne : Bool) (a b : Int) {M : Mem} : oEq ne (.int a) (.int b) M = .ok (.bl (if ne = true then !(a == b) else (a == b))) M := by
  cases ne <;> rfl
end Fn
set_option Elab.async false
set_option linter.all false
set_option maxRecDepth 100000
set_option maxHeartbeats 1000000
namespace Fn
open PySem PySem.Spec PyProof.Rows L2
end Fn
set_option Elab.async false
set_option linter.all false
set_option maxRecDepth 100000
set_option maxHeartbeats 1000000
namespace Fn
open PySem PySem.Spec PyProof.Rows L2
end Fn
set_option Elab.async false
set_option linter.all false
set_option maxRecDepth 100000
set_option maxHeartbeats 4000000
namespace Fn
open PySem PySem.Spec PyProof.Rows L2
section
variable {env : Env} {M : Mem}
theorem lstOf_at {i : Nat} {l : List D} (h : M[i]? = some (.lst l)) : lstOf M (.ref i) = some l := by simp only [lstOf, h]
theorem oAppend_at {i : Nat} {l : List D} {d : D} (h : M[i]? = some (.lst l)) (hl : l.length < 16777216) : oAppend (.ref i) [d] M = .ok .non (M.set i (.lst (l ++ [d]))) := by
  simp only [oAppend, h, if_pos hl]
theorem tyOk_at {i : Nat} {l : List D} (h : M[i]? = some (.lst l)) : tyOk "list" M (.ref i) = true := by
  simp only [tyOk, h]
  all_goals rfl
theorem compL_nilP {P : Mem → Prop} {g : FG} {t : FT} {f : FE} (hP : P M) : compL P g t f env [] M = .ok [] M := by
  unfold compL; rw [if_pos hP]
theorem compL_consP {P : Mem → Prop} {g : FG} {t : FT} {f : FE} {d : D} {r : List D} (hP : P M) : compL P g t f env (d :: r) M = (g d env M).bind fun env1 m1 => (t env1 m1).bind fun b m2 => if b = true then (f env1 m2).bind fun y m3 => (compL P g t f env r m3).bind fun ys m4 => .ok (y :: ys) m4 else compL P g t f env r m2 := by
  conv => lhs; unfold compL
  rw [if_pos hP]
end
def Pl (n : Nat) (d : D) : Prop := ∃ p, pyD d = some p ∧ p.depth ≤ n
def PlL (n : Nat) (l : List D) : Prop := ∀ d ∈ l, Pl n d
theorem PlL.py {n : Nat} : ∀ {l : List D}, PlL n l → ∃ ps, pyL l = some ps ∧ PyData.depthAll ps ≤ n
  | [], _ => ⟨[], rfl, Nat.zero_le _⟩
  | d :: r, h => by
    obtain ⟨p, h1, h2⟩ := h d (List.mem_cons_self ..)
    obtain ⟨ps, h3, h4⟩ := PlL.py (l := r) fun x hx => h x (List.mem_cons_of_mem _ hx)
    refine ⟨p :: ps, by simp only [pyL, h1, h3], ?_⟩
    simp only [PyData.depthAll]
    omega
theorem Pl.str {n : Nat} (x : List Nat) : Pl n (.str x) := ⟨_, rfl, by simp only [PyData.depth]; omega⟩
theorem Pl.int {n : Nat} (x : Int) : Pl n (.int x) := ⟨_, rfl, by simp only [PyData.depth]; omega⟩
theorem Pl.non {n : Nat} : Pl n .non := ⟨_, rfl, by simp only [PyData.depth]; omega⟩
theorem Pl.bl {n : Nat} (x : Bool) : Pl n (.bl x) := ⟨_, rfl, by simp only [PyData.depth]; omega⟩
theorem Pl.tup {n : Nat} {l : List D} (h : PlL n l) : Pl (n + 1) (.tup l) := by
  obtain ⟨ps, h1, h2⟩ := h.py
  exact ⟨.tuple ps, by simp only [pyD, h1, Option.map_some], by simp only [PyData.depth]; omega⟩
theorem Pl.lst {n : Nat} {l : List D} (h : PlL n l) : Pl (n + 1) (.lst l) := by
  obtain ⟨ps, h1, h2⟩ := h.py
  exact ⟨.list ps, by simp only [pyD, h1, Option.map_some], by simp only [PyData.depth]; omega⟩
theorem Pl.mono {n m : Nat} {d : D} (h : Pl n d) (hm : n ≤ m) : Pl m d := by
  obtain ⟨p, h1, h2⟩ := h
  exact ⟨p, h1, by omega⟩
theorem PlL.nil {n : Nat} : PlL n [] := fun d h => by cases h
theorem PlL.cons {n : Nat} {d : D} {l : List D} (h : Pl n d) (t : PlL n l) : PlL n (d :: l) := fun x hx => by
  rcases List.mem_cons.mp hx with rfl | hx
  · exact h
  · exact t x hx
mutual
theorem pyD_bd {n : Nat} : ∀ {d : D} {p : PyData}, pyD d = some p → bdD n d = true
  | .non, _, _ => rfl
  | .bl _, _, _ => rfl
  | .int _, _, _ => rfl
  | .str _, _, _ => rfl
  | .tup l, p, e => by
    simp only [pyD] at e
    cases q : pyL l with
    | none => rw [q] at e; cases e
    | some ps => exact pyL_bd q
  | .ct l, p, e => by
    simp only [pyD] at e
    cases q : pyL l with
    | none => rw [q] at e; cases e
    | some ps => exact pyL_bd q
  | .lst l, p, e => by
    simp only [pyD] at e
    cases q : pyL l with
    | none => rw [q] at e; cases e
    | some ps => exact pyL_bd q
  | .fz l, p, e => by
    simp only [pyD] at e
    cases q : pyL l with
    | none => rw [q] at e; cases e
    | some ps => exact pyL_bd q
  | .ref i, p, e => by cases e
theorem pyL_bd {n : Nat} : ∀ {l : List D} {ps : List PyData}, pyL l = some ps → bdL n l = true
  | [], _, _ => rfl
  | d :: l, ps, e => by
    simp only [pyL] at e
    split at e
    · rename_i a b h1 h2
      simp only [bdL, pyD_bd h1, pyL_bd h2, Bool.and_self]
    · cases e
end
theorem PlL.bd {k n : Nat} {l : List D} (h : PlL k l) : bdL n l = true := by
  obtain ⟨ps, h1, _⟩ := h.py
  exact pyL_bd h1
structure Fd where
  own : Int
  seed : Int
  cnt : Int
def Fd.c (s : Fd) : Cell := .lst [.int s.own, .int s.seed, .int s.cnt]
structure FdAt (M0 : Mem) (i : Nat) (M : Mem) : Prop where
  at_ : ∃ s : Fd, M = M0.set i s.c
  lt : i < M0.length
theorem FdAt.get {M0 M : Mem} {i : Nat} (h : FdAt M0 i M) : ∃ s : Fd, M[i]? = some s.c ∧ ∀ s' : Fd, FdAt M0 i (M.set i s'.c) := by
  obtain ⟨s, h2⟩ := h.at_
  exact ⟨s, by rw [h2]; exact List.getElem?_set_self h.lt, fun s' => ⟨⟨s', by rw [h2, set_twice]⟩, h.lt⟩⟩
theorem FdAt.start {M : Mem} {i : Nat} {s : Fd} (h : M[i]? = some s.c) : FdAt M i M := by
  obtain ⟨h1, h2⟩ := List.getElem?_eq_some_iff.mp h
  exact ⟨⟨s, by rw [← h2, List.set_getElem_self]⟩, h1⟩
theorem FdAt.len {M0 M : Mem} {i : Nat} (h : FdAt M0 i M) : M.length = M0.length := by
  obtain ⟨s, h2⟩ := h.at_
  rw [h2, List.length_set]
theorem FdAt.other {M0 M : Mem} {i j : Nat} (h : FdAt M0 i M) (hj : i ≠ j) : M[j]? = M0[j]? := by
  obtain ⟨s, e⟩ := h.at_
  rw [e, List.getElem?_set_ne hj]
theorem FdAt.trans {M0 M1 M2 : Mem} {i : Nat} (h : FdAt M0 i M1) (h' : FdAt M1 i M2) : FdAt M0 i M2 := by
  obtain ⟨s, e⟩ := h.at_
  obtain ⟨s', e'⟩ := h'.at_
  exact ⟨⟨s', by rw [e', e, set_twice]⟩, h.lt⟩
theorem FdAt.self {M0 M1 : Mem} {i : Nat} (h : FdAt M0 i M1) : FdAt M1 i M1 := by
  obtain ⟨s, h1, _⟩ := h.get
  exact .start h1
theorem app_get0 {A B : Mem} {c : Cell} {N : Nat} (h : A.length = N) : (A ++ c :: B)[N]? = some c := by
  rw [List.getElem?_append_right (by omega), h, Nat.sub_self]; rfl
theorem app_get1 {A B : Mem} {c c' : Cell} {N : Nat} (h : A.length = N) : (A ++ c :: c' :: B)[N + 1]? = some c' := by
  rw [List.getElem?_append_right (by omega), h, Nat.add_sub_cancel_left]; rfl
theorem app_set0 {A B : Mem} {c d : Cell} {N : Nat} (h : A.length = N) : (A ++ c :: B).set N d = A ++ d :: B := by
  rw [List.set_append_right _ _ (by omega), h, Nat.sub_self]; rfl
theorem app_set1 {A B : Mem} {c c' d : Cell} {N : Nat} (h : A.length = N) : (A ++ c :: c' :: B).set (N + 1) d = A ++ c :: d :: B := by
  rw [List.set_append_right _ _ (by omega), h, Nat.add_sub_cancel_left]; rfl
end Fn
set_option Elab.async false
set_option linter.all false
set_option maxRecDepth 100000
set_option maxHeartbeats 1000000
namespace Fn
open PySem PySem.Spec PyProof.Rows L2
section
variable {prog : Program} {w : World} {A : Around} {E : Value → Shared → Prop} {s : Shared}
/-- a tuple's values, those amid in a new list -/
theorem star_of {l : Addr} {vs : Array Value} {n i : Nat} {Q : List Value → Shared → Prop} (pl : IsTup s.heap l vs) (nh : A.handled = none) (lt : i < n) (le : n ≤ vs.size + 1) (sz : vs.size ≤ 16384)
    (q : ∀ (h' : Heap) (tk : Nat), (∀ b o, s.heap.get? b = some o → h'.get? b = some o) →
      Q (vs.toList.take i ++ [.ref h'.objs.size] ++ (vs.toList.drop i).drop (vs.size + 1 - n)) { s with heap := h'.push { cls := .type "list", data := .seq ((vs.toList.drop i).take (vs.size + 1 - n)).toArray }, toks := tk }) :
    wpAny (model prog w) A (unpackItems (.ref l) n (some i)) Q E s := by
  have here : l < s.heap.objs.size := let ⟨_, e, _⟩ := pl; Heap.lt_size e
  have apart : l ≠ s.heap.objs.size := Nat.ne_of_lt here
  unfold unpackItems notIterableAtAll
  refine wpAny_bind (wpAny_bind (wpAny_specialOf pl.typeIs slot_tuple_iter.lookup (wpAny_pure ?_)))
  simp only [Bool.false_eq_true, if_false]
  refine wpAny_bind (wpAny_holding (iter_tuple pl (wpAny_bind (wpAny_holding (draw_tuple apart i 0 _ _ ⟨_, Heap.get?_push_size _ rfl, rfl, rfl⟩ (pl.push _) (by omega) fun g it same => ?_)))))
  have pl1 : IsTup g l vs := (pl.push _).extBut same.extBut apart
  have old1 : ∀ b o, s.heap.get? b = some o → g.get? b = some o := fun b o e => same.extBut b o (Nat.ne_of_lt (Heap.lt_size e)) (Heap.get?_push_of_some _ e)
  rw [Nat.zero_add] at it
  have itl : s.heap.objs.size < g.objs.size := let ⟨_, e, _⟩ := it; Heap.lt_size e
  have lg : l < g.objs.size := let ⟨_, e, _⟩ := pl1; Heap.lt_size e
  have fl : (vs.toList.take i).length = i := by simp; omega
  have dl : (vs.toList.drop i).length = vs.size - i := by simp
  simp only [List.drop_zero, fl, Nat.lt_irrefl, if_false]
  refine wpAny_bind (wpAny_holding (PySem.W.kun_collect (s := { s with heap := g }) (T := "tuple_iterator") (.inr (.inr (.inr rfl))) (Walks.tuple (A := A.in1) nh s.heap.objs.size l apart vs) (fun _ _ st => st.1.typeIs) (k := i) (by omega) ⟨it, pl1⟩ itl lg (fun g2 tk kp => ?_) (by rw [sizeLine_eq]; omega)))
  have cnt : vs.size - i - (n - 1 - i) = vs.size + 1 - n := by omega
  simp only [dl, show ¬ (vs.size - i < n - 1 - i) by omega, if_false, cnt]
  refine wpAny_bind (wpAny_newList (wpAny_pure (q g2 tk (fun b o e => kp b o (Nat.ne_of_lt (Heap.lt_size e)) (old1 b o e)))) (by rw [List.length_take, dl, sizeLine_eq]; omega))
end
section
variable {X : Cx} {G : Gx} {cl : Nat → Addr} {E : XK} {W : Wd} {H : Hp} {M : Mem} {pos : Pos}
/-- a, *b, c = a tuple -/
def gStar (K : PySem.W.Frag) (n i : Nat) (t : TGs) : TG := fun v σ H Q => ∃ a xs, v = .ref a ∧ SqT K H a xs ∧ n ≤ xs.length + 1 ∧ xs.length ≤ 16384 ∧ ∀ p, H p = none → t (xs.take i ++ [.ref p] ++ (xs.drop i).drop (xs.length + 1 - n)) σ (upd H p (.lst ((xs.drop i).take (xs.length + 1 - n)))) Q
theorem pg_star {es : List Expr} {k : Nat} {t : TGs} {n i : Nat} (hc : X.calm = true) (h : PGs X es t) (lt : i < n)
    (hn : (assignEach es X.env).length = n := by rfl) (hst : (assignEach es X.env).findIdx? (·.1) = some i := by rfl) : PG X (.Tuple es k pos) (gStar X.K n i t) := by
  refine ⟨fun pins s σ H v u Q I r hw => ?_⟩
  obtain ⟨a, xs, rfl, hq, le, sz, hw⟩ := hw
  cases r
  obtain ⟨its, rv, ht, hz⟩ := I.tuple hq
  have el : its.length = xs.length := rv.length.symm
  have ez : its.toArray.size = xs.length := by rw [List.size_toArray, el]
  rw [PyProof.Rows.assign_Tuple]
  refine wpAny_bind (wpAny_standAt ?_)
  unfold unpack
  rw [hn, hst]
  refine wpAny_bind (wpAny_holding (star_of ht (I.ok.hd hc) lt (by omega) (by omega) fun g tk kp => ?_))
  have I1 : Inv X pins σ H { s with heap := g, toks := tk } := I.kept kp
  have fr : H g.objs.size = none := I1.hok.fresh (Nat.le_refl _)
  have rm : Vals ((xs.drop i).take (xs.length + 1 - n)) ((its.drop i).take (xs.length + 1 - n)) := (rv.drop i).take _
  have I2 : Inv X pins σ (upd H g.objs.size (.lst ((xs.drop i).take (xs.length + 1 - n)))) { s with heap := g.push { cls := .type "list", data := .seq ((its.drop i).take (xs.length + 1 - n)).toArray }, toks := tk } :=
    I1.laid (t' := tk) (fun b o e => Heap.get?_push_of_some _ e) (Nat.le_refl _) ⟨by rw [List.length_take, List.length_drop, sizeLine_eq]; omega, _, 0, rm, Heap.get?_push_size _ rfl⟩
  rw [ez]
  exact h.run pins _ σ _ _ _ Q I2 (((rv.take i).append (.cons (show RelV (.ref g.objs.size) (.ref g.objs.size) from rfl) .nil)).append ((rv.drop i).drop _)) (hw _ fr)
def gS (n i : Nat) (g : FGs) : FG := fun d env M => match d with
  | .tup l => if n ≤ l.length + 1 ∧ l.length ≤ 16384 then g (l.take i ++ [.lst ((l.drop i).take (l.length + 1 - n))] ++ (l.drop i).drop (l.length + 1 - n)) env M else .no
  | .ct l => if n ≤ l.length + 1 ∧ l.length ≤ 16384 then g (l.take i ++ [.lst ((l.drop i).take (l.length + 1 - n))] ++ (l.drop i).drop (l.length + 1 - n)) env M else .no
  | _ => .no
theorem pgs_star {e : Expr} {p : Pos} {es : List Expr} {t : TG} {u : TGs} (h1 : PG X e t) (h2 : PGs X es u)
    (hs : (assignEach (.Starred e p :: es) X.env).map (·.2) = assign e X.env :: (assignEach es X.env).map (·.2) := by rfl) : PGs X (.Starred e p :: es) (gCons t u) := by
  refine ⟨fun pins s σ H xs us Q I rx k => ?_⟩
  obtain ⟨x, xr, rfl, k⟩ := k
  rw [hs]
  cases rx with
  | cons ra rb => exact assignInOrder_cons (thn (h1.run pins s σ H _ _ _ I ra k) fun _ s2 ⟨σ2, H2, I2, k2⟩ => h2.run pins s2 σ2 H2 _ _ Q I2 rb k2)
theorem sgs_star {e : Expr} {p : Pos} {es : List Expr} {f : FG} {g : FGs} {sl : List Nat} (h1 : PG X e (tGt G E sl f)) (h2 : PGs X es (tGts G E sl g))
    (hs : (assignEach (.Starred e p :: es) X.env).map (·.2) = assign e X.env :: (assignEach es X.env).map (·.2) := by rfl) : PGs X (.Starred e p :: es) (tGts G E sl (gsCons f g)) := pgs_imp (pgs_star h1 h2 hs) fun v σ H Q ⟨W, env, M, ds, s, r, p⟩ => by
  cases ds with
  | nil => exact p.elim
  | cons d r' =>
    obtain ⟨u, us, e1, r1, r2⟩ := r
    exact ⟨u, us, e1, W, env, M, d, s, r1, PR.bind p fun env1 m W1 H1 f1 k1 p1 => fun σ1 en ew => ⟨W1, env1, m, r', ⟨k1, en⟩, s.mem.rpL f1 r2, PR.mono p1 fun env2 m2 W2 H2 f2 k2 q σ2 en2 ew2 => q σ2 en2 (ew2.trans ew)⟩⟩
theorem sg_star {es : List Expr} {k : Nat} {g : FGs} {n i : Nat} {sl : List Nat} (hc : X.calm = true) (h : PGs X es (tGts ⟨X.K, cl⟩ E sl g)) (lt : i < n)
    (hn : (assignEach es X.env).length = n := by rfl) (hst : (assignEach es X.env).findIdx? (·.1) = some i := by rfl) : PG X (.Tuple es k pos) (tGt ⟨X.K, cl⟩ E sl (gS n i g)) := pg_imp (pg_star hc h lt hn hst) fun v σ H Q ⟨W, env, M, d, s, r, p⟩ => by
  unfold gS at p
  split at p
  · rename_i l
    obtain ⟨a1, us, e1, s1, r1⟩ := r
    split at p
    · rename_i hl
      refine ⟨a1, us, e1, s1.sq, by rw [r1.len]; exact hl.1, by rw [r1.len]; exact hl.2, fun q hq => ?_⟩
      have f : Fut W H W (upd H q (.lst ((us.drop i).take (us.length + 1 - n)))) := Fut.laid hq
      have m1 := s.mem.laid (o := .lst ((us.drop i).take (us.length + 1 - n))) hq
      have nw : q ∉ W.as ∧ q ∉ W.hd := s.mem.fresh hq
      rw [← r1.len] at p
      have rr := s.mem.rpL f r1
      have rl : Rp ⟨X.K, cl⟩ W (upd H q (.lst ((us.drop i).take (us.length + 1 - n)))) (.lst ((l.drop i).take (us.length + 1 - n))) (.ref q) := ⟨q, _, rfl, ⟨upd_same, nw.1, nw.2⟩, RpL.take _ (RpL.drop i rr)⟩
      exact ⟨W, env, M, _, ⟨m1, s.env.fut s.mem f⟩, ((RpL.take i rr).append (show RpL ⟨X.K, cl⟩ W (upd H q (.lst ((us.drop i).take (us.length + 1 - n)))) [.lst ((l.drop i).take (us.length + 1 - n))] [.ref q] from ⟨_, _, rfl, rl, rfl⟩)).append (RpL.drop _ (RpL.drop i rr)), PR.fut f p⟩
    · exact p.elim
  · rename_i l
    obtain ⟨a1, us, e1, s1, r1⟩ := r
    split at p
    · rename_i hl
      refine ⟨a1, us, e1, s1.sq, by rw [r1.len]; exact hl.1, by rw [r1.len]; exact hl.2, fun q hq => ?_⟩
      have f : Fut W H W (upd H q (.lst ((us.drop i).take (us.length + 1 - n)))) := Fut.laid hq
      have m1 := s.mem.laid (o := .lst ((us.drop i).take (us.length + 1 - n))) hq
      have nw : q ∉ W.as ∧ q ∉ W.hd := s.mem.fresh hq
      rw [← r1.len] at p
      have rr := s.mem.rpL f r1
      have rl : Rp ⟨X.K, cl⟩ W (upd H q (.lst ((us.drop i).take (us.length + 1 - n)))) (.lst ((l.drop i).take (us.length + 1 - n))) (.ref q) := ⟨q, _, rfl, ⟨upd_same, nw.1, nw.2⟩, RpL.take _ (RpL.drop i rr)⟩
      exact ⟨W, env, M, _, ⟨m1, s.env.fut s.mem f⟩, ((RpL.take i rr).append (show RpL ⟨X.K, cl⟩ W (upd H q (.lst ((us.drop i).take (us.length + 1 - n)))) [.lst ((l.drop i).take (us.length + 1 - n))] [.ref q] from ⟨_, _, rfl, rl, rfl⟩)).append (RpL.drop _ (RpL.drop i rr)), PR.fut f p⟩
    · exact p.elim
  · exact p.elim
end
end Fn
set_option Elab.async false
set_option linter.all false
set_option maxRecDepth 100000
set_option maxHeartbeats 4000000
namespace Fn
open PySem PySem.Spec PyProof.Rows L2
section
variable {M : Mem}
theorem oLen_refM (i : Nat) : oLen [.ref i] M = match M[i]? with | some (.lst l) => .ok (.int l.length) M | _ => .no := by
  simp only [oLen, seqOf, lstOf]
  cases M[i]? with
  | none => rfl
  | some c => cases c <;> rfl
theorem oIx_refM (i : Nat) (k : Int) : oIx (.ref i) (.int k) M = match M[i]? with | some (.lst l) => (match atI l k with | some d => .ok d M | none => .no) | _ => .no := by
  simp only [oIx, seqOf, lstOf]
  cases M[i]? with
  | none => rfl
  | some c => cases c <;> rfl
theorem oAppM (i : Nat) (d : D) : oAppend (.ref i) [d] M = match M[i]? with | some (.lst l) => (if l.length < 16777216 then .ok .non (M.set i (.lst (l ++ [d]))) else .no) | _ => .no := by
  simp only [oAppend]
  all_goals rfl
theorem oExtM (i : Nat) (d : D) : oExtend (.ref i) [d] M = match M[i]?, ownOf M d with | some (.lst l), some l' => (if l.length + l'.length ≤ 16777216 then .ok .non (M.set i (.lst (l ++ l'))) else .no) | _, _ => .no := by
  simp only [oExtend]
  all_goals rfl
theorem oTuple_ref (i : Nat) : oTuple [.ref i] M = match M[i]? with | some (.lst l) => .ok (.tup l) M | _ => .no := by
  simp only [oTuple, lstOf]
  cases M[i]? with
  | none => rfl
  | some c => cases c <;> rfl
theorem oList_ref {c : Bool} (i : Nat) : oList c [.ref i] M = match M[i]? with | some (.lst l) => mkL c l M | _ => .no := by
  simp only [oList, seqOf, lstOf]
  cases M[i]? with
  | none => rfl
  | some c => cases c <;> rfl
theorem srcOf_refM (i : Nat) : srcOf M (.ref i) = match M[i]? with | some (.lst l) => some ⟨l, fun M' => M'[i]? = some (.lst l)⟩ | _ => none := by
  simp only [srcOf]
  all_goals rfl
end
theorem ifLt24 {α : Sort _} {n : Nat} {a b : α} (h : n < 16777216) : (if n < 16777216 then a else b) = a := if_pos h
theorem ifLe24 {α : Sort _} {n : Nat} {a b : α} (h : n ≤ 16777216) : (if n ≤ 16777216 then a else b) = a := if_pos h
theorem lt_of_get {M : Mem} {k : Nat} {c : Cell} (h : M[k]? = some c) : k < M.length := (List.getElem?_eq_some_iff.mp h).1
theorem compL_fm {P : Mem → Prop} {M : Mem} (hP : P M) {g : FG} {t : FT} {f : FE} {env : Fn.Env} {α : Type} (mk : α → D) (T : α → Bool) (F : α → D) : ∀ (xs : List α), (∀ x ∈ xs, ∃ env1, g (mk x) env M = .ok env1 M ∧ t env1 M = .ok (T x) M ∧ (T x = true → f env1 M = .ok (F x) M)) →
    compL P g t f env (xs.map mk) M = .ok ((xs.filter T).map F) M
  | [], _ => compL_nilP hP
  | d :: r, h => by
    obtain ⟨env1, h1, h2, h3⟩ := h d (List.mem_cons_self ..)
    have ih := compL_fm hP mk T F r fun d' hd => h d' (List.mem_cons_of_mem _ hd)
    rw [List.map_cons, compL_consP hP, h1, R.bind_ok, h2, R.bind_ok]
    cases ht : T d with
    | true => rw [if_pos rfl, h3 ht, R.bind_ok, ih, R.bind_ok, List.filter_cons_of_pos ht, List.map_cons]
    | false => rw [if_neg Bool.false_ne_true, ih, List.filter_cons_of_neg (by simp [ht])]
theorem compL_m {P : Mem → Prop} {M : Mem} (hP : P M) {g : FG} {f : FE} {env : Fn.Env} {α : Type} (mk : α → D) (F : α → D) (xs : List α) (h : ∀ x ∈ xs, ∃ env1, g (mk x) env M = .ok env1 M ∧ f env1 M = .ok (F x) M) :
    compL P g tsYes f env (xs.map mk) M = .ok (xs.map F) M := by
  have := compL_fm hP (t := tsYes) mk (fun _ => true) F xs fun x hx => by
    obtain ⟨env1, h1, h2⟩ := h x hx
    exact ⟨env1, h1, rfl, fun _ => h2⟩
  rw [this, List.filter_eq_self.mpr (fun _ _ => rfl)]
theorem allY {items ys : List D} {Y : D → Prop} (hl : ys.length = items.length) (h : ∀ (k : Nat) (d y : D), items[k]? = some d → ys[k]? = some y → Y y) {y : D} (hy : y ∈ ys) : Y y := by
  obtain ⟨k, hk⟩ := List.getElem?_of_mem hy
  have hk' : k < items.length := by rw [← hl]; exact (List.getElem?_eq_some_iff.mp hk).1
  exact h k _ y (List.getElem?_eq_getElem hk') hk
theorem snoc_of {α : Type} : ∀ {l : List α}, l ≠ [] → ∃ l0 z, l = l0 ++ [z]
  | [], h => absurd rfl h
  | [x], _ => ⟨[], x, rfl⟩
  | x :: y :: r, _ => by
    obtain ⟨l0, z, e⟩ := snoc_of (l := y :: r) (by intro h; cases h)
    exact ⟨x :: l0, z, by rw [e]; rfl⟩
theorem atLast {α : Type} (l : List α) (d : α) : L2.atI (l ++ [d]) (-1) = some d := by
  have e : L2.ixN (l ++ [d]).length (-1) = some l.length := by
    unfold L2.ixN
    rw [if_neg (by omega)]
    simp
    try omega
  unfold L2.atI
  rw [e]
  simp
theorem strsOf_of : ∀ {l : List D}, (∀ d ∈ l, ∃ c : Nat, d = .str [c]) → ∃ w : List Nat, strsOf l = some (w.map fun c => [c]) ∧ w.length = l.length ∧ l = w.map fun c => .str [c]
  | [], _ => ⟨[], rfl, rfl, rfl⟩
  | d :: r, h => by
    obtain ⟨c, rfl⟩ := h d (List.mem_cons_self ..)
    obtain ⟨w, h1, h2, h3⟩ := strsOf_of (l := r) fun d hd => h d (List.mem_cons_of_mem _ hd)
    exact ⟨c :: w, by simp [strsOf, h1], by simp [h2], by rw [h3]; rfl⟩
theorem join_signs : ∀ w : List Nat, joinL [] (w.map fun c => [c]) = w
  | [] => rfl
  | [c] => rfl
  | c :: d :: r => by
    show [c] ++ [] ++ joinL [] ((d :: r).map fun c => [c]) = _
    rw [join_signs (d :: r)]
    rfl
theorem sum_ones : ∀ w : List Nat, ((w.map fun c => [c]).map (·.length)).sum = w.length
  | [] => rfl
  | c :: r => by
    simp only [List.map_cons, List.sum_cons, sum_ones r, List.length_cons, List.length_nil]
    omega
theorem any_str (w : List Nat) : ∀ F : List (List Nat), ((F.map D.str).any fun y => eqF y (.str w)) = decide (w ∈ F)
  | [] => by simp
  | x :: r => by
    rw [List.map_cons, List.any_cons, any_str w r]
    show (x == w || _) = _
    by_cases h : x = w
    · subst h; simp
    · have : (x == w) = false := beq_eq_false_iff_ne.mpr h
      rw [this, Bool.false_or]
      congr 1
      rw [List.mem_cons, eq_iff_iff]
      exact ⟨.inr, fun z => z.resolve_left fun e => h e.symm⟩
theorem flat_strs (F : List (List Nat)) : (F.map D.str).all flatD = true := by simp [flatD]
theorem oInF_strs {neg : Bool} {w : List Nat} {d : D} {F : List (List Nat)} {M : Mem} (h : seqOf M d = some (F.map .str)) : oInF neg (.str w) d M = .ok (.bl (neg != decide (w ∈ F))) M := by
  simp only [oInF, h, flat_strs, flatD, and_self, if_true, any_str]
  cases neg <;> simp
theorem sortD_str (ws : List (List Nat)) : sortD (ws.map .str) = (ws.mergeSort fun a b => decide (a ≤ b)).map .str := by
  unfold sortD
  symm
  apply List.map_mergeSort
  intro a _ b _
  have h := PySem.W.dataLe_str (β := List Nat) l2s
  show decide (a ≤ b) = PySem.W.dataLe false encD (.str a) (.str b)
  have h2 : PySem.W.dataLe false (fun b : List Nat => PyData.str (l2s b)) a b = decide (a ≤ b) := by
    rw [h]
    simp [l2s]
    all_goals rfl
  rw [← h2]
  rfl
theorem sortOk_strs (ws : List (List Nat)) : sortOk (ws.map .str) := by
  refine ⟨fun d hd => ?_, fun d hd d' hd' => ?_, .inr fun d hd => ?_⟩
  · obtain ⟨w, _, rfl⟩ := List.mem_map.mp hd; exact ⟨rfl, by show PyData.depth (.str _) ≤ 60; simp [PyData.depth]⟩
  · obtain ⟨w, _, rfl⟩ := List.mem_map.mp hd
    obtain ⟨w', _, rfl⟩ := List.mem_map.mp hd'
    rfl
  · obtain ⟨w, _, rfl⟩ := List.mem_map.mp hd; rfl
theorem oSorted_strs {c : Bool} {d : D} {ws : List (List Nat)} {M : Mem} (h : lstOf M d = some (ws.map .str)) : oSorted c [d] M = mkL c ((ws.mergeSort fun a b => decide (a ≤ b)).map .str) M := by
  simp only [oSorted, h, if_pos (sortOk_strs ws), sortD_str]
theorem blsOf_map (f : α → Bool) : ∀ l : List α, blsOf (l.map fun x => D.bl (f x)) = some (l.map f)
  | [] => rfl
  | x :: r => by simp only [List.map_cons, blsOf, blsOf_map f r, Option.map_some]
theorem oAll_map {α : Type} (f : α → Bool) (l : List α) {M : Mem} : oAll [.lst (l.map fun x => D.bl (f x))] M = .ok (.bl (l.all f)) M := by
  simp only [oAll, oAllAny, lstOf, Option.bind_some, blsOf_map]
  congr 2
  simp [List.all_map]
theorem mPar3_eq (i j l : Nat) (g : FA) {env : Fn.Env} {M : Mem} : mPar3 i j l g env M = (g env M).bind fun ds m => match ds with
  | [d, d', d''] => .ok (.nx (((env.set i (some d)).set j (some d')).set l (some d''))) m
  | _ => .no := rfl
theorem gc_ref {B : FS} {N : Nat} {ds : List D} {M junk : Mem} {i : Nat} {c : Cell} {l : List D} {ps : List PyData} (hB : runB B N ds M = .ok (.ref M.length) (M.set i c ++ .lst l :: junk)) (hc : bdC M.length c = true) (hl : pyL l = some ps) : gcB B N ds M = .ok (.lst l) (M.set i c) := by
  have hf : frzD (M.set i c ++ .lst l :: junk) M.length (.ref M.length) = .lst l := by
    simp only [frzD, Nat.lt_irrefl, if_false, app_get0 (show (M.set i c).length = M.length from List.length_set ..)]
  unfold gcB gcR
  simp only [hB]
  rw [if_pos (by rw [hf]; exact cut_set (d := .lst l) (by simp only [bdD]; exact pyL_bd hl) hc), hf, List.take_append_of_le_length (by simp), List.take_of_length_le (by simp)]
theorem gc_flow {B : FS} {N : Nat} {ds : List D} {M A junk : Mem} {i : Nat} {l : List D} {n : Nat} (hA : FlAt M i A) (hB : runB B N ds M = .ok (.ref M.length) (A ++ .lst l :: junk)) (hl : PlL n l) : gcB B N ds M = .ok (.lst l) A := by
  obtain ⟨s, _, rfl⟩ := hA.at_
  obtain ⟨ps, hps, _⟩ := hl.py
  exact gc_ref hB rfl hps
theorem FlAt.trans {M0 M1 M2 : Mem} {i : Nat} (h : FlAt M0 i M1) (h' : FlAt M1 i M2) : FlAt M0 i M2 := by
  obtain ⟨s, _, e⟩ := h.at_
  obtain ⟨s', k, e'⟩ := h'.at_
  exact ⟨⟨s', k, by rw [e', e, set_twice]⟩, h.lt⟩
theorem FlAt.self {M0 M1 : Mem} {i : Nat} (h : FlAt M0 i M1) : FlAt M1 i M1 := by
  obtain ⟨s, k, h1, _⟩ := h.get
  exact .start k h1
theorem plL_str {n : Nat} (F : List (List Nat)) : PlL n (F.map .str) := fun d hd => by obtain ⟨w, _, rfl⟩ := List.mem_map.mp hd; exact Pl.str _
end Fn
set_option Elab.async false
set_option linter.all false
set_option maxRecDepth 100000
namespace Fn
open PySem PySem.Spec PyProof.Rows L2
end Fn
set_option Elab.async false
set_option linter.all false
set_option maxRecDepth 100000
set_option maxHeartbeats 1000000
namespace Fn
open PySem PySem.Spec PyProof.Rows L2
section
variable {X : Cx} {CX : CXT} {k n : Nat} {f : Addr} {fd : FuncData} {ps : List Str} {g : FD} {dd : List D} {dvs : List V} {ds : List Value} {G : Gx} {cl : Nat → Addr} {E : XK} {x : Str} {p pos : Pos} {e : Expr} {es : List Expr} {ga : FA}
section
variable {prog : Program} {w : World} {A : Around} {E' : Value → Shared → Prop} {s : Shared}
theorem adjust_rev (n : Nat) : Builtin.Slice.sliceAdjust none none (-1) (n : Int) = ((n : Int) - 1, (-1 : Int)) := rfl
theorem places_rev (n : Nat) : Builtin.Slice.slicePlaces ((n : Int) - 1) (-1) (-1) = n := by
  unfold Builtin.Slice.slicePlaces
  have h1 : ¬ ((-1 : Int) > 0) := by omega
  simp only [h1, if_false]
  by_cases h : (n : Int) - 1 > -1
  · rw [if_pos h, show -(-1 : Int) = 1 from rfl, Int.ediv_one]; omega
  · rw [if_neg h]; omega
theorem sliceApplied_rev {sl : Addr} {vl vu vs : Value} {n : Nat} {Q : Int × Int × Nat → Shared → Prop} (hs : s.heap.IsSliceOf sl vl vu vs) (pl : IsPart vl none) (pu : IsPart vu none) (ps : IsPart vs (some (-1)))
    (h : Q ((n : Int) - 1, -1, n) s) : wpAny (model prog w) A (Builtin.Slice.sliceApplied (.ref sl) (pure (n : Int))) Q E' s := by
  obtain ⟨os, hos, hcs, hds⟩ := id hs
  unfold Builtin.Slice.sliceApplied Builtin.Slice.sliceFields
  refine wpAny_bind (wpAny_bind (wpAny_field hos hds (x := vl) rfl (wpAny_bind (wpAny_field hos hds (x := vu) rfl (wpAny_bind (wpAny_field hos hds (x := vs) rfl (wpAny_pure ?_)))))))
  refine wpAny_bind (HT.slicePart_ ps ?_)
  show wpAny _ _ (if ((-1 : Int) == 0) = true then _ else _) _ _ s
  rw [if_neg (by decide)]
  refine wpAny_bind (HT.slicePart_ pl (wpAny_bind (HT.slicePart_ pu (wpAny_bind (wpAny_pure ?_)))))
  show wpAny _ _ (match Builtin.Slice.sliceAdjust none none (-1) (n : Int) with | (lo, hi) => pure (lo, (-1 : Int), Builtin.Slice.slicePlaces lo hi (-1))) _ _ s
  rw [adjust_rev n]
  show wpAny _ _ (pure ((n : Int) - 1, (-1 : Int), Builtin.Slice.slicePlaces ((n : Int) - 1) (-1) (-1))) _ _ s
  rw [places_rev]
  exact wpAny_pure h
theorem fm_map {α β : Type} {f : α → Option β} {g : α → β} : ∀ l : List α, (∀ m ∈ l, f m = some (g m)) → l.filterMap f = l.map g
  | [], _ => rfl
  | x :: r, h => by rw [List.filterMap_cons_some (h x (List.mem_cons_self ..)), List.map_cons, fm_map r fun m hm => h m (List.mem_cons_of_mem _ hm)]
theorem pick_rev (xs : Array Value) : ((List.range xs.size).filterMap fun (m : Nat) => xs[(((xs.size : Int) - 1) + (m : Int) * (-1)).toNat]?).toArray = xs.toList.reverse.toArray := by
  congr 1
  apply List.ext_getElem?
  intro i
  have e : ((List.range xs.size).filterMap fun (m : Nat) => xs[(((xs.size : Int) - 1) + (m : Int) * (-1)).toNat]?) = (List.range xs.size).map fun m => xs.toList.getD (xs.size - 1 - m) .none := by
    refine fm_map _ fun m hm => ?_
    have hm := List.mem_range.mp hm
    have e1 : (((xs.size : Int) - 1) + (m : Int) * (-1)).toNat = xs.size - 1 - m := by omega
    rw [e1]
    have hl : xs.size - 1 - m < xs.size := by omega
    rw [Array.getElem?_eq_getElem hl]
    simp [List.getD, hl]
  rw [e, List.getElem?_map]
  by_cases hi : i < xs.size
  · rw [List.getElem?_range hi, List.getElem?_reverse (by simpa using hi)]
    have hl : xs.size - 1 - i < xs.size := by omega
    simp [List.getD, hl]
  · rw [List.getElem?_eq_none (by simp; omega), List.getElem?_eq_none (by simp; omega)]; rfl
theorem getItem_tuple_rev {t sl : Addr} {items : Array Value} {vl vu vs : Value} {Q : Value → Shared → Prop} (ht : IsTup s.heap t items) (hs : s.heap.IsSliceOf sl vl vu vs) (pl : IsPart vl none) (pu : IsPart vu none) (ps : IsPart vs (some (-1)))
    (h : Q (.ref s.heap.objs.size) { s with heap := s.heap.push { cls := .type "tuple", data := .seq items.toList.reverse.toArray } })
    (hsz : items.size ≤ sizeLine) : wpAny (model prog w) A (getItem (.ref t) (.ref sl)) Q E' s := by
  have htake : sizeOk (.seq items.toList.reverse.toArray) := by
    show items.toList.reverse.toArray.size ≤ sizeLine
    rw [List.size_toArray, List.length_reverse, Array.length_toList]
    omega
  obtain ⟨os, hos, hcs, hds⟩ := id hs
  have hTs : s.TypeIs (.ref sl) "slice" := ⟨os, hos, hcs⟩
  unfold getItem
  try with_reducible refine wpAny_holding ?_
  first | refine wpAny_bind (wpAny_pure ?_) | skip
  refine wpAny_bind (wpAny_sequenceKey ht.typeIs (by decide) ?_)
  refine wpAny_bind (wpAny_callSpecial?_slot (name := Str.ofString "__getitem__") ht.typeIs PyProof.Rows.slot_tuple_getitem
    (wpAny_call_entry PyProof.Rows.slot_tuple_getitem ht.typeIs entry_tuple_getitem ?_ (args_tuple_getitem _ _)))
  show wpAny _ _ (Builtin.Tuple.tupleItemsOf (.ref t) >>= _) _ _ s
  refine wpAny_bind (tupleItemsOf_ ht ?_)
  refine wpAny_bind (wpAny_typeOf hTs ?_)
  rw [if_pos (by decide)]
  refine wpAny_bind (sliceApplied_rev hs pl pu ps ?_)
  have hno : ¬ ((((items.size : Int) - 1) == 0 && (-1 : Int) == 1 && items.size == items.size) = true) := by simp
  show wpAny _ _ (if (((items.size : Int) - 1) == 0 && (-1 : Int) == 1 && items.size == items.size) = true then _ else _) _ _ s
  rw [if_neg hno, pick_rev]
  first
    | exact wpAny_bind (m := Builtin.Tuple.tupleExact _) (wpAny_newObj_type (wpAny_pure ⟨_, rfl, wpAny_pure h⟩) htake)
    | exact wpAny_bind (m := Builtin.Tuple.tupleExact _) (wpAny_newObj_type (wpAny_bind (wpAny_pure (wpAny_pure ⟨_, rfl, wpAny_pure h⟩))) htake)
    | exact wpAny_bind (wpAny_bind (m := Builtin.Tuple.tupleExact _) (wpAny_newObj_type (wpAny_pure (wpAny_pure ⟨_, rfl, wpAny_pure h⟩)) htake))
    | exact wpAny_bind (wpAny_bind (m := Builtin.Tuple.tupleExact _) (wpAny_newObj_type (wpAny_pure ⟨_, rfl, wpAny_pure h⟩) htake))
end
end
end Fn
set_option Elab.async false
set_option linter.all false
set_option maxRecDepth 100000
set_option maxHeartbeats 1000000
namespace Fn
open PySem PySem.Spec PyProof.Rows L2
mutual
def exD : D → Bool
  | .non | .int _ | .str _ => true
  | .tup l => exL l
  | .ct _ => false
  | .lst l => exL l
  | _ => false
def exL : List D → Bool
  | [] => true
  | d :: r => exD d && exL r
end
mutual
theorem eqv_ex : ∀ (a b : D) (p q : PyData), exD a = true → exD b = true → pyD a = some p → pyD b = some q → (PyData.eqv p q = true ↔ a = b)
  | .non, b, p, q, h1, h2, e1, e2 => by
    cases e1
    cases b <;> simp only [exD, Bool.false_eq_true] at h2 <;> simp only [pyD, Option.some.injEq, Option.map_eq_some_iff] at e2
    case non => subst e2; simp [PyData.eqv]
    case int => subst e2; simp [PyData.eqv]
    case str => subst e2; simp [PyData.eqv]
    case tup => obtain ⟨x, _, rfl⟩ := e2; simp [PyData.eqv]
    case lst => obtain ⟨x, _, rfl⟩ := e2; simp [PyData.eqv]
  | .int i, b, p, q, h1, h2, e1, e2 => by
    cases e1
    cases b <;> simp only [exD, Bool.false_eq_true] at h2 <;> simp only [pyD, Option.some.injEq, Option.map_eq_some_iff] at e2
    case non => subst e2; simp [PyData.eqv]
    case int => subst e2; simp [PyData.eqv]
    case str => subst e2; simp [PyData.eqv]
    case tup => obtain ⟨x, _, rfl⟩ := e2; simp [PyData.eqv]
    case lst => obtain ⟨x, _, rfl⟩ := e2; simp [PyData.eqv]
  | .str s, b, p, q, h1, h2, e1, e2 => by
    cases e1
    cases b <;> simp only [exD, Bool.false_eq_true] at h2 <;> simp only [pyD, Option.some.injEq, Option.map_eq_some_iff] at e2
    case non => subst e2; simp [PyData.eqv]
    case int => subst e2; simp [PyData.eqv]
    case str y =>
      subst e2
      simp only [PyData.eqv, beq_iff_eq, D.str.injEq]
      exact ⟨fun h => l2s_inj h, fun h => by rw [h]⟩
    case tup => obtain ⟨x, _, rfl⟩ := e2; simp [PyData.eqv]
    case lst => obtain ⟨x, _, rfl⟩ := e2; simp [PyData.eqv]
  | .tup l, b, p, q, h1, h2, e1, e2 => by
    simp only [pyD, Option.map_eq_some_iff] at e1
    obtain ⟨ps, k1, rfl⟩ := e1
    cases b <;> simp only [exD, Bool.false_eq_true] at h2 <;> simp only [pyD, Option.some.injEq, Option.map_eq_some_iff] at e2
    case non => subst e2; simp [PyData.eqv]
    case int => subst e2; simp [PyData.eqv]
    case str => subst e2; simp [PyData.eqv]
    case tup m =>
      obtain ⟨qs, k2, rfl⟩ := e2
      simp only [PyData.eqv, D.tup.injEq]
      exact eqv_exL l m ps qs (by simpa only [exD] using h1) h2 k1 k2
    case lst => obtain ⟨x, _, rfl⟩ := e2; simp [PyData.eqv]
  | .ct _, b, p, q, h1, h2, e1, e2 => by simp only [exD, Bool.false_eq_true] at h1
  | .lst l, b, p, q, h1, h2, e1, e2 => by
    simp only [pyD, Option.map_eq_some_iff] at e1
    obtain ⟨ps, k1, rfl⟩ := e1
    cases b <;> simp only [exD, Bool.false_eq_true] at h2 <;> simp only [pyD, Option.some.injEq, Option.map_eq_some_iff] at e2
    case non => subst e2; simp [PyData.eqv]
    case int => subst e2; simp [PyData.eqv]
    case str => subst e2; simp [PyData.eqv]
    case tup => obtain ⟨x, _, rfl⟩ := e2; simp [PyData.eqv]
    case lst m =>
      obtain ⟨qs, k2, rfl⟩ := e2
      simp only [PyData.eqv, D.lst.injEq]
      exact eqv_exL l m ps qs (by simpa only [exD] using h1) h2 k1 k2
  | .bl _, b, p, q, h1, h2, e1, e2 => by simp only [exD, Bool.false_eq_true] at h1
  | .fz _, b, p, q, h1, h2, e1, e2 => by simp only [exD, Bool.false_eq_true] at h1
  | .ref _, b, p, q, h1, h2, e1, e2 => by simp only [exD, Bool.false_eq_true] at h1
theorem eqv_exL : ∀ (l m : List D) (ps qs : List PyData), exL l = true → exL m = true → pyL l = some ps → pyL m = some qs → (PyData.eqvAll ps qs = true ↔ l = m)
  | [], m, ps, qs, h1, h2, e1, e2 => by
    cases e1
    cases m with
    | nil => cases e2; simp [PyData.eqvAll]
    | cons b m =>
      simp only [pyL] at e2
      split at e2
      · cases e2; simp [PyData.eqvAll]
      · cases e2
  | a :: l, m, ps, qs, h1, h2, e1, e2 => by
    simp only [pyL] at e1
    split at e1
    · rename_i p ps' k1 k2
      cases e1
      cases m with
      | nil => cases e2; simp [PyData.eqvAll]
      | cons b m =>
        simp only [pyL] at e2
        split at e2
        · rename_i q qs' k3 k4
          cases e2
          simp only [exL, Bool.and_eq_true] at h1 h2
          simp only [PyData.eqvAll, Bool.and_eq_true, eqv_ex a b p q h1.1 h2.1 k1 k3, eqv_exL l m ps' qs' h1.2 h2.2 k2 k4, List.cons.injEq]
        · cases e2
    · cases e1
end
mutual
def dpD : D → Nat
  | .tup l => dpL l + 1
  | .ct l => dpL l + 1
  | .lst l => dpL l + 1
  | _ => 0
def dpL : List D → Nat
  | [] => 0
  | d :: r => max (dpD d) (dpL r)
end
mutual
theorem ex_py : ∀ (a : D), exD a = true → ∃ p, pyD a = some p ∧ p.depth ≤ dpD a
  | .non, _ => ⟨_, rfl, by simp [PyData.depth]⟩
  | .int _, _ => ⟨_, rfl, by simp [PyData.depth]⟩
  | .str _, _ => ⟨_, rfl, by simp [PyData.depth]⟩
  | .tup l, h => by
    obtain ⟨ps, h1, h2⟩ := ex_pyL l (by simpa only [exD] using h)
    exact ⟨.tuple ps, by simp only [pyD, h1, Option.map_some], by simp only [PyData.depth, dpD]; omega⟩
  | .ct _, h => by simp only [exD, Bool.false_eq_true] at h
  | .lst l, h => by
    obtain ⟨ps, h1, h2⟩ := ex_pyL l (by simpa only [exD] using h)
    exact ⟨.list ps, by simp only [pyD, h1, Option.map_some], by simp only [PyData.depth, dpD]; omega⟩
  | .bl _, h => by simp only [exD, Bool.false_eq_true] at h
  | .fz _, h => by simp only [exD, Bool.false_eq_true] at h
  | .ref _, h => by simp only [exD, Bool.false_eq_true] at h
theorem ex_pyL : ∀ (l : List D), exL l = true → ∃ ps, pyL l = some ps ∧ PyData.depthAll ps ≤ dpL l
  | [], _ => ⟨[], rfl, by simp [PyData.depthAll]⟩
  | d :: r, h => by
    simp only [exL, Bool.and_eq_true] at h
    obtain ⟨p, h1, h2⟩ := ex_py d h.1
    obtain ⟨ps, h3, h4⟩ := ex_pyL r h.2
    exact ⟨p :: ps, by simp only [pyL, h1, h3], by simp only [PyData.depthAll, dpL]; omega⟩
end
theorem oEq_ex {ne : Bool} {a b : D} {M : Mem} (ha : exD a = true) (hb : exD b = true) (hd : dpD a ≤ 60) : oEq ne a b M = .ok (.bl (ne != (@decide (a = b) (Classical.propDecidable _)))) M := by
  obtain ⟨p, p1, p2⟩ := ex_py a ha
  obtain ⟨q, q1, q2⟩ := ex_py b hb
  have k1 : pyM M a = some p := pyGo_of p1
  have k2 : pyM M b = some q := pyGo_of q1
  have hm : min p.depth q.depth ≤ 60 := by omega
  have he : PyData.eqv p q = @decide (a = b) (Classical.propDecidable _) := by
    rw [Bool.eq_iff_iff, @decide_eq_true_iff _ (Classical.propDecidable _)]
    exact eqv_ex a b p q ha hb p1 q1
  simp only [oEq, k1, k2, if_pos hm, he]
  cases ne <;> simp
theorem oEq_exT {ne : Bool} {a : D} {M : Mem} (ha : exD a = true) (hd : dpD a ≤ 60) : oEq ne a a M = .ok (.bl (!ne)) M := by
  rw [oEq_ex ha ha hd]
  simp
theorem oEq_exF {ne : Bool} {a b : D} {M : Mem} (ha : exD a = true) (hb : exD b = true) (hd : dpD a ≤ 60) (h : a ≠ b) : oEq ne a b M = .ok (.bl ne) M := by
  rw [oEq_ex ha hb hd]
  simp [h]
end Fn
set_option Elab.async false
set_option linter.all false
set_option maxRecDepth 100000
set_option maxHeartbeats 1000000
namespace Fn
open PySem PySem.Spec PyProof.Rows L2
end Fn
set_option Elab.async false
set_option linter.all false
set_option maxRecDepth 100000
set_option maxHeartbeats 1000000
namespace Fn
open PySem PySem.Spec PyProof.Rows L2
end Fn
set_option Elab.async false
set_option linter.all false
set_option maxRecDepth 100000
set_option maxHeartbeats 1000000
namespace Fn
open PySem PySem.Spec PyProof.Rows L2
end Fn
set_option Elab.async false
set_option linter.all false
set_option maxRecDepth 100000
set_option maxHeartbeats 1000000
namespace Fn
open PySem PySem.Spec PyProof.Rows L2 L2.DX
end Fn
set_option Elab.async false
set_option linter.all false
set_option maxRecDepth 100000
set_option maxHeartbeats 1000000
namespace Fn
open PySem PySem.Spec PyProof.Rows L2
end Fn
set_option Elab.async false
set_option linter.all false
set_option maxRecDepth 100000
set_option maxHeartbeats 1000000
namespace Fn
open PySem PySem.Spec PyProof.Rows L2
end Fn
set_option Elab.async false
set_option linter.all false
set_option maxRecDepth 100000
set_option maxHeartbeats 1000000
namespace Fn
open PySem PySem.Spec PyProof.Rows L2
end Fn
set_option Elab.async false
set_option linter.all false
set_option maxRecDepth 100000
set_option maxHeartbeats 1000000
namespace Fn
open PySem PySem.Spec PyProof.Rows L2 L2.DX
end Fn
set_option Elab.async false
set_option linter.all false
set_option maxRecDepth 100000
set_option maxHeartbeats 1000000
namespace Fn
open PySem PySem.Spec PyProof.Rows L2 L2.DX
end Fn
set_option Elab.async false
set_option linter.all false
set_option maxRecDepth 100000
set_option maxHeartbeats 1000000
namespace Fn
open PySem PySem.Spec PyProof.Rows L2 L2.DX
def atomP : PyData → Bool
  | .int _ => true
  | .str _ => true
  | _ => false
theorem reads_atom {h : Heap} {v : Value} {p : PyData} {as : List Addr} (r : Reads h v p as) (hp : atomP p = true) : as = [] := by
  cases r <;> first | rfl | cases hp
end Fn
set_option Elab.async false
set_option linter.all false
set_option maxRecDepth 100000
set_option maxHeartbeats 1000000
namespace Fn
open PySem PySem.Spec PyProof.Rows L2
end Fn
set_option Elab.async false
set_option linter.all false
set_option maxRecDepth 100000
set_option maxHeartbeats 1000000
namespace Fn
open PySem PySem.Spec PyProof.Rows L2 L2.DX
end Fn
set_option Elab.async false
set_option linter.all false
set_option maxRecDepth 100000
set_option maxHeartbeats 1000000
namespace Fn
open PySem PySem.Spec PyProof.Rows L2 L2.DX
end Fn
set_option Elab.async false
set_option linter.all false
set_option maxRecDepth 100000
set_option maxHeartbeats 2000000
namespace Fn
open PySem PySem.Spec PyProof.Rows L2
/-- what a def promises there -/
structure FnG (P : Program) (w : World) (K : PySem.W.Frag) (mg : Str → Option Value) (base : Heap) (CX : CXT) (k : Nat) (f : Addr) (fd : FuncData) (ps : List Str) (sp : Sp) : Prop where
  len : ∀ vs H Q E, sp vs H Q E → vs.length = ps.length
  run : ∀ (A : Around) (outer : List PySem.Env) (s : Shared) (H : Hp) (args : Args) (us : List Value) (vs : List V) (Q : VK) (E : XK), A.guards = some [] → Room k A → Env0 P w K mg base A outer s H → BindsTo s fd args (ps.zip us) → Vals vs us → sp vs H Q E →
    codeAny (model P w) A (.call (.ref f) args) (CR CX outer P w H s Q E) s
section
variable {P : Program} {w : World} {K : PySem.W.Frag} {mg : Str → Option Value} {base : Heap} {CX : CXT} {j k : Nat} {f : Addr} {fd : FuncData} {ps : List Str} {sp sp' : Sp}
theorem FnG.imp (F : FnG P w K mg base CX k f fd ps sp) (h : ∀ vs H Q E, sp' vs H Q E → sp vs H Q E) : FnG P w K mg base CX k f fd ps sp' :=
  ⟨fun vs H Q E q => F.len vs H Q E (h _ _ _ _ q), fun A outer s H args us vs Q E hg hr he hb hv hs => F.run A outer s H args us vs Q E hg hr he hb hv (h _ _ _ _ hs)⟩
end
end Fn
set_option Elab.async false
set_option linter.all false
set_option maxRecDepth 100000
set_option maxHeartbeats 2000000
namespace Fn
open PySem PySem.Spec PyProof.Rows L2
end Fn
set_option Elab.async false
set_option linter.all false
set_option maxRecDepth 100000
set_option maxHeartbeats 1000000
namespace Fn
open PySem PySem.Spec PyProof.Rows L2
def keyP : Key → PyData
  | .inl i => .int i
  | .inr x => .str x
mutual
inductive Dq (K : PySem.W.Frag) (H : Hp) : V → PyData → Prop
  | non : Dq K H .non .none
  | bl (b : Bool) : Dq K H (.bl b) (.bool b)
  | int (i : Int) : Dq K H (.int i) (.int i)
  | str (x : Str) : Dq K H (.str x) (.str x)
  | lst {a : Addr} {xs : List V} {ds : List PyData} : SqL K H a xs → DqAll K H xs ds → Dq K H (.ref a) (.list ds)
  | tup {a : Addr} {xs : List V} {ds : List PyData} : SqT K H a xs → DqAll K H xs ds → Dq K H (.ref a) (.tuple ds)
  | dct {a : Addr} {kvs : List (Key × V)} {ds : List (PyData × PyData)} : H a = some (.dK kvs) → DqKv K H kvs ds → Dq K H (.ref a) (.dict ds)
inductive DqAll (K : PySem.W.Frag) (H : Hp) : List V → List PyData → Prop
  | nil : DqAll K H [] []
  | cons {v : V} {vs : List V} {d : PyData} {ds : List PyData} : Dq K H v d → DqAll K H vs ds → DqAll K H (v :: vs) (d :: ds)
inductive DqKv (K : PySem.W.Frag) (H : Hp) : List (Key × V) → List (PyData × PyData) → Prop
  | nil : DqKv K H [] []
  | cons {k : Key} {v : V} {vs : List (Key × V)} {d : PyData} {ds : List (PyData × PyData)} : Dq K H v d → DqKv K H vs ds → DqKv K H ((k, v) :: vs) ((keyP k, d) :: ds)
end
mutual
/-- no list in it -/
def noL : PyData → Bool
  | .list _ => false
  | .tuple xs => noLAll xs
  | .dict kvs => noLKv kvs
  | _ => true
def noLAll : List PyData → Bool
  | [] => true
  | x :: xs => noL x && noLAll xs
def noLKv : List (PyData × PyData) → Bool
  | [] => true
  | (_, v) :: r => noL v && noLKv r
end
section
variable {X : Cx} {pins : List (Addr × Obj)} {σ : L2.St} {H : Hp} {s : Shared}
theorem pairs_reads {P : Program} {w : World} {h : Heap} : ∀ {es : List DictEntry} {ws : List (Key × Value)}, Pairs (mixKind P w) es ws → ReadsAll h (es.map (·.key)) (ws.map fun kv => keyP kv.1) [] ∧ es.map (·.val) = ws.map (·.2)
  | [], _, .nil => ⟨.nil, rfl⟩
  | e :: es, (k, v) :: ws, .cons h1 h2 h3 => by
    obtain ⟨i1, i2⟩ := pairs_reads h3
    have h1 : keyIs k e.key = true := h1
    refine ⟨?_, by rw [List.map_cons, List.map_cons, i2, h2]⟩
    rcases keyIs_shape h1 with ⟨i, t, e1, e2⟩ | ⟨x, t, e1, e2⟩
    · subst e1
      rw [List.map_cons, e2]
      exact ReadsAll.cons (as := []) (bs := []) (.int i t) i1
    · subst e1
      rw [List.map_cons, e2]
      exact ReadsAll.cons (as := []) (bs := []) (.str x t) i1
mutual
theorem Dq.reads (I : Inv X pins σ H s) : ∀ (d : PyData) (v : V) (u : Value), Dq X.K H v d → RelV v u → ∃ as, Reads s.heap u d as ∧ (noL d = true → sysModules ∉ as)
  | .none, _, _, h, r => by cases h; cases r; exact ⟨_, .none, fun _ => by simp⟩
  | .bool b, _, _, h, r => by cases h; cases r; exact ⟨_, .bool b, fun _ => by simp⟩
  | .int i, _, _, h, r => by cases h; obtain ⟨t, rfl⟩ := r; exact ⟨_, .int i t, fun _ => by simp⟩
  | .str x, _, _, h, r => by cases h; obtain ⟨t, rfl⟩ := r; exact ⟨_, .str x t, fun _ => by simp⟩
  | .list ds, _, _, h, r => by
    cases h with
    | lst hs ha =>
      cases r
      obtain ⟨its, rv, ⟨o, n, ho, hc, _, hd⟩, _⟩ := I.list hs
      obtain ⟨as, hr, _⟩ := Dq.readsAll I ds _ its ha rv
      exact ⟨_, .list ho hc hd hr, fun z => by simp [noL] at z⟩
  | .tuple ds, _, _, h, r => by
    cases h with
    | tup hs ha =>
      cases r
      obtain ⟨its, rv, ⟨o, ho, hc, n, hd⟩, _⟩ := I.tuple hs
      obtain ⟨as, hr, hm⟩ := Dq.readsAll I ds _ its ha rv
      exact ⟨_, .tuple ho hc hd hr, fun z => hm (by simpa only [noL] using z)⟩
  | .dict ds, _, _, h, r => by
    cases h with
    | dct hs ha =>
      cases r
      obtain ⟨_, hsys, ws, kv, o, es, ep, ho, hx, hdt, _, hp, _⟩ := I.hok _ _ hs
      obtain ⟨p1, p2⟩ := pairs_reads (h := s.heap) hp
      obtain ⟨as, hr, hm, hk⟩ := Dq.readsKv I ds _ ws ha kv
      rw [hk] at p1
      rw [← p2] at hr
      refine ⟨_, .dict ho hx.1 hdt p1 hr, fun z => ?_⟩
      have hm := hm (by simpa only [noL] using z)
      simp only [List.append_nil, List.cons_append, List.nil_append, List.mem_cons, not_or]
      exact ⟨fun e => by rw [← e] at hsys; simp at hsys, hm⟩
theorem Dq.readsAll (I : Inv X pins σ H s) : ∀ (ds : List PyData) (vs : List V) (us : List Value), DqAll X.K H vs ds → Vals vs us → ∃ as, ReadsAll s.heap us ds as ∧ (noLAll ds = true → sysModules ∉ as)
  | [], _, _, h, r => by cases h; cases r; exact ⟨_, .nil, fun _ => by simp⟩
  | d :: ds, _, _, h, r => by
    cases h with
    | cons h1 h2 =>
      cases r with
      | cons r1 r2 =>
        obtain ⟨as, q1, m1⟩ := Dq.reads I d _ _ h1 r1
        obtain ⟨bs, q2, m2⟩ := Dq.readsAll I ds _ _ h2 r2
        refine ⟨_, .cons q1 q2, fun z => ?_⟩
        simp only [noLAll, Bool.and_eq_true] at z
        rw [List.mem_append, not_or]
        exact ⟨m1 z.1, m2 z.2⟩
theorem Dq.readsKv (I : Inv X pins σ H s) : ∀ (ds : List (PyData × PyData)) (vs : List (Key × V)) (us : List (Key × Value)), DqKv X.K H vs ds → KV vs us → ∃ as, ReadsAll s.heap (us.map (·.2)) (ds.map (·.2)) as ∧ (noLKv ds = true → sysModules ∉ as) ∧ (us.map fun kv => keyP kv.1) = ds.map (·.1)
  | [], _, _, h, r => by cases h; cases r; exact ⟨_, .nil, fun _ => by simp, rfl⟩
  | (_, d) :: ds, _, _, h, r => by
    cases h with
    | cons h1 h2 =>
      cases r with
      | cons r1 r2 =>
        obtain ⟨as, q1, m1⟩ := Dq.reads I d _ _ h1 r1.2
        obtain ⟨bs, q2, m2, k2⟩ := Dq.readsKv I ds _ _ h2 r2
        refine ⟨_, .cons q1 q2, fun z => ?_, by rw [List.map_cons, List.map_cons, k2, ← r1.1]⟩
        simp only [noLKv, Bool.and_eq_true] at z
        rw [List.mem_append, not_or]
        exact ⟨m1 z.1, m2 z.2⟩
end
end
end Fn
set_option Elab.async false
set_option linter.all false
set_option maxRecDepth 100000
set_option maxHeartbeats 1000000
namespace Fn
open PySem PySem.Spec PyProof.Rows L2 L2.DX
end Fn
set_option Elab.async false
set_option linter.all false
set_option maxRecDepth 100000
set_option maxHeartbeats 1000000
namespace Fn
open PySem PySem.Spec PyProof.Rows L2
end Fn
set_option Elab.async false
set_option linter.all false
set_option maxRecDepth 100000
set_option maxHeartbeats 2000000
namespace Fn
open PySem PySem.Spec PyProof.Rows L2 L2.DX
end Fn
set_option Elab.async false
set_option linter.all false
set_option maxRecDepth 100000
set_option maxHeartbeats 2000000
namespace Fn
open PySem PySem.Spec PyProof.Rows L2 L2.DX
end Fn
set_option Elab.async false
set_option linter.all false
set_option maxRecDepth 100000
set_option maxHeartbeats 2000000
namespace Fn
open PySem PySem.Spec PyProof.Rows L2 L2.DX
end Fn
set_option Elab.async false
set_option linter.all false
set_option maxRecDepth 100000
set_option maxHeartbeats 2000000
namespace Fn
open PySem PySem.Spec PyProof.Rows L2
end Fn
set_option Elab.async false
set_option linter.all false
set_option maxRecDepth 100000
set_option maxHeartbeats 1000000
namespace LZ
open PySem PyProof.Rows
open PySem.Sem (wp)
section
variable {prog : Program} {w : World} {A : Around} {E : Value → Shared → Prop} {s : Shared}
/-- where a zip of tuples stands, its tuple out or not -/
def Zst (h : Heap) (z TI TO i1 i2 l1 l2 S : Addr) (xs ys : Array Value) (i : Nat) : Prop := IsPair h TI (.ref i1) (.ref i2) ∧ h.IsTupleIter i1 l1 i ∧ h.IsTupleIter i2 l2 i ∧ h.IsTuple l1 xs ∧ h.IsTuple l2 ys ∧
  ((IsZip h z TI TO .none ∧ ∃ a b, IsPair h TO a b) ∨ ∃ T f oT, IsZipHeld h z TI TO T f ∧ h.get? T = some oT ∧ T ≠ z ∧ T ≠ i1 ∧ T ≠ i2 ∧ T ≠ S)
structure Off (S z TI TO i1 i2 l1 l2 : Addr) : Prop where
  z : S ≠ z
  TI : S ≠ TI
  TO : S ≠ TO
  i1 : S ≠ i1
  i2 : S ≠ i2
  l1 : S ≠ l1
  l2 : S ≠ l2
theorem Zst.keep {h h' : Heap} {z TI TO i1 i2 l1 l2 S : Addr} {xs ys : Array Value} {i : Nat} (O : Off S z TI TO i1 i2 l1 l2) (st : Zst h z TI TO i1 i2 l1 l2 S xs ys i) (hk : ∀ b o, b ≠ S → h.get? b = some o → h'.get? b = some o) : Zst h' z TI TO i1 i2 l1 l2 S xs ys i := by
  obtain ⟨hTI, h1, h2, hl1, hl2, hz⟩ := st
  refine ⟨hk _ _ (Ne.symm O.TI) hTI, h1.at fun o e => hk _ o (Ne.symm O.i1) e, h2.at fun o e => hk _ o (Ne.symm O.i2) e, hl1.at fun o e => hk _ o (Ne.symm O.l1) e, hl2.at fun o e => hk _ o (Ne.symm O.l2) e, ?_⟩
  rcases hz with ⟨hz, a, b, hTO⟩ | ⟨T, f, oT, hz, hT, r1, r2, r3, r4⟩
  · exact .inl ⟨hk _ _ (Ne.symm O.z) hz, a, b, hk _ _ (Ne.symm O.TO) hTO⟩
  · exact .inr ⟨T, f, oT, hk _ _ (Ne.symm O.z) hz, hk _ _ r4 hT, r1, r2, r3, r4⟩
/-- the pairs that came -/
structure ZG (xs ys : Array Value) (lo : Addr) (h : Heap) (as : List Addr) : Prop where
  rise : as.Pairwise (· < ·)
  above : ∀ a ∈ as, lo < a
  pairs : ∀ (j : Nat) (a : Addr), as[j]? = some a → ∃ x y, xs[j]? = some x ∧ ys[j]? = some y ∧ IsPair h a x y
theorem ZG.there {xs ys : Array Value} {lo : Addr} {h : Heap} {as : List Addr} (g : ZG xs ys lo h as) {a : Addr} (ha : a ∈ as) : a < h.objs.size := by
  obtain ⟨j, hj⟩ := List.mem_iff_getElem?.mp ha
  obtain ⟨_, _, _, _, e⟩ := g.pairs j a hj
  exact Heap.lt_size e
end
end LZ
set_option Elab.async false
set_option linter.all false
set_option maxRecDepth 100000
set_option maxHeartbeats 1000000
namespace LZ
open PySem PyProof.Rows PySem.Calls
open PySem.Sem (wp)
section
variable {prog : Program} {w : World} {A : Around} {E : Value → Shared → Prop} {s : Shared} {z TI TO i1 i2 l1 l2 S : Addr} {xs ys : Array Value}
/-- a zip that has not begun -/
structure Z0 (h : Heap) (z TI TO i1 i2 l1 l2 : Addr) (xs ys : Array Value) : Prop where
  hz : IsZip h z TI TO .none
  hTI : IsPair h TI (.ref i1) (.ref i2)
  hTO : ∃ a b, IsPair h TO a b
  h1 : h.IsTupleIter i1 l1 0
  h2 : h.IsTupleIter i2 l2 0
  hl1 : h.IsTuple l1 xs
  hl2 : h.IsTuple l2 ys
theorem Z0.keep {h h' : Heap} (st : Z0 h z TI TO i1 i2 l1 l2 xs ys) (O : Off S z TI TO i1 i2 l1 l2) (hk : ∀ b o, b ≠ S → h.get? b = some o → h'.get? b = some o) : Z0 h' z TI TO i1 i2 l1 l2 xs ys := by
  obtain ⟨hz, hTI, ⟨a, b, hTO⟩, h1, h2, hl1, hl2⟩ := st
  exact ⟨hk _ _ (Ne.symm O.z) hz, hk _ _ (Ne.symm O.TI) hTI, ⟨a, b, hk _ _ (Ne.symm O.TO) hTO⟩, h1.at fun o e => hk _ o (Ne.symm O.i1) e, h2.at fun o e => hk _ o (Ne.symm O.i2) e, hl1.at fun o e => hk _ o (Ne.symm O.l1) e, hl2.at fun o e => hk _ o (Ne.symm O.l2) e⟩
theorem Z0.st {h : Heap} (st : Z0 h z TI TO i1 i2 l1 l2 xs ys) : Zst h z TI TO i1 i2 l1 l2 S xs ys 0 := ⟨st.hTI, st.h1, st.h2, st.hl1, st.hl2, .inl ⟨st.hz, st.hTO⟩⟩
end
end LZ
set_option Elab.async false
set_option linter.all false
set_option maxRecDepth 100000
set_option maxHeartbeats 2000000
set_option Elab.async false
set_option linter.all false
set_option maxRecDepth 100000
set_option maxHeartbeats 1000000
namespace Fn
open PySem PySem.Spec PyProof.Rows L2
end Fn
set_option Elab.async false
set_option linter.all false
set_option maxRecDepth 100000
set_option maxHeartbeats 1000000
namespace Fn
open PySem PySem.Spec PyProof.Rows L2
end Fn
set_option Elab.async false
set_option linter.all false
set_option maxRecDepth 100000
set_option maxHeartbeats 1000000
namespace Fn
open PySem PySem.Spec PyProof.Rows L2 L2.DX
end Fn
set_option Elab.async false
set_option linter.all false
set_option maxRecDepth 100000
set_option maxHeartbeats 1000000
set_option Elab.async false
set_option linter.all false
set_option maxRecDepth 100000
set_option maxHeartbeats 1000000
namespace Fn
open PySem PySem.Spec PyProof.Rows L2 L2.DX
end Fn
set_option Elab.async false
set_option linter.all false
set_option maxRecDepth 100000
set_option maxHeartbeats 1000000
namespace Fn
open PySem PySem.Spec PyProof.Rows L2
end Fn
set_option Elab.async false
set_option linter.all false
set_option maxRecDepth 100000
set_option maxHeartbeats 1000000
namespace Fn
open PySem PySem.Spec PyProof.Rows L2
end Fn
set_option Elab.async false
set_option linter.all false
set_option maxRecDepth 100000
set_option maxHeartbeats 1000000
namespace Fn
open PySem PySem.Spec PyProof.Rows L2
section
variable {X : Cx} {G : Gx} {cl : Nat → Addr} {E : XK} {W : Wd} {H : Hp} {M : Mem} {a b c : Expr} {fa fb fc : FE} {pos : Pos}
/-- what has come so far, in the hidden list -/
structure Cst (G : Gx) (W0 : Wd) (H0 : Hp) (D0 : Addr) (as : List Addr) (H' : Hp) (M : Mem) (done : List D) (acc : List V) : Prop where
  fu : Fut W0 H0 ⟨as, W0.hd⟩ H'
  kp : Kp W0 H0 ⟨as, D0 :: W0.hd⟩ H'
  me : MemOk G ⟨as, D0 :: W0.hd⟩ H' M
  at_ : H' D0 = some (.lst acc)
  rp : RpL G ⟨as, D0 :: W0.hd⟩ H' done acc
section
variable {W0 : Wd} {H0 H1 H2 : Hp} {D0 : Addr} {as as2 : List Addr} {M2 : Mem} {done : List D} {acc : List V}
theorem Cst.fut (h : Cst G W0 H0 D0 as H1 M done acc) (f : Fut ⟨as, D0 :: W0.hd⟩ H1 ⟨as2, D0 :: W0.hd⟩ H2) (m : MemOk G ⟨as2, D0 :: W0.hd⟩ H2 M2) : Cst G W0 H0 D0 as2 H2 M2 done acc :=
  ⟨h.fu.trans ⟨f.ext, rfl, f.keep, f.lk⟩, h.kp.trans (f.kp h.me), m, f.keep _ _ h.at_ fun z => h.me.apart D0 z (List.mem_cons_self ..), h.me.rpL f h.rp⟩
end
end
end Fn
set_option Elab.async false
set_option linter.all false
set_option maxRecDepth 100000
set_option maxHeartbeats 1000000
namespace Fn
open PySem PySem.Spec PyProof.Rows L2
end Fn
set_option Elab.async false
set_option linter.all false
set_option maxRecDepth 100000
set_option maxHeartbeats 4000000
namespace L2
open PySem PySem.Spec PyProof.Rows
theorem tuple_mulSame (l : Addr) (items : Array Value) (n : Nat) (dd : Option Addr) (sl : Array (Option Value)) (x : Int) (u : Tok) (c0 : (decide (x < -(2 ^ 63)) || decide (x ≥ 2 ^ 63)) = false) (c1 : (items.isEmpty || x == 1) = true) :
    Meets (Builtin.«tuple.__mul__» ⟨[.ref l, .int x u], []⟩) (fun _ R s => s.heap.get? l = some { cls := .type "tuple", dict := dd, data := .seq items n, slots := sl } ∧
      R (.ok (.ret (Value.ref l))) s) :=
  .of_wp fun prog w A R s h => by
    obtain ⟨hp, g, d, tk, os⟩ := s
    obtain ⟨hl, h⟩ := h
    have f1 := AutoSeq1.idx_int
    wp_walk using wpAny_loadPart' hl
    repeat (first
      | (refine wpAny_ite_false (decide_eq_false (by rw [c0]; exact Bool.false_ne_true)) ?_; wp_walk using wpAny_loadPart' hl)
      | (refine wpAny_ite_true (decide_eq_true c1) ?_; wp_walk using wpAny_loadPart' hl))
    all_goals exact ⟨_, rfl, h⟩
end L2
namespace Fn
open PySem PySem.Spec PyProof.Rows L2
end Fn
set_option Elab.async false
set_option linter.all false
set_option maxRecDepth 100000
set_option maxHeartbeats 1000000
namespace Fn
open PySem PySem.Spec PyProof.Rows L2
end Fn
set_option Elab.async false
set_option linter.all false
set_option maxRecDepth 100000
namespace Fn
open PySem PySem.Spec PyProof.Rows L2 PySem.Froz
end Fn
set_option Elab.async false
set_option linter.all false
set_option maxRecDepth 100000
set_option maxHeartbeats 1000000
namespace Fn
open PySem PySem.Spec PyProof.Rows L2
end Fn
set_option Elab.async false
set_option linter.all false
set_option maxRecDepth 100000
set_option maxHeartbeats 1000000
namespace Fn
open PySem PySem.Spec PyProof.Rows L2
end Fn
set_option Elab.async false
set_option linter.all false
set_option maxRecDepth 100000
set_option maxHeartbeats 1000000
namespace Fn
open PySem PySem.Spec PyProof.Rows L2
section
variable {X : Cx} {G : Gx} {cl : Nat → Addr} {E : XK} {W : Wd} {H : Hp} {M : Mem} {a b c : Expr} {fa fb fc : FE} {pos : Pos}
theorem pe_tupC {es : List Expr} {k : Nat} {t : TA} (h : PA X es t) : PE X (.Tuple es k pos) (fun σ H Q => t σ H fun xs H1 => xs.length ≤ sizeLine ∧ ∀ (q : Addr) (o : Obj), H1 q = none → o.dict = none → Q (.ref q) (upd H1 q (.frz o (.tup xs)))) := by
  refine ⟨fun pins s σ H Q I hq => wpAny_Tuple_spliced (thn (h.run pos pins s σ H _ I hq) ?_)⟩
  rintro us s1 ⟨xs, H1, I1, r, z, q⟩
  refine ⟨by rw [← r.length]; exact z, ?_⟩
  have I2 := I1.laid (a := s1.heap.objs.size) (o := .frz _ (.tup xs)) (h' := s1.heap.push { cls := .type "tuple", data := .seq us.toArray }) (t' := s1.toks) (fun b u e => Heap.get?_push_of_some _ e) (Nat.le_refl _)
    ⟨Heap.get?_push_size _ rfl, z, us, r, ⟨_, Heap.get?_push_size _ rfl, rfl, _, rfl⟩⟩
  exact ⟨.ref s1.heap.objs.size, _, I2, rfl, q _ _ (I1.hok.fresh (Nat.le_refl _)) rfl⟩
theorem ct_new {Q : VK} {ds : List D} {us : List V} (m : MemOk G W H M) (h : PR G W H (PV G Q) E (.ok (.ct ds) M)) (r : RpL G W H ds us) : ∀ (q : Addr) (o : Obj), H q = none → o.dict = none → Q (.ref q) (upd H q (.frz o (.tup us))) := fun q o hq ho =>
  h W _ (Fut.laid hq) (m.laid hq) _ ⟨q, us, rfl, ⟨o, upd_same, ho⟩, m.rpL (Fut.laid hq) r⟩
def mTupC (g : FA) : FE := fun env M => (g env M).bind fun ds m => if ds.length ≤ 16777216 then .ok (.ct ds) m else .no
theorem sn_tupC {es : List Expr} {g : FA} {k : Nat} (h : PA X es (tA G E g)) : PE X (.Tuple es k pos) (tE G E (mTupC g)) := pe_imp (pe_tupC h) fun σ H Q ⟨W, env, M, s, p⟩ => by
  refine tA.bind s p fun ds m2 W2 H2 us f2 s2 r2 p2 => ?_
  split at p2
  · rename_i hz
    exact ⟨by rw [r2.len, line_eq]; exact hz, ct_new s2.mem p2 r2⟩
  · exact p2.elim
theorem mTupC_eq (g : FA) {env : Fn.Env} : mTupC g env M = (g env M).bind fun ds m => if ds.length ≤ 16777216 then .ok (.ct ds) m else .no := rfl
/-- tuple(xs) of a list -/
theorem call_tuple_C : CallR X (.type "tuple") (fun xs H Q => ∃ p ys, xs = [.ref p] ∧ SqL X.K H p ys ∧ ∀ (l : Addr) (o : Obj), H l = none → o.dict = none → Q (.ref l) (upd H l (.frz o (.tup ys)))) := by
  intro pins s σ H xs us Q I r h
  obtain ⟨p, ys, rfl, hq, q⟩ := h
  obtain ⟨u, rfl, rx⟩ := vals1 r
  cases rx
  obtain ⟨its, r', pl, hz⟩ := I.list hq
  have hlen := r'.length
  refine call_tuple_list pl.isList (fun h' kp => ?_) (by simp only [List.size_toArray] <;> omega)
  have I1 : Inv X pins σ H { s with heap := h' } := I.kept (t' := s.toks) kp
  have I2 := I1.laid (a := h'.objs.size) (o := .frz _ (.tup ys)) (h' := h'.push { cls := .type "tuple", data := .seq its.toArray }) (t' := s.toks) (fun b o e => Heap.get?_push_of_some _ e) (Nat.le_refl _)
    ⟨Heap.get?_push_size _ rfl, hz, its, r', IsTup.new _ _⟩
  exact ⟨.ref h'.objs.size, _, I2, rfl, q _ _ (I1.hok.fresh (Nat.le_refl _)) rfl⟩
def oTupleC : List D → Mem → R D
  | [d], M => match lstOf M d with
    | some l => .ok (.ct l) M
    | none => .no
  | _, _ => .no
theorem fn_tupleC : Fn1 G E (fun xs H Q => ∃ p ys, xs = [.ref p] ∧ SqL G.K H p ys ∧ ∀ (l : Addr) (o : Obj), H l = none → o.dict = none → Q (.ref l) (upd H l (.frz o (.tup ys)))) oTupleC := fun W H M ds us Q m r p => by
  unfold oTupleC at p
  split at p
  · obtain ⟨u, e1, r1⟩ := rp_one r
    subst e1
    split at p
    · rename_i l e1
      obtain ⟨a1, us, h1, h2, h3⟩ := lstOf_ok m r1 e1
      subst h1
      exact ⟨a1, us, rfl, h2, ct_new m p h3⟩
    · exact p.elim
  · exact p.elim
end
end Fn
set_option Elab.async false
set_option linter.all false
set_option maxRecDepth 100000
set_option maxHeartbeats 2000000
namespace DcT
open PySem PySem.Spec PyProof.Rows L2
theorem put {X : Cx} {pins : List (Addr × Obj)} {σ : L2.St} {H : Hp} {s : Shared} {E : Value → Shared → Prop} {D b : Addr} {kvs : List (List Key × V)} {k : List Key} {v : V} {r : Value} {Q : Unit → Shared → Prop} (hu : X.A.units < cLine) (I : Inv X pins σ H s) (hD : H D = some (.dT kvs))
    (hz : kvs.length < sizeLine) (eb : H b = some (.tup (k.map kV))) (rv : RelV v r) (go : ∀ s', Inv X pins σ (upd H D (.dT (putK kvs k v))) s' → Q () s') : wpAny (model X.prog X.w) X.A (dictSet D (.ref b) r) Q E s := by
  obtain ⟨z, hd, xs, rel, dd⟩ := dt_of I.hok hD
  have hlen := length_putK kvs k v
  refine wpAny_dictSet_heap (hsz := by rw [← Paired.length rel]; exact z) (show (tupleKind (mixKind X.prog X.w)).room X.A from hu) (key_of I.hok eb) dd fun h' dd' hs => go _ ?_
  obtain ⟨q, es, ep, e1, e2, e3, e4, _, e5⟩ := dd'
  refine d_write I (by rw [hD]; trivial) hs ⟨q, e1⟩ ⟨by omega, hd, _, (rel.put k eb rv).keeps fun c ys ec => ?_, q, es, ep, e1, e2, e3, e4, e5⟩
  exact (upd_ne (ne_of ec hD (fun z => nomatch z))).trans ec
section
variable {X : Cx}
def tDcT (wi : TI) (g : TG) (tt : TT) (tk tv : TE) (vs : List Nat) : TE := fun σ H Q => wi σ H fun J H1 => ∀ D, H1 D = none → ∃ W : Nat → Nat → Hp → Prop, (∃ m, W 0 m (upd H1 D (.dT []))) ∧ ∀ i m H, W i m H → (J.stop i H ∧ Q (.ref D) H) ∨
  (J.go i H ∧ ∃ Nx : Hp → Prop, (∀ H', Nx H' → ∃ m', m' < m ∧ W (i + 1) m' H') ∧ ∀ x H', J.yld i H x H' → g x (wipe σ vs) H' fun σ2 H2 => wipe σ2 vs = wipe σ vs ∧ tt σ2 H2 fun b H3 =>
    if b = true then tk σ2 H3 fun y H4 => tv σ2 H4 fun z H5 => ∃ kvs k a, y = .ref a ∧ H5 a = some (.tup (k.map kV)) ∧ H5 D = some (.dT kvs) ∧ kvs.length < sizeLine ∧ Nx (upd H5 D (.dT (putK kvs k z))) else Nx H3)
theorem run {pins : List (Addr × Obj)} {s : Shared} {σ : L2.St} {H : Hp} {Q : VK} {kx vx tg iter : Expr} {ifs : List Expr} {scope : Scope} {own : List (Str × Nat)} {pos pos' : Pos} {wi : TI} {g : TG} {tt : TT} {tk tv : TE} {use : Option (Value → Sem Unit)} {Qf : Value → Shared → Prop} (hu : X.A.units < cLine) (hc : X.calm = true) (hN : X.N.Nodup) (I : Inv X pins σ H s) (hi : PI X tg iter wi) (ok : BlkOk X.N X.env.scope scope own)
    (hg : ∀ (s : Shared) (H : Hp) (C : Addr) (cl : List (Str × Addr)) (fp : List Addr), PG (X.blk s H scope (compEnvC scope cl C X.env) fp) tg g) (ht : ∀ (s : Shared) (H : Hp) (C : Addr) (cl : List (Str × Addr)) (fp : List Addr), PTs (X.blk s H scope (compEnvC scope cl C X.env) fp) ifs tt) (hk : ∀ (s : Shared) (H : Hp) (C : Addr) (cl : List (Str × Addr)) (fp : List Addr), PE (X.blk s H scope (compEnvC scope cl C X.env) fp) kx tk)
    (he : ∀ (s : Shared) (H : Hp) (C : Addr) (cl : List (Str × Addr)) (fp : List Addr), PE (X.blk s H scope (compEnvC scope cl C X.env) fp) vx tv) (hs : ∀ x, foldedSetIterable iter X.env x = pure x) (h : tDcT wi g tt tk tv (own.map (·.2)) σ H Q)
    (hR : ∀ D C s' m H', Inv X pins σ H' s' → Q (.ref D) H' → s'.heap.Ns C m → FpOk X pins H' C → compPost (model X.prog X.w) X.A X.xe use Qf (.ref D) C (.ok .next) s') :
    wpAny (model X.prog X.w) X.A (comprehension (.DictComp kx vx [⟨tg, iter, ifs, 0⟩] scope pos) scope X.env pos' newDict false (eval iter X.env) use) Qf X.xe s := by
  have hfree : ∀ y ∈ scope.names, y.2 = .free → ∃ c, X.env.cells.lookup y.1 = some c := fun y hy e => (ok.free y hy e).elim (fun k => I.ok.has _ (.inl k)) fun k => I.ok.has _ (.inr k)
  refine wpAny_comprehension_free (use := use) rfl hs (closure_ok hfree) ok.kind (fun y hy e => by rw [ok.uniq y hy, e]) (thn (hi.run pins s σ H _ I h) fun xv s1 hx => thn hx fun itv s2 h2 => ?_)
  obtain ⟨it, fp, tn, J, Hb, rfl, Ib, T, stb, fb, q⟩ := h2
  refine wpAny_newObj_type (newEnv_comp ?_)
  generalize hD : s2.heap.objs.size = D
  have frD : Hb D = none := Ib.hok.fresh (by rw [← hD]; exact Nat.le_refl _)
  obtain ⟨W, ⟨m0, w0⟩, turn⟩ := q D frD
  generalize hsd : ({ s2 with heap := s2.heap.push { cls := .type "dict", data := .dict #[] } } : Shared) = sd
  have Id : Inv X pins σ (upd Hb D (.dT [])) sd := by
    subst hsd hD
    exact Ib.laid (t' := s2.toks) (fun b o e => Heap.get?_push_of_some _ e) (Nat.le_refl _) (dt_empty s2.heap Ib.big)
  have eqd : sd.heap = s2.heap.push { cls := .type "dict", data := .dict #[] } := by rw [← hsd]
  have below : ∀ b ∈ fp, b < s2.heap.objs.size := fun b hb => let ⟨o, e, _⟩ := T.obj _ _ stb b hb; Heap.lt_size e
  have fd : ∀ b ∈ fp, FpOk X pins (upd Hb D (.dT [])) b ∧ b < sd.heap.objs.size := fun b hb => by
    have hlt := below b hb
    have hne : b ≠ D := by rw [← hD]; exact Nat.ne_of_lt hlt
    exact ⟨⟨(upd_ne hne).trans (fb b hb).1, (fb b hb).2⟩, by rw [eqd, Heap.size_push]; exact Nat.lt_succ_of_lt hlt⟩
  have std : tn 0 sd.heap := T.keep _ _ _ stb fun b _ o e => by rw [eqd]; exact Heap.get?_push_of_some _ e
  have Ie := block_start Id ok hN fd
  have P1 := hg sd (upd Hb D (.dT [])) sd.heap.objs.size (cellsFrom (sd.heap.objs.size + 1) scope.names (cloFrom X.env.cells scope.names [])) fp
  have P2 := ht sd (upd Hb D (.dT [])) sd.heap.objs.size (cellsFrom (sd.heap.objs.size + 1) scope.names (cloFrom X.env.cells scope.names [])) fp
  have P3 := hk sd (upd Hb D (.dT [])) sd.heap.objs.size (cellsFrom (sd.heap.objs.size + 1) scope.names (cloFrom X.env.cells scope.names [])) fp
  have P4 := he sd (upd Hb D (.dT [])) sd.heap.objs.size (cellsFrom (sd.heap.objs.size + 1) scope.names (cloFrom X.env.cells scope.names [])) fp
  show codeAny _ _ (.compStart (.DictComp kx vx [⟨tg, iter, ifs, 0⟩] scope pos) 0 (.ref it) (.ref D) (compEnvC scope (cellsFrom (sd.heap.objs.size + 1) scope.names (cloFrom X.env.cells scope.names [])) sd.heap.objs.size X.env)) (compPost (model X.prog X.w) X.A X.xe use Qf (.ref D) sd.heap.objs.size) _
  have nfp : ∀ b ∈ fp, (upd Hb D (.dT [])) b = none := fun b hb => (fd b hb).1.1
  generalize hce : compEnvC scope (cellsFrom (sd.heap.objs.size + 1) scope.names (cloFrom X.env.cells scope.names [])) sd.heap.objs.size X.env = ce at Ie P1 P2 P3 P4 ⊢
  have cL : ce.locals = sd.heap.objs.size := by rw [← hce]; rfl
  generalize hHd : upd Hb D (.dT []) = Hd at Id Ie P1 P2 P3 P4 w0 nfp fd
  generalize hse : ({ sd with heap := pushCells (sd.heap.push { cls := .type "dict", data := .dict #[] }) scope.names } : Shared) = se at Ie ⊢
  have ste : tn 0 se.heap := T.keep _ _ _ std fun b _ o e => by rw [← hse]; exact pushCells_keeps _ _ _ _ (Heap.get?_push_of_some _ e)
  have stat : ∀ {σ' : L2.St} {H' : Hp} {s' : Shared}, Inv (X.blk sd Hd scope ce fp) [] σ' H' s' → (∀ b ∈ fp, H' b = none) → ∀ b ∈ fp, FpOk (X.blk sd Hd scope ce fp) [] H' b := fun {σ' H' s'} I' hn b hb =>
    ⟨hn b hb, (I'.ok.exf b hb).1, I'.ok.exfs b hb, .inl hb, fun x c e => (I'.ok.exf b hb).2 x c e, fun p hp => by simp [Cx.blk] at hp⟩
  refine codeAny_compStart_dict (?_ : codeAny (model X.prog X.w) X.A (.compLoop (.DictComp kx vx [⟨tg, iter, ifs, 0⟩] scope pos) 0 (.ref it) (.ref D) ce) (compPost (model X.prog X.w) X.A X.xe use Qf (.ref D) sd.heap.objs.size) se) ?_
  all_goals
    have loop : codeAny (model X.prog X.w) X.A (.compLoop (.DictComp kx vx [⟨tg, iter, ifs, 0⟩] scope pos) 0 (.ref it) (.ref D) ce) (compPost (model X.prog X.w) X.A X.xe use Qf (.ref D) sd.heap.objs.size) se := by
      refine compLoop_anyD (fun n s' => ∃ i H', Inv (X.blk sd Hd scope ce fp) [] (wipe σ (own.map (·.2))) H' s' ∧ tn i s'.heap ∧ (∀ b ∈ fp, H' b = none) ∧ W i n H') ?_ m0 ⟨0, Hd, Ie, ste, nfp, w0⟩
      rintro n t5 ⟨i, H5, I5, st5, n5, w5⟩
      rcases turn i n H5 w5 with ⟨stop, qq⟩ | ⟨go, Nx, hNx, step⟩
      · refine thnF (T.done (X.blk sd Hd scope ce fp) rfl rfl rfl hc i [] t5 _ H5 (fun _ _ => False) I5 (stat I5 n5) st5 stop) ?_
        rintro r t6 ⟨rfl, I6⟩
        have Iz : Inv X pins σ H5 t6 := Id.call' (ch := fp) I6.os I6.base I6.hok I6.bare fun b hb => let z := (fd b hb).1.2; ⟨z.2.2.1, z.1, z.2.2.2.1, z.2.2.2.2⟩
        obtain ⟨m, hn, _⟩ := I6.loc
        have nC : H5 sd.heap.objs.size = none := cL ▸ (show H5 ce.locals = none from I6.free)
        exact hR D sd.heap.objs.size t6 m H5 Iz qq (cL ▸ (show t6.heap.Ns ce.locals m from hn)) (Id.fpOk (Nat.le_refl _) nC)
      · refine thnF (T.item (X.blk sd Hd scope ce fp) rfl rfl rfl hc i [] t5 _ H5 (fun _ _ => False) I5 (stat I5 n5) st5 go) ?_
        rintro r t6 ⟨u, rfl, h6⟩
        refine thnF h6 ?_
        rintro _ t7 ⟨x, H7, I7, r7, y7, st7, n7⟩
        refine thnF (P1.run _ t7 _ H7 x u _ (I7.pinned (stat I7 n7) (T.obj _ _ st7)) r7 (step x H7 y7)) ?_
        rintro _ t8 ⟨σ8, H8, I8, hw8, q8⟩
        refine thnF (P2.run _ t8 σ8 H8 _ I8 q8) ?_
        rintro b t9 ⟨H9, I9, q9⟩
        have fin : ∀ {s' : Shared} {H' : Hp}, Inv (X.blk sd Hd scope ce fp) ([] ++ pinsAt fp t7.heap) σ8 H' s' → Nx H' → ∃ m, m < n ∧ ∃ i H', Inv (X.blk sd Hd scope ce fp) [] (wipe σ (own.map (·.2))) H' s' ∧ tn i s'.heap ∧ (∀ b ∈ fp, H' b = none) ∧ W i m H' := fun {s' H'} I' nx => by
          obtain ⟨m', hm, w'⟩ := hNx H' nx
          have pn : ∀ b ∈ fp, ∀ o, t7.heap.get? b = some o → s'.heap.get? b = some o ∧ H' b = none := fun b hb o e => let z := I'.pin (b, o) (List.mem_append_right _ (List.mem_append_right _ (mem_pinsAt hb e))); ⟨z.1, z.2.1⟩
          refine ⟨m', hm, i + 1, H', (I'.unpinned (pins := [])).weak (by rw [← hw8, wipe_length]) (fun j v e => (wipe_some (hw8.symm ▸ e)).1), T.keep _ _ _ st7 fun b hb o e => (pn b hb o e).1, fun b hb => ?_, w'⟩
          obtain ⟨o, e, _⟩ := T.obj _ _ st7 b hb
          exact (pn b hb o e).2
        cases b with
        | false => exact fin I9 (by simpa using q9)
        | true =>
          have q9' := if_pos (c := true = true) rfl ▸ q9
          simp only [if_true] at q9 ⊢
          refine thnF (P3.run _ t9 σ8 H9 _ I9 q9) ?_
          rintro z t10 ⟨yk, Ha, Ia, ra, qa⟩
          refine thnF (P4.run _ t10 σ8 Ha _ Ia qa) ?_
          rintro z2 t11 ⟨yv, Hv, Iv, rv, kvs, k, a, rfl, ea, hDv, hzv, nx⟩
          obtain rfl : z = Value.ref a := by first | exact ra | (cases ra; rfl)
          exact put (X := X.blk sd Hd scope ce fp) hu Iv hDv hzv ea rv fun t12 I12 => fin I12 nx
    first | exact loop | exact T.self X.A 0 _ _ _ ste loop
end
end DcT
namespace Fn
open PySem PySem.Spec PyProof.Rows L2 DcT
end Fn
set_option Elab.async false
set_option linter.all false
set_option maxRecDepth 100000
set_option maxHeartbeats 1000000
namespace Fn
open PySem PySem.Spec PyProof.Rows L2
end Fn
set_option Elab.async false
set_option linter.all false
set_option maxRecDepth 100000
set_option maxHeartbeats 1000000
namespace Fn
open PySem PySem.Spec PyProof.Rows L2 L2.DX
end Fn
set_option Elab.async false
set_option linter.all false
set_option maxRecDepth 100000
set_option maxHeartbeats 2000000
namespace Fn
open PySem PySem.Spec PyProof.Rows L2 PySem.Froz L2.DX
end Fn
set_option Elab.async false
set_option linter.all false
set_option maxRecDepth 100000
set_option maxHeartbeats 2000000
namespace Fn
open PySem PySem.Spec PyProof.Rows L2 PySem.Froz L2.DX
end Fn
set_option Elab.async false
set_option linter.all false
set_option maxRecDepth 100000
set_option maxHeartbeats 2000000
namespace Fn
open PySem PySem.Spec PyProof.Rows L2
end Fn
set_option Elab.async false
set_option linter.all false
set_option maxRecDepth 100000
set_option maxHeartbeats 1000000
namespace Fn
open PySem PySem.Spec PyProof.Rows L2
section
variable {X : Cx} {G : Gx} {cl : Nat → Addr} {E : XK} {W : Wd} {H : Hp} {M : Mem} {a b c : Expr} {fa fb fc : FE} {pos : Pos}
def rSlC : V → Option Int → Option Int → Hp → VK → Prop := fun x lo hi H Q => ∃ (a : Addr) (o : Obj) (xs : List V), x = .ref a ∧ H a = some (.frz o (.tup xs)) ∧
  (HT.sIx xs.length 0 lo = 0 ∧ HT.sIx xs.length xs.length hi = xs.length → Q (.ref a) H) ∧ (¬ (HT.sIx xs.length 0 lo = 0 ∧ HT.sIx xs.length xs.length hi = xs.length) → ∀ (p : Addr) (o' : Obj), H p = none → o'.dict = none → Q (.ref p) (upd H p (.frz o' (.tup (cutV xs lo hi)))))
theorem sl_tupC : SlR X rSlC := by
  intro pins s σ H x v vl vu lo hi sl Q I rx hs pl pu h
  obtain ⟨a, o, xs, rfl, hx0, q1, q2⟩ := h
  have hx : SqT X.K H a xs := .inl (.inr ⟨o, hx0⟩)
  by_cases hw : HT.sIx xs.length 0 lo = 0 ∧ HT.sIx xs.length xs.length hi = xs.length
  · cases rx
    obtain ⟨its, r, ht, hz⟩ := I.tuple hx
    have hlen : its.toArray.size = xs.length := by rw [List.size_toArray]; exact r.length.symm
    refine ⟨"tuple", _, PyProof.Rows.slot_tuple_getitem.lookup, ht.typeIs, ?_⟩
    exact getItem_tuple_whole ht hs pl pu (by rw [hlen]; exact hw) ⟨.ref a, H, I, rfl, q1 hw⟩
  · cases rx
    obtain ⟨its, r, ht, hz⟩ := I.tuple hx
    have hlen : its.toArray.size = xs.length := by rw [List.size_toArray]; exact r.length.symm
    refine ⟨"tuple", _, PyProof.Rows.slot_tuple_getitem.lookup, ht.typeIs, ?_⟩
    refine HT.getItem_tuple_cut ht hs pl pu (by rw [hlen]; exact hw) ?_ (by rw [hlen]; exact hz)
    rw [hlen]
    refine ⟨.ref s.heap.objs.size, _, I.laid (t' := s.toks) (o := .frz _ (.tup (cutV xs lo hi))) (fun b ob q => Heap.get?_push_of_some _ q) (Nat.le_refl _) ⟨Heap.get?_push_size _ rfl, Nat.le_trans (cutV_length xs lo hi) hz, _, (r.drop (HT.sIx xs.length 0 lo)).take (HT.sIx xs.length xs.length hi - HT.sIx xs.length 0 lo), IsTup.new _ _⟩, rfl, ?_⟩
    exact q2 hw _ _ (I.hok.fresh (Nat.le_refl _)) rfl
def oSlC (d : D) (lo hi : Option Int) (M : Mem) : R D := match d with
  | .ct l => .ok (.ct (cutD l lo hi)) M
  | _ => .no
def mSlC (f : FE) (lo hi : FO) : FE := fun env M => (f env M).bind fun d m => (lo env m).bind fun l m1 => (hi env m1).bind fun h m2 => oSlC d l h m2
theorem slC2 (d : D) (lo hi : Option Int) (W : Wd) (H : Hp) (M : Mem) (u : V) (Q : VK) (m : MemOk G W H M) (r : Rp G W H d u) (p : PR G W H (PV G Q) E (oSlC d lo hi M)) : rSlC u lo hi H Q := by
  cases d with
  | ct l =>
    obtain ⟨a1, us, h1, ⟨o, h2, hd⟩, h3⟩ := r
    refine ⟨a1, o, us, h1, h2, fun hw => p.here m _ ⟨a1, us, rfl, ⟨o, h2, hd⟩, ?_⟩, fun _ => ct_new m p (h3.cut lo hi)⟩
    have hw' := hw
    rw [h3.len] at hw'
    rw [cutD_whole hw']
    exact h3
  | _ => exact p.elim
theorem sn_slC {lo hi : Option Expr} {gl gh : FO} {p2 : Pos} (ha : PE X a (tE ⟨X.K, cl⟩ E fa)) (hl : PO X lo (tOO ⟨X.K, cl⟩ E gl)) (hh : PO X hi (tOO ⟨X.K, cl⟩ E gh)) : PE X (.Subscript a (.Slice lo hi none p2) pos) (tE ⟨X.K, cl⟩ E (mSlC fa gl gh)) :=
  pe_imp (pe_slice sl_tupC ha hl hh) fun σ H Q ⟨W, env, M, s, p⟩ => by
    refine tE.bind s p fun d m W1 H1 u f1 s1 r1 p1 => ?_
    refine ⟨W1, env, m, s1, PR.bind p1 fun l m2 W2 H2 f2 k2 p2 => ?_⟩
    have s2 := s1.fut f2 k2
    refine ⟨W2, env, m2, s2, PR.bind p2 fun h m3 W3 H3 f3 k3 p3 => ?_⟩
    exact slC2 d l h W3 H3 m3 u Q k3 (s2.mem.rp f3 (s1.mem.rp f2 r1)) p3
theorem mSlC_eq (f : FE) (lo hi : FO) {env : Fn.Env} : mSlC f lo hi env M = (f env M).bind fun d m => (lo env m).bind fun l m1 => (hi env m1).bind fun h m2 => oSlC d l h m2 := rfl
theorem oSlC_ct (l : List D) (lo hi : Option Int) : oSlC (.ct l) lo hi M = .ok (.ct (cutD l lo hi)) M := rfl
def rCntC (K : PySem.W.Frag) : V → List V → Hp → VK → Prop := fun x xs H Q => ∃ (a : Addr) (o : Obj) (us : List V) (ps : List PyData) (y : V) (p : PyData), x = .ref a ∧ H a = some (.frz o (.tup us)) ∧ o.dict = none ∧ xs = [y] ∧ DpAll K H us ps ∧ Dp K H y p ∧ PyData.plainAll ps = true ∧ p.plain = true ∧ min (PyData.depthAll ps) p.depth ≤ 60 ∧ Q (.int ((ps.countP fun z => PyData.eqv z p : Nat) : Int)) H
theorem mt_tcount (hu : X.A.units + 64 < cLine) : MtR X "tuple.count" (rCntC X.K) := by
  intro pins s σ H x xs v us Q I rx rxs h
  obtain ⟨a, o, vs, ps, y, p, rfl, ha, hd, rfl, hp, hy, sd, se, hm, q⟩ := h
  cases rx
  obtain ⟨u, rfl, ru⟩ := rxs.one
  obtain ⟨its, rv, ht, hz⟩ := I.tuple (show SqT X.K H a vs from .inl (.inr ⟨o, ha⟩))
  obtain ⟨as, r1⟩ := Dp.readsAll I ps vs its hp rv
  obtain ⟨bs, r2⟩ := Dp.reads I p y u hy ru
  refine PySem.SeqAt.count_tuple_data (xs := ps) (d := p) (vs := its.toArray) ht (by simpa using r1) r2 sd se (by omega) ?_
  exact ⟨.int _, H, I.tok _, ⟨s.toks, rfl⟩, q⟩
theorem pe_bmC {r : V → List V → Hp → VK → Prop} {o e : Expr} {es : List Expr} {to : TE} {t : TA} {name : Str} {apos cpos : Pos} {id : String} (slot : Slot "tuple" name id) (hty : typeOf (.builtin id) = pure (.type "method_descriptor")) (hm : MtR X id r) (ho : PE X o to) (ha : PA X (e :: es) t)
    (hbase : attributeBase o name X.env (eval o X.env) = eval o X.env := by rfl)
    (hfew : ((backTo cpos (starEach (e :: es) X.env)).all (fun x => !x.1) && (backToKw cpos (keywordEach [] X.env)).all (fun x => x.1.isSome)
      && decide ((e :: es).length + ([] : List Keyword).length + (if ([] : List Keyword).isEmpty then 0 else 1) < 30)) = true := by rfl)
    (hline : (apos.endLine == cpos.line) = true := by rfl) (hs : starEach (e :: es) X.env = (false, eval e X.env) :: starEach es X.env := by rfl) (hplain : (backTo cpos (starEach es X.env)).any (·.1) = false := by rfl) :
    PE X (.Call (.Attribute o name apos) (e :: es) [] cpos) (fun σ H Q => to σ H fun x H1 => (∃ a ob us, x = .ref a ∧ H1 a = some (.frz ob (.tup us)) ∧ ob.dict = none) ∧ t σ H1 fun xs H2 => r x xs H2 Q) := by
  refine ⟨fun pins s σ H Q I h => ?_⟩
  refine wpAny_Call_method_late hbase hfew hline rfl (thn (ho.run pins s σ H _ I h) fun v s1 ⟨x, H1, I1, r1, ty, q1⟩ => ?_)
  obtain ⟨a, ob, us, rfl, ha1, hd1⟩ := ty
  have r0 := r1
  cases r1
  obtain ⟨its, rv, ht, hz⟩ := I1.tuple (show SqT X.K H1 a us from .inl (.inr ⟨ob, ha1⟩))
  obtain ⟨hraw, hz2, its2, rv2, ho2⟩ := I1.hok a _ ha1
  refine ⟨"tuple", id, PySem.F.plainAttrs_tuple, slot, hty, ht.typeIs, ?_, ?_⟩
  · intro b e
    cases e
    exact ⟨ob, hraw, hd1⟩
  have hA := ha.run cpos pins s1 σ H1 _ I1 q1
  rw [hs] at hA ⊢
  refine Calls.callWith_builtin (by show (false || (backTo cpos (starEach es X.env)).any (·.1)) = false; rw [hplain] <;> rfl) (Calls.evalArgs_plain ?_)
  exact thn hA fun us s2 ⟨vs, H2, I2, r2, q2⟩ => hm pins s2 σ H2 _ vs _ us Q I2 r0 r2 q2
def oCntC : D → List D → Mem → R D
  | .ct l, [d], M => match pyL l, pyD d with
    | some ps, some p => if min (PyData.depthAll ps) p.depth ≤ 60 then .ok (.int ((ps.countP fun z => PyData.eqv z p : Nat) : Int)) M else .no
    | _, _ => .no
  | _, _, _ => .no
def mCntC (f : FE) (g : FA) : FE := fun env M => (f env M).bind fun a m => match a with
  | .ct l => (g env m).bind fun ds m' => oCntC (.ct l) ds m'
  | _ => .no
theorem mCntC_eq (f : FE) (g : FA) {env : Fn.Env} : mCntC f g env M = (f env M).bind fun a m => match a with
  | .ct l => (g env m).bind fun ds m' => oCntC (.ct l) ds m'
  | _ => .no := rfl
theorem sn_cntC {o e : Expr} {es : List Expr} {f : FE} {g : FA} {apos cpos : Pos} (hu : X.A.units + 64 < cLine) (ho : PE X o (tE ⟨X.K, cl⟩ E f)) (ha : PA X (e :: es) (tA ⟨X.K, cl⟩ E g))
    (hbase : attributeBase o "count" X.env (eval o X.env) = eval o X.env := by rfl)
    (hfew : ((backTo cpos (starEach (e :: es) X.env)).all (fun x => !x.1) && (backToKw cpos (keywordEach [] X.env)).all (fun x => x.1.isSome)
      && decide ((e :: es).length + ([] : List Keyword).length + (if ([] : List Keyword).isEmpty then 0 else 1) < 30)) = true := by rfl)
    (hline : (apos.endLine == cpos.line) = true := by rfl) (hs : starEach (e :: es) X.env = (false, eval e X.env) :: starEach es X.env := by rfl) (hplain : (backTo cpos (starEach es X.env)).any (·.1) = false := by rfl) :
    PE X (.Call (.Attribute o "count" apos) (e :: es) [] cpos) (tE ⟨X.K, cl⟩ E (mCntC f g)) :=
  pe_imp (pe_bmC PySem.F.slot_tuple_count PySem.F.type_tuple_count (mt_tcount hu) ho ha hbase hfew hline hs hplain) fun σ H Q ⟨W, env, M, s, p⟩ => by
    refine tE.bind s p fun d m W1 H1 u f1 s1 r1 p1 => ?_
    cases d with
    | ct l =>
      obtain ⟨a1, us, rfl, ⟨ob, h2, hd⟩, h3⟩ := r1
      refine ⟨⟨a1, ob, us, rfl, h2, hd⟩, ?_⟩
      refine tA.bind s1 p1 fun ds m2 W2 H2 vs f2 s2 r2 p2 => ?_
      have k2 := s1.mem.rp f2 (show Rp _ W1 H1 (.ct l) (.ref a1) from ⟨a1, us, rfl, ⟨ob, h2, hd⟩, h3⟩)
      obtain ⟨a2, us2, e2, ⟨ob2, g2, gd⟩, g3⟩ := k2
      cases e2
      cases ds with
      | nil => exact p2.elim
      | cons d ds =>
        cases ds with
        | cons d2 ds => exact p2.elim
        | nil =>
          obtain ⟨y, rfl, ry⟩ := rp_one r2
          simp only [oCntC] at p2
          split at p2
          · rename_i ps p e1 e2
            split at p2
            · rename_i hm
              exact ⟨a1, ob2, us2, ps, y, p, rfl, g2, gd, rfl, pyL_ok g3 e1, pyD_ok ry e2, pyL_plain e1, pyD_plain e2, hm, p2.here s2.mem _ rfl⟩
            · exact p2.elim
          · exact p2.elim
    | _ => exact p1.elim
end
end Fn
set_option Elab.async false
set_option linter.all false
set_option maxRecDepth 100000
set_option maxHeartbeats 1000000
namespace Fn
open PySem PySem.Spec PyProof.Rows L2
section
variable {X : Cx} {G : Gx} {cl : Nat → Addr} {E : XK} {W : Wd} {H : Hp} {M : Mem} {a b c : Expr} {fa fb fc : FE} {pos : Pos}
def rCatC : R2 := fun x y H Q => ∃ (a b : Addr) (o o' : Obj) (xs ys : List V), x = .ref a ∧ y = .ref b ∧ H a = some (.frz o (.tup xs)) ∧ H b = some (.frz o' (.tup ys)) ∧ xs.length + ys.length ≤ sizeLine ∧
  (xs = [] → Q (.ref b) H) ∧ (xs ≠ [] → ys = [] → Q (.ref a) H) ∧ (xs ≠ [] → ys ≠ [] → ∀ (p : Addr) (o : Obj), H p = none → o.dict = none → Q (.ref p) (upd H p (.frz o (.tup (xs ++ ys)))))
theorem op_catC : OpR X (binaryOp .Add) rCatC := by
  intro pins s σ H x y v u Q I rx ry h
  obtain ⟨a, b, o, o', xs, ys, rfl, rfl, ha0, hb0, hz, q0, q1, q2⟩ := h
  have ha : SqT X.K H a xs := .inl (.inr ⟨o, ha0⟩)
  have hb : SqT X.K H b ys := .inl (.inr ⟨o', hb0⟩)
  cases rx
  cases ry
  obtain ⟨its, r1, p1, _⟩ := I.tuple ha
  obtain ⟨its2, r2, p2, _⟩ := I.tuple hb
  by_cases hx : xs = []
  · subst hx
    cases r1
    exact cat_tup0 p1 p2 ⟨.ref b, H, I, rfl, q0 rfl⟩
  · refine HT.cat_tup p1 p2 (fun z => hx (r1.nil_iff.mp z)) (fun z => ⟨.ref a, H, I, rfl, q1 hx (r2.nil_iff.mp z)⟩) (fun z => ?_) (by rw [← r1.length, ← r2.length]; exact hz)
    refine ⟨.ref s.heap.objs.size, _, I.laid (t' := s.toks) (o := .frz _ (.tup (xs ++ ys))) (fun b ob q => Heap.get?_push_of_some _ q) (Nat.le_refl _) ⟨Heap.get?_push_size _ rfl, by rw [List.length_append]; exact hz, _, r1.append r2, IsTup.new _ _⟩, rfl, ?_⟩
    exact q2 hx (fun w => z (r2.nil_iff.mpr w)) _ _ (I.hok.fresh (Nat.le_refl _)) rfl
def oCatC (a b : D) (M : Mem) : R D := match a, b with
  | .ct x, .ct y => if x.length + y.length ≤ 16777216 then .ok (.ct (x ++ y)) M else .no
  | _, _ => .no
theorem op2_catC : Op2 G E rCatC oCatC := fun W H M a b u v Q m ra rb p => by
  cases a <;> cases b <;> first
    | exact p.elim
    | (simp only [oCatC] at p
       split at p
       · rename_i xs ys hc
         obtain ⟨a1, us, e1, ⟨o1, s1, d1⟩, r1⟩ := id ra
         obtain ⟨a2, vs, e2, ⟨o2, s2, d2⟩, r2⟩ := id rb
         subst e1 e2
         refine ⟨a1, a2, o1, o2, us, vs, rfl, rfl, s1, s2, by rw [r1.len, r2.len, line_eq]; exact hc, fun z => ?_, fun _ z => ?_, fun _ _ => ct_new m p (r1.append r2)⟩
         · have e3 : xs = [] := by
             have := r1.len
             rw [z] at this
             exact List.length_eq_zero_iff.mp this.symm
           rw [e3, List.nil_append] at p
           exact p.here m _ rb
         · have e3 : ys = [] := by
             have := r2.len
             rw [z] at this
             exact List.length_eq_zero_iff.mp this.symm
           rw [e3, List.append_nil] at p
           exact p.here m _ ra
       · exact p.elim)
theorem sn_catC (ha : PE X a (tE ⟨X.K, cl⟩ E fa)) (hb : PE X b (tE ⟨X.K, cl⟩ E fb)) : PE X (.BinOp a .Add b pos) (tE ⟨X.K, cl⟩ E (mOp oCatC fa fb)) := sn_op op_catC op2_catC ha hb
theorem oCatC_ct (x y : List D) (h : x.length + y.length ≤ 16777216) : oCatC (.ct x) (.ct y) M = .ok (.ct (x ++ y)) M := by simp only [oCatC, if_pos h]
def rMulC : R2 := fun x y H Q => ∃ (l : Addr) (o : Obj) (k : Int) (xs : List V), x = .ref l ∧ y = .int k ∧ H l = some (.frz o (.tup xs)) ∧ 2 ≤ k ∧ k ≤ 1000 ∧ xs.length ≤ 1000 ∧ (xs = [] → Q (.ref l) H) ∧ (xs ≠ [] → ∀ (p : Addr) (o : Obj), H p = none → o.dict = none → Q (.ref p) (upd H p (.frz o (.tup (List.replicate k.toNat xs).flatten))))
theorem op_mulC : OpR X (binaryOp .Mult) rMulC := by
  intro pins s σ H x y v u Q I rx ry h
  obtain ⟨l, o0, k, xs, rfl, rfl, hT0, h1, h2, hz, q0, q⟩ := h
  have hT : SqT X.K H l xs := .inl (.inr ⟨o0, hT0⟩)
  cases rx
  obtain ⟨t, rfl⟩ := ry
  obtain ⟨its, r, ⟨⟨cls, dd, data, sl⟩, ho, hc, n, hd⟩, hs⟩ := I.tuple hT
  simp only at hc hd
  subst hc hd
  have hle : its.length = xs.length := r.length.symm
  have c0 : (decide (k < -(2 ^ 63)) || decide (k ≥ 2 ^ 63)) = false := by
    rw [decide_eq_false (by omega), decide_eq_false (by omega)] <;> rfl
  by_cases hne : xs = []
  · have hi : its = [] := List.length_eq_zero_iff.mp (by rw [hle, hne]; rfl)
    refine wpAny_binaryOp_repeat_ref (T := "tuple") (U := "int") (by decide) ⟨_, ho, rfl⟩ (fun s' => typeIs_int s' k t) noFill_tuple_mul F.fills_int_mul F.slot_int_rmul repeat_tuple F.slot_int_index.lookup
      (call_meets F.slot_int_rmul (typeIs_int s k t) F.entry_int_rmul (F.args_int_rmul_2 _ _) (int_rmul_tuple k t l its.toArray n dd sl)
        ⟨ho, rfl, ⟨_, ho, rfl⟩, call_meets F.slot_tuple_mul ⟨_, ho, rfl⟩ F.entry_tuple_mul (F.args_tuple_mul_2 _ _) (tuple_mulSame l its.toArray n dd sl k t c0 (by rw [hi]; rfl)) ⟨ho, ?_⟩⟩)
    exact ⟨.ref l, H, I, rfl, q0 hne⟩
  have hn : its ≠ [] := fun e => hne (by
    rw [e] at hle
    exact List.eq_nil_of_length_eq_zero hle.symm)
  have hi : its.toArray.isEmpty = false := by
    cases its with
    | nil => exact absurd rfl hn
    | cons a b => rfl
  have hsz0 : its.toArray.size = xs.length := by rw [List.size_toArray, hle]
  have hm : ((its.toArray.size : Nat) : Int) * k ≤ 1000000 := by
    rw [hsz0]
    have a1 : ((xs.length : Nat) : Int) * k ≤ 1000 * k := Int.mul_le_mul_of_nonneg_right (by omega) (by omega)
    omega
  have flen : (List.replicate k.toNat its).flatten.length ≤ sizeLine := by
    rw [PyProof.Rows.lm_len_rep_flat, hle, sizeLine_eq]
    have a1 : k.toNat * xs.length ≤ 1000 * 1000 := Nat.mul_le_mul (by omega) hz
    omega
  have c1 : (its.toArray.isEmpty || k == 1) = false := by
    rw [hi, Bool.false_or]
    exact beq_eq_false_iff_ne.mpr (by omega)
  have c2 : (decide (k ≤ 0) || its.toArray.isEmpty) = false := by
    rw [hi, Bool.or_false]
    exact decide_eq_false (by omega)
  have c4 : Builtin.Tuple.tupleTooMany (((its.toArray.size : Nat) : Int) * k) = false := by
    unfold Builtin.Tuple.tupleTooMany
    rw [sizeLine_eq]
    exact decide_eq_false (by omega)
  refine wpAny_binaryOp_repeat_ref (T := "tuple") (U := "int") (by decide) ⟨_, ho, rfl⟩ (fun s' => typeIs_int s' k t) noFill_tuple_mul F.fills_int_mul F.slot_int_rmul repeat_tuple F.slot_int_index.lookup
    (call_meets F.slot_int_rmul (typeIs_int s k t) F.entry_int_rmul (F.args_int_rmul_2 _ _) (int_rmul_tuple k t l its.toArray n dd sl)
      ⟨ho, rfl, ⟨_, ho, rfl⟩, call_meets F.slot_tuple_mul ⟨_, ho, rfl⟩ F.entry_tuple_mul (F.args_tuple_mul_2 _ _) (tuple_mulW l its.toArray n dd sl k t c0 c1 c2 (by omega) c4 (by rw [size_rep, List.size_toArray]; exact flen)) ⟨ho, ?_⟩⟩)
  rw [size_rep]
  refine ⟨.ref s.heap.objs.size, _, I.laid (t' := s.toks) (o := .frz _ (.tup (List.replicate k.toNat xs).flatten)) (fun b ob q => Heap.get?_push_of_some _ q) (Nat.le_refl _) ⟨Heap.get?_push_size _ rfl, ?_, _, r.rep k.toNat, IsTup.new _ _⟩, rfl, q hne _ _ (I.hok.fresh (Nat.le_refl _)) rfl⟩
  rw [PyProof.Rows.lm_len_rep_flat, sizeLine_eq]
  have a1 : k.toNat * xs.length ≤ 1000 * 1000 := Nat.mul_le_mul (by omega) hz
  omega
def oMulC (a b : D) (M : Mem) : R D := match a, b with
  | .ct l, .int k => if 2 ≤ k ∧ k ≤ 1000 ∧ l.length ≤ 1000 then .ok (.ct (List.replicate k.toNat l).flatten) M else .no
  | _, _ => .no
theorem op2_mulC : Op2 G E rMulC oMulC := fun W H M a b u v Q m ra rb p => by
  unfold oMulC at p
  split at p
  · rename_i l k
    split at p
    · rename_i hc
      obtain ⟨a1, us, e1, ⟨o1, s1, d1⟩, r1⟩ := id ra
      subst e1
      cases rb
      refine ⟨a1, o1, k, us, rfl, rfl, s1, hc.1, hc.2.1, by rw [r1.len]; exact hc.2.2, fun z => ?_, fun _ => ct_new m p (r1.rep k.toNat)⟩
      have e3 : l = [] := by
        have := r1.len
        rw [z] at this
        exact List.length_eq_zero_iff.mp this.symm
      have e4 : (List.replicate k.toNat l).flatten = l := by rw [e3]; simp
      rw [e4] at p
      exact p.here m _ ra
    · exact p.elim
  · exact p.elim
theorem sn_mulC (ha : PE X a (tE ⟨X.K, cl⟩ E fa)) (hb : PE X b (tE ⟨X.K, cl⟩ E fb)) : PE X (.BinOp a .Mult b pos) (tE ⟨X.K, cl⟩ E (mOp oMulC fa fb)) := sn_op op_mulC op2_mulC ha hb
theorem oMulC_two (l : List D) (h : l.length ≤ 1000) : oMulC (.ct l) (.int 2) M = .ok (.ct (l ++ l)) M := by
  have e : (List.replicate (2 : Int).toNat l).flatten = l ++ l := by
    show (List.replicate 2 l).flatten = l ++ l
    simp [List.replicate]
  simp only [oMulC]
  rw [if_pos ⟨by omega, by omega, h⟩, e]
def tRevC (te : TE) : TE := fun σ H Q => te σ H fun x H1 => ∃ (a : Addr) (o : Obj) (xs : List V), x = .ref a ∧ H1 a = some (.frz o (.tup xs)) ∧ ∀ (p : Addr) (o' : Obj), H1 p = none → o'.dict = none → Q (.ref p) (upd H1 p (.frz o' (.tup xs.reverse)))
theorem pe_revC {e : Expr} {te : TE} {k : Nat} {p1 p2 p3 pos : Pos} (he : PE X e te) : PE X (.Subscript e (.Slice none none (some (.UnaryOp .USub (.Constant (.int 1) k p1) p2)) p3) pos) (tRevC te) := by
  refine ⟨fun pins s σ H Q I h => ?_⟩
  refine Subscript_ (thn (he.run pins s σ H _ I h) fun v s1 ⟨x, H1, I1, r1, q1⟩ => ?_)
  have hst : PO X (some (.UnaryOp .USub (.Constant (.int 1) k p1) p2)) (tPart (tUn (rU fun i => .int (-i)) (tC (.int 1)))) := po_some (pe_un un_neg pe_int)
  refine wpAny_Slice (thn (po_none.run pins s1 σ H1 (fun o H2 => o = none ∧ H2 = H1) I1 ⟨rfl, rfl⟩) fun vl s2 ⟨l, H2, I2, pl, el, e2⟩ => ?_)
  subst el e2
  refine thn (po_none.run pins s2 σ H2 (fun o H3 => o = none ∧ H3 = H2) I2 ⟨rfl, rfl⟩) fun vu s3 ⟨u, H3, I3, pu, eu, e3⟩ => ?_
  subst eu e3
  refine thn (hst.run pins s3 σ H3 (fun o H4 => o = some (-1) ∧ H4 = H3) I3 ⟨1, rfl, -1, rfl, rfl, rfl⟩) fun vs s4 ⟨o, H4, I4, ps, eo, e4⟩ => ?_
  subst eo e4
  have I5 : Inv X pins σ H4 { s4 with heap := s4.heap.push { cls := .type "slice", data := .fields #[vl, vu, vs] } } := I4.kept (t' := s4.toks) fun b ob q => Heap.get?_push_of_some _ q
  obtain ⟨a, oa, xs, ex, hx0, q⟩ := q1
  have hx : SqT X.K H4 a xs := .inl (.inr ⟨oa, hx0⟩)
  subst ex
  cases r1
  obtain ⟨its, r, ht, hz⟩ := I5.tuple hx
  have hlen := r.length
  show wpAny (model X.prog X.w) X.A (subscriptTail e (.Slice none none (some (.UnaryOp .USub (.Constant (.int 1) k p1) p2)) p3) (.ref a) (.ref s4.heap.objs.size)) (EP X pins σ Q) X.xe { s4 with heap := s4.heap.push { cls := .type "slice", data := .fields #[vl, vu, vs] } }
  refine tail_any (ops := [.ref a, .ref s4.heap.objs.size]) ht.typeIs PyProof.Rows.slot_tuple_getitem.lookup ?_ (by with_unfolding_all rfl)
  refine getItem_tuple_rev ht (Heap.IsSliceOf.new _ vl vu vs) pl pu ps ?_ (by rw [List.size_toArray]; omega)
  refine ⟨.ref _, _, I5.laid (t' := s4.toks) (o := .frz _ (.tup xs.reverse)) (fun b ob q => Heap.get?_push_of_some _ q) (Nat.le_refl _) ⟨Heap.get?_push_size _ rfl, by rw [List.length_reverse]; exact hz, _, r.reverse, IsTup.new _ _⟩, rfl, q _ _ (I5.hok.fresh (Nat.le_refl _)) rfl⟩
def oRevC (d : D) (M : Mem) : R D := match d with
  | .ct l => .ok (.ct l.reverse) M
  | _ => .no
theorem oRevC_ct (l : List D) : oRevC (.ct l) M = .ok (.ct l.reverse) M := rfl
theorem sn_revC {e : Expr} {fa : FE} {j : Nat} {p1 p2 p3 : Pos} (ha : PE X e (tE ⟨X.K, cl⟩ E fa)) : PE X (.Subscript e (.Slice none none (some (.UnaryOp .USub (.Constant (.int 1) j p1) p2)) p3) pos) (tE ⟨X.K, cl⟩ E (mUn oRevC fa)) := pe_imp (pe_revC ha) fun σ H Q ⟨W, env, M, s, p⟩ => by
  refine tE.bind s p fun d m W1 H1 u f1 s1 r1 p1 => ?_
  unfold oRevC at p1
  split at p1
  · rename_i l
    obtain ⟨a1, us, h1, ⟨o1, h2, d2⟩, h3⟩ := r1
    exact ⟨a1, o1, us, h1, h2, ct_new s1.mem p1 h3.reverse⟩
  · exact p1.elim
end
end Fn
set_option Elab.async false
set_option linter.all false
set_option maxRecDepth 100000
set_option maxHeartbeats 1000000
namespace Fn
open PySem PySem.Spec PyProof.Rows L2
section
variable {X : Cx} {G : Gx} {cl : Nat → Addr} {E : XK} {W : Wd} {H : Hp} {M : Mem} {a b c : Expr} {fa fb fc : FE} {pos : Pos}
def rSortTC (G : Gx) : List V → Hp → VK → Prop := fun vs H Q => ∃ (W : Wd) (a : Addr) (us : List V) (ds : List D), vs = [V.ref a] ∧ SqT G.K H a us ∧ RpL G W H ds us ∧ sortOk ds ∧ (∀ d ∈ ds, ∃ p, pyD d = some p ∧ atomP p = true) ∧ ∀ us' p, RpL G W H (sortD ds) us' → H p = none → Q (.ref p) (upd H p (.lst us'))
theorem cr_sortTC (hu : X.A.units + 64 < cLine) : CallR X (.builtin "sorted") (rSortTC ⟨X.K, cl⟩) := by
  intro pins s σ H vs us Q I r h
  obtain ⟨W, a, vs', ds, rfl, hs, hr, hk, hat, q⟩ := h
  rw [Vals.ref1 r]
  obtain ⟨its, rv, ⟨o, ho, hcl, n, hd⟩, hz⟩ := I.tuple hs
  have hlen : its.length = ds.length := by rw [← rv.length, hr.len]
  have hL : ds.length ≤ sizeLine := by rw [← hr.len]; exact hz
  have en : ∀ d ∈ ds, pyD d = some (encD d) ∧ atomP (encD d) = true := fun d hd => by
    obtain ⟨p, h1, h2⟩ := hat d hd
    have : encD d = p := by unfold encD; rw [h1]; rfl
    rw [this]; exact ⟨h1, h2⟩
  refine Calls.call_function_entry PyProof.Rows.kind_sorted PyProof.Rows.plain_sorted PyProof.Rows.entry_sorted (PyProof.Rows.args_sorted1 _) ?_
  unfold Builtin.«sorted»; refine wpAny_bind (m := checkCount "sorted" 1 1 _) (wpAny_pure ?_)
  refine wpAny_bind (wpAny_collect_seq a (.inr rfl) ho hcl hd (fun h' kp => ?_) (by rw [List.size_toArray, hlen]; exact hL))
  have ei : its.toArray.toList = its := by simp
  rw [ei]
  have e := eachIs_rp (h := s.heap) hr rv
  refine wpAny_bind (wpAny_newList ?_ (by rw [hlen]; exact hL))
  have hoL : (h'.push (seqObj "list" its.toArray 0)).get? h'.objs.size = some (seqObj "list" its.toArray 0) := Heap.get?_push_size _ rfl
  have I1 : Inv X pins σ H { s with heap := h' } := I.kept (t' := s.toks) kp
  have er : PySem.W.EachIs (fun v d => ∃ as, Reads (h'.push (seqObj "list" its.toArray 0)) v (encD d) as ∧ h'.objs.size ∉ as) its ds := eachIs_mono e fun v d hd ⟨u, h1, h2⟩ => by
    obtain ⟨hpy, hatm⟩ := en d hd
    obtain ⟨as, ra⟩ := Dp.reads I _ u v (pyD_ok h1 hpy) h2
    have : as = [] := reads_atom ra hatm
    subst this
    exact ⟨[], Reads.keeps (fun b o q => Heap.get?_push_of_some _ (kp b o q)) ra, by simp⟩
  refine wpAny_bind (wpAny_holding (wpAny_mono (PySem.W.list_sort_data (s := { s with heap := h'.push (seqObj "list" its.toArray 0) }) (vs := its) (n := 0) hoL e er (fun p hp p' hp' => ?_) (.inr fun p hp => ?_) hL (fun d hd => ?_) (Q := fun _ s' => EP X pins σ Q (.ref h'.objs.size) s') fun out ho' eo => ?_) (fun _ s' x => wpAny_pure ⟨_, rfl, x⟩) fun _ _ e => e))
  · obtain ⟨d, hd, rfl⟩ := List.mem_map.mp hp
    obtain ⟨d', hd', rfl⟩ := List.mem_map.mp hp'
    exact hk.2.1 d hd d' hd'
  · obtain ⟨d, hd, rfl⟩ := List.mem_map.mp hp
    have h1 := (en d hd).2
    refine ⟨fun z => ?_, fun xs z => ?_⟩
    · rw [z] at h1; cases h1
    · rw [z] at h1; cases h1
  · have := (hk.1 d hd).2
    have h5 : X.A.in1.units = X.A.units + 1 := rfl
    rw [h5]; omega
  · obtain ⟨us', h1, h2⟩ := eachIs_back eo
    obtain ⟨e', he'⟩ := PyProof.Rows.sortedHeap_at (vs := its) (out := out.toArray) hoL
    have hlen' : us'.length ≤ sizeLine := by rw [h2.length, ho']; exact hL
    refine ⟨.ref h'.objs.size, upd H h'.objs.size (.lst us'), I1.laid (t' := s.toks) (fun b u e => ?_) (Nat.le_refl _) ⟨hlen', out, e', h2, he'⟩, rfl, q us' _ h1 (I1.hok.fresh (Nat.le_refl _))⟩
    have hb : b < h'.objs.size := Heap.lt_size e
    rw [PyProof.Rows.sortedHeap_old (Nat.ne_of_lt hb) (by rw [size_push']; exact Nat.lt_succ_of_lt hb)]
    exact Heap.get?_push_of_some _ e
/-- texts -/
def strsO : List D → Option (List (List Nat))
  | [] => some []
  | .str x :: l => (strsO l).map (x :: ·)
  | _ => none
theorem strsO_eq : ∀ {l : List D} {x : List (List Nat)}, strsO l = some x → l = x.map .str
  | [], x, h => by cases h; rfl
  | .str y :: l, x, h => by
    obtain ⟨z, h1, rfl⟩ := Option.map_eq_some_iff.mp h
    rw [strsO_eq h1]; rfl
theorem strsO_map : ∀ x : List (List Nat), strsO (x.map .str) = some x
  | [] => rfl
  | y :: l => by rw [List.map_cons]; simp only [strsO, strsO_map l]; rfl
open Classical in
noncomputable def oSortTC (c : Bool) : List D → Mem → R D
  | [.ct l], M => match strsO l with
    | some x => if sortOk (x.map .str) then mkL c (sortD (x.map .str)) M else .no
    | none => .no
  | _, _ => .no
theorem fn_sortTC {c : Bool} : Fn1 G E (rSortTC G) (oSortTC c) := fun W H M ds us Q m r p => by
  unfold oSortTC at p
  split at p
  · rename_i l
    obtain ⟨u, e1, r1⟩ := rp_one r
    subst e1
    obtain ⟨a1, vs, rfl, ⟨o, h2, hd⟩, h3⟩ := r1
    split at p
    · rename_i x hx
      split at p
      · rename_i hs
        have e := strsO_eq hx
        subst e
        refine ⟨W, a1, vs, _, rfl, .inl (.inr ⟨o, h2⟩), h3, hs, fun d hd => ?_, fun us' p' r' hp => mkL_new m p r' p' hp⟩
        obtain ⟨y, _, rfl⟩ := List.mem_map.mp hd
        exact ⟨_, rfl, rfl⟩
      · exact p.elim
    · exact p.elim
  · exact p.elim
end
end Fn
set_option Elab.async false
set_option linter.all false
set_option maxRecDepth 100000
set_option maxHeartbeats 4000000
namespace K03
open PySem PySem.Spec PyProof.Rows L2 Fn
def topS (i : Nat) : Stmt := PySem.Challenge.pw_grantchain_k03_rights.main.body.getD i (.Pass ⟨0, 0, 0, 0⟩)
def c_LETTERS : D := .str [97, 98, 99, 100, 101, 102, 103, 104, 105, 106, 107, 108, 109, 110, 111, 112, 113, 114, 115, 116, 117, 118, 119, 120, 121, 122]
def c_LONGEST : D := .int 6
abbrev s_is_name : Stmt := topS 3
theorem sc_is_name : FnScope ["text", "sign"] ["text"] (defScope s_is_name) := ⟨rfl, rfl, rfl, by decide +kernel, rfl, by decide +kernel, by decide +kernel⟩
/-- is_name(text); slots: 0 text, 1 sign -/
noncomputable def C_is_name_0 : FE := (mOp (oInS false) (mVar 1) (mC c_LETTERS))
noncomputable def B_is_name : FS := (mRet (mAnd (mChain oLe oLe (mC (.int 1)) (mCall oLen (aCons (mVar 0) aNil)) (mC c_LONGEST)) (mCall oAll (aCons (mLc false [1] (iStrM (mVar 0)) (gN 1) tsYes C_is_name_0) aNil))))
noncomputable def g_is_name : FD := runB B_is_name 2
abbrev s_law_cell : Stmt := topS 6
theorem sc_law_cell : FnScope ["_law_script", "_law_k", "_law_number"] ["_law_script", "_law_k"] (defScope s_law_cell) := ⟨rfl, rfl, rfl, by decide +kernel, rfl, by decide +kernel, by decide +kernel⟩
/-- _law_cell(_law_script, _law_k); slots: 0 _law_script, 1 _law_k, 2 _law_number -/
noncomputable def B_law_cell : FS := (mSeq (mIfS (bOf (mOp oLt (mVar 1) (mCall oLen (aCons (mVar 0) aNil)))) (mRet (mOp oIx (mVar 0) (mVar 1))) mPass) (mSeq (mSet 2 (mOp (oAdd false) (mOp (oMul false) (mVar 1) (mC (.int 7919))) (mC (.int 5)))) (mSeq (mIfS (bOf (mOp oGt (mCall oLen (aCons (mVar 0) aNil)) (mC (.int 0)))) (mSet 2 (mOp (oAdd false) (mOp (oMul false) (mOp oMod (mOp oIx (mVar 0) (mOp oMod (mOp (oMul false) (mVar 1) (mC (.int 7))) (mCall oLen (aCons (mVar 0) aNil)))) (mC (.int 2147483629))) (mC (.int 48271))) (mOp (oMul false) (mVar 1) (mC (.int 7919))))) mPass) (mRet (mOp (oMul false) (mOp oMod (mVar 2) (mC (.int 2147483647))) (mC (.int 31)))))))
noncomputable def g_law_cell : FD := runB B_law_cell 3
abbrev s_law_draw : Stmt := topS 8
theorem sc_law_draw : FnScope ["_law_flow_here", "_law_many", "_law_digit", "_law_number"] ["_law_flow_here", "_law_many"] (defScope s_law_draw) := ⟨rfl, rfl, rfl, by decide +kernel, rfl, by decide +kernel, by decide +kernel⟩
/-- _law_draw(_law_flow_here, _law_many); slots: 0 _law_flow_here, 1 _law_many, 2 _law_digit, 3 _law_number -/
noncomputable def B_law_draw : FS := (mSeq (mIfS (bOf (mOp oGt (mOp oIx (mVar 0) (mC (.int 0))) (mC (.int 0)))) (mSeq (mSet 2 (mOp oMod (mOp oIx (mVar 0) (mC (.int 0))) (mVar 1))) (mSeq (mAsg (mOp oDiv (mOp oIx (mVar 0) (mC (.int 0))) (mVar 1)) (gIx (mVar 0) (mC (.int 0)))) (mRet (mVar 2)))) mPass) (mSeq (mAsg (mOp (oAdd false) (mOp oIx (mVar 0) (mC (.int 1))) (mC (.int 1))) (gIx (mVar 0) (mC (.int 1)))) (mSeq (mSet 3 (mOp oMod (mOp (oAdd false) (mOp (oAdd false) (mOp (oMul false) (mOp oIx (mVar 0) (mC (.int 2))) (mOp (oAdd false) (mC (.int 48271)) (mOp (oMul false) (mC (.int 2)) (mOp oIx (mVar 0) (mC (.int 1)))))) (mOp (oMul false) (mC (.int 7919)) (mOp oIx (mVar 0) (mC (.int 1))))) (mC (.int 1))) (mC (.int 2147483629)))) (mSeq (mSet 3 (mOp oMod (mOp (oMul false) (mVar 3) (mVar 3)) (mC (.int 2147483587)))) (mRet (mOp oMod (mOp oDiv (mOp oMod (mOp (oMul false) (mOp (oAdd false) (mVar 3) (mC (.int 5))) (mOp (oAdd false) (mVar 3) (mC (.int 40692)))) (mC (.int 2147483579))) (mC (.int 31))) (mVar 1)))))))
noncomputable def g_law_draw : FD := runB B_law_draw 4
abbrev s_law_is_name : Stmt := topS 10
theorem sc_law_is_name : FnScope ["_law_thing", "_law_sign"] ["_law_thing"] (defScope s_law_is_name) := ⟨rfl, rfl, rfl, by decide +kernel, rfl, by decide +kernel, by decide +kernel⟩
/-- _law_is_name(_law_thing); slots: 0 _law_thing, 1 _law_sign -/
noncomputable def T_law_is_name_0 : FT := (bOf (mOp (oInS true) (mVar 1) (mC (.str [97, 98, 99, 100, 101, 102, 103, 104, 105, 106, 107, 108, 109, 110, 111, 112, 113, 114, 115, 116, 117, 118, 119, 120, 121, 122]))))
noncomputable def C_law_is_name_1 : FE := (mVar 1)
noncomputable def B_law_is_name : FS := (mSeq (mIfS (tOrM (tNotM (bOf (mUn (oIsi "str") (mVar 0)))) (tNotM (bOf (mChain oLt oLt (mC (.int 0)) (mCall oLen (aCons (mVar 0) aNil)) (mC (.int 7)))))) (mRet (mC (.bl false))) mPass) (mRet (mOp (oEq false) (mLc false [1] (iStrM (mVar 0)) (gN 1) T_law_is_name_0 C_law_is_name_1) (mLst false aNil))))
noncomputable def g_law_is_name : FD := runB B_law_is_name 2
abbrev s_is_rights : Stmt := topS 4
theorem sc_is_rights : FnScope ["thing", "right", "first", "rest"] ["thing"] (defScope s_is_rights) := ⟨rfl, rfl, rfl, by decide +kernel, rfl, by decide +kernel, by decide +kernel⟩
/-- is_rights(thing); slots: 0 thing, 1 right, 2 first, 3 rest -/
noncomputable def C_is_rights_0 : FE := (mAnd (mUn (oIsi "str") (mVar 1)) (mFun 1 g_is_name [] (aCons (mVar 1) aNil)))
noncomputable def L_is_rights_1 : FS := (mSeq (mIfS (bOf (mOp oLe (mVar 1) (mVar 2))) (mRet (mC (.bl false))) mPass) (mSet 2 (mVar 1)))
noncomputable def B_is_rights : FS := (mSeq (mIfS (tOrM (tNotM (bOf (mUn (oIsi "tuple") (mVar 0)))) (bOf (mOp (oEq false) (mCall oLen (aCons (mVar 0) aNil)) (mC (.int 0))))) (mRet (mC (.bl false))) mPass) (mSeq (mIfS (tNotM (bOf (mCall oAll (aCons (mLc false [1] (iSq (mVar 0)) (gN 1) tsYes C_is_rights_0) aNil)))) (mRet (mC (.bl false))) mPass) (mSeq (mAsg (mVar 0) (gS 2 1 (gsCons (gN 2) (gsCons (gN 3) gsNil)))) (mSeq (mFor (iSq (mVar 3)) (gN 1) L_is_rights_1) (mRet (mC (.bl true)))))))
noncomputable def g_is_rights : FD := runB B_is_rights 4
abbrev s_law_flow : Stmt := topS 7
theorem sc_law_flow : FnScope ["_law_script", "_law_k", "_law_cell_here", "_law_own"] ["_law_script", "_law_k"] (defScope s_law_flow) := ⟨rfl, rfl, rfl, by decide +kernel, rfl, by decide +kernel, by decide +kernel⟩
/-- _law_flow(_law_script, _law_k); slots: 0 _law_script, 1 _law_k, 2 _law_cell_here, 3 _law_own -/
noncomputable def B_law_flow : FS := (mSeq (mSet 2 (mFun 2 g_law_cell [] (aCons (mVar 0) (aCons (mVar 1) aNil)))) (mSeq (mSet 3 (mC (.int 0))) (mSeq (mIfS (bOf (mOp oGe (mVar 2) (mOp oPow (mC (.int 10)) (mC (.int 18))))) (mSet 3 (mVar 2)) mPass) (mRet (mLst true (aCons (mVar 3) (aCons (mC (.int 0)) (aCons (mOp (oAdd false) (mOp oMod (mVar 2) (mC (.int 2147483629))) (mOp (oMul false) (mC (.int 40692)) (mVar 1))) aNil))))))))
noncomputable def g_law_flow : FD := runB B_law_flow 4
abbrev s_law_names : Stmt := topS 9
theorem sc_law_names : FnScope ["_law_flow_here", "_law_many", "_law_some", "_law_word", "_law_j", "_law_at", "_law_first", "_law_longer", "_law_found", "_law_k", "_law_name"] ["_law_flow_here", "_law_many"] (defScope s_law_names) := ⟨rfl, rfl, rfl, by decide +kernel, rfl, by decide +kernel, by decide +kernel⟩
/-- _law_names(_law_flow_here, _law_many); slots: 0 _law_flow_here, 1 _law_many, 2 _law_some, 3 _law_word, 4 _law_j, 5 _law_at, 6 _law_first, 7 _law_longer, 8 _law_found, 9 _law_k, 10 _law_name -/
noncomputable def C_law_names_0 : FE := (mOp oIx (mVar 2) (mFun 2 g_law_draw [] (aCons (mVar 0) (aCons (mC (.int 26)) aNil))))
noncomputable def L_law_names_1 : FS := (mSeq (mSet 10 (mOp (oAdd false) (mOp (oAdd false) (mSl false (mVar 3) pNone (pSome (mVar 5))) (mOp oIx (mVar 2) (mOp oMod (mOp (oAdd false) (mVar 6) (mOp (oMul false) (mC (.int 7)) (mVar 9))) (mC (.int 26))))) (mSl false (mVar 3) (pSome (mVar 5)) pNone))) (mSeq (mIfS (tAndM (bOf (mOp oGt (mOp (oMul false) (mVar 7) (mOp oMod (mVar 9) (mC (.int 2)))) (mC (.int 0)))) (tAndM (bOf (mOp oLt (mCall oLen (aCons (mVar 10) aNil)) (mC (.int 6)))) (bOf (mOp oGt (mCall oLen (aCons (mVar 8) aNil)) (mC (.int 0)))))) (mSet 10 (mOp (oAdd false) (mSl false (mOp oIx (mVar 8) (mUn oNeg (mC (.int 1)))) pNone (pSome (mCall oLen (aCons (mVar 10) aNil)))) (mOp oIx (mVar 2) (mOp oMod (mOp (oAdd false) (mVar 6) (mOp (oMul false) (mC (.int 7)) (mVar 9))) (mC (.int 26)))))) mPass) (mIfS (tAndM (bOf (mOp (oInF true) (mVar 10) (mVar 8))) (bOf (mOp oLt (mCall oLen (aCons (mVar 8) aNil)) (mVar 1)))) (mExpr (mMeth "list" oAppend (mVar 8) (aCons (mVar 10) aNil))) mPass)))
noncomputable def B_law_names : FS := (mSeq (mSet 2 (mC (.str [97, 98, 99, 100, 101, 102, 103, 104, 105, 106, 107, 108, 109, 110, 111, 112, 113, 114, 115, 116, 117, 118, 119, 120, 121, 122]))) (mSeq (mSet 3 (mMeth "str" oJoin (mC (.str [])) (aCons (mLc false [4] (iR1 (aCons (mFun 2 g_law_draw [] (aCons (mVar 0) (aCons (mC (.int 6)) aNil))) aNil)) (gN 4) tsYes C_law_names_0) aNil))) (mSeq (mPar3 5 6 7 (aCons (mFun 2 g_law_draw [] (aCons (mVar 0) (aCons (mOp (oAdd false) (mCall oLen (aCons (mVar 3) aNil)) (mC (.int 1))) aNil))) (aCons (mFun 2 g_law_draw [] (aCons (mVar 0) (aCons (mC (.int 26)) aNil))) (aCons (mFun 2 g_law_draw [] (aCons (mVar 0) (aCons (mC (.int 2)) aNil))) aNil)))) (mSeq (mSet 8 (mLst true aNil)) (mSeq (mFor (iR1 (aCons (mC (.int 26)) aNil)) (gN 9) L_law_names_1) (mRet (mVar 8)))))))
noncomputable def g_law_names : FD := gcB B_law_names 11
abbrev s_law_due : Stmt := topS 11
theorem sc_law_due : FnScope ["_law_thing", "_law_one"] ["_law_thing"] (defScope s_law_due) := ⟨rfl, rfl, rfl, by decide +kernel, rfl, by decide +kernel, by decide +kernel⟩
/-- _law_due(_law_thing); slots: 0 _law_thing, 1 _law_one -/
noncomputable def C_law_due_0 : FE := (mFun 1 g_law_is_name [] (aCons (mVar 1) aNil))
noncomputable def T_law_due_1 : FT := (bOf (mOp (oEq false) (mCntC (mVar 0) (aCons (mVar 1) aNil)) (mC (.int 1))))
noncomputable def C_law_due_2 : FE := (mVar 1)
noncomputable def B_law_due : FS := (mSeq (mIfS (tOrM (tNotM (bOf (mUn (oIsi "tuple") (mVar 0)))) (tOrM (bOf (mOp (oEq false) (mCall oLen (aCons (mVar 0) aNil)) (mC (.int 0)))) (tNotM (bOf (mCall oAll (aCons (mLc false [1] (iSq (mVar 0)) (gN 1) tsYes C_law_due_0) aNil)))))) (mRet (mC (.bl false))) mPass) (mRet (mAnd (mOp (oEq false) (mCall (oList false) (aCons (mVar 0) aNil)) (mCall (oSortTC false) (aCons (mVar 0) aNil))) (mOp (oEq false) (mCall oLen (aCons (mVar 0) aNil)) (mCall oLen (aCons (mLc false [1] (iSq (mVar 0)) (gN 1) T_law_due_1 C_law_due_2) aNil))))))
noncomputable def g_law_due : FD := runB B_law_due 2
abbrev s_law_other : Stmt := topS 12
theorem sc_law_other : FnScope ["_law_flow_here", "_law_some", "_law_at", "_law_form", "_law_odd"] ["_law_flow_here", "_law_some"] (defScope s_law_other) := ⟨rfl, rfl, rfl, by decide +kernel, rfl, by decide +kernel, by decide +kernel⟩
/-- _law_other(_law_flow_here, _law_some); slots: 0 _law_flow_here, 1 _law_some, 2 _law_at, 3 _law_form, 4 _law_odd -/
noncomputable def B_law_other : FS := (mSeq (mIfS (tNotM (bOf (mUn (oIsi "tuple") (mVar 1)))) (mRet (mVar 1)) mPass) (mSeq (mPar 2 3 (aCons (mFun 2 g_law_draw [] (aCons (mVar 0) (aCons (mOp (oAdd false) (mCall oLen (aCons (mVar 1) aNil)) (mC (.int 1))) aNil))) (aCons (mFun 2 g_law_draw [] (aCons (mVar 0) (aCons (mC (.int 8)) aNil))) aNil))) (mSeq (mSet 4 (mLst false (aCons (mC (.str [])) (aCons (mC (.str [71, 105, 118, 101])) (aCons (mC (.str [103, 105, 118, 101, 32])) (aCons (mC (.str [108, 111, 110, 103, 101, 115, 116])) (aCons (mC (.int 3)) (aCons (mC (.int 0)) (aCons (mC (.bl true)) (aCons (mC .non) (aCons (mTup (aCons (mC (.str [103, 105, 118, 101])) aNil)) (aCons (mC (.str [122, 122, 122, 122, 122, 122])) (aCons (mC (.str [97, 10])) (aCons (mC (.str [97, 95, 98])) (aCons (mTupC aNil) (aCons (mC (.str [122, 122])) aNil)))))))))))))))) (mSeq (mIfS (bOf (mOp oLt (mVar 3) (mC (.int 3)))) (mRet (mOp oCatC (mOp oCatC (mSlC (mVar 1) pNone (pSome (mVar 2))) (mTupC (aCons (mOp oIx (mVar 4) (mFun 2 g_law_draw [] (aCons (mVar 0) (aCons (mC (.int 14)) aNil)))) aNil))) (mSlC (mVar 1) (pSome (mOp (oAdd false) (mVar 2) (mOp oMod (mVar 3) (mC (.int 2))))) pNone))) mPass) (mSeq (mIfS (bOf (mOp (oEq false) (mVar 3) (mC (.int 3)))) (mRet (mOp oCatC (mOp oCatC (mSlC (mVar 1) pNone (pSome (mVar 2))) (mUn oRevC (mSlC (mVar 1) (pSome (mVar 2)) (pSome (mOp (oAdd false) (mVar 2) (mC (.int 2))))))) (mSlC (mVar 1) (pSome (mOp (oAdd false) (mVar 2) (mC (.int 2)))) pNone))) mPass) (mSeq (mIfS (bOf (mOp (oEq false) (mVar 3) (mC (.int 4)))) (mRet (mOp oCatC (mOp oCatC (mSlC (mVar 1) pNone (pSome (mVar 2))) (mOp oMulC (mSlC (mVar 1) (pSome (mVar 2)) (pSome (mOp (oAdd false) (mVar 2) (mC (.int 1))))) (mC (.int 2)))) (mSlC (mVar 1) (pSome (mOp (oAdd false) (mVar 2) (mC (.int 1)))) pNone))) mPass) (mSeq (mIfS (bOf (mOp (oEq false) (mVar 3) (mC (.int 5)))) (mRet (mOp oCatC (mSlC (mVar 1) pNone (pSome (mVar 2))) (mSlC (mVar 1) (pSome (mOp (oAdd false) (mVar 2) (mC (.int 1)))) pNone))) mPass) (mRet (mOp oIx (mLst false (aCons (mUn oRevC (mVar 1)) (aCons (mTupC (aCons (mVar 1) (aCons (mVar 1) aNil))) (aCons (mTupC (aCons (mVar 1) aNil)) (aCons (mC (.str [103, 105, 118, 101])) (aCons (mC (.int 5)) (aCons (mC .non) (aCons (mC (.bl true)) (aCons (mTupC aNil) aNil))))))))) (mFun 2 g_law_draw [] (aCons (mVar 0) (aCons (mC (.int 8)) aNil))))))))))))
noncomputable def g_law_other : FD := runB B_law_other 5
abbrev s_law_right : Stmt := topS 13
theorem sc_law_right : FnScope ["_law_thing", "_law_found"] ["_law_thing"] (defScope s_law_right) := ⟨rfl, rfl, rfl, by decide +kernel, rfl, by decide +kernel, by decide +kernel⟩
/-- _law_right(_law_thing); slots: 0 _law_thing, 1 _law_found -/
noncomputable def B_law_right : FS := (mSeq (mSet 1 (mFun 1 g_is_rights [] (aCons (mVar 0) aNil))) (mRet (mAnd (mUn (oIsi "bool") (mVar 1)) (mAnd (mOp (oEq false) (mVar 1) (mFun 1 g_law_due [] (aCons (mVar 0) aNil))) (mOp (oEq false) (mFun 1 g_is_rights [] (aCons (mVar 0) aNil)) (mVar 1))))))
noncomputable def g_law_right : FD := runB B_law_right 2
abbrev s_law : Stmt := topS 14
theorem sc_law : FnScope ["_law_script", "_law_posed", "_law_k", "_law_flow_here", "_law_some", "_law_other_here", "_law_turn", "_law_thing"] ["_law_script"] (defScope s_law) := ⟨rfl, rfl, rfl, by decide +kernel, rfl, by decide +kernel, by decide +kernel⟩
/-- law(_law_script); slots: 0 _law_script, 1 _law_posed, 2 _law_k, 3 _law_flow_here, 4 _law_some, 5 _law_other_here, 6 _law_turn, 7 _law_thing -/
noncomputable def L_law_0 : FS := (mSeq (mSet 5 (mFun 2 g_law_other [] (aCons (mVar 3) (aCons (mVar 5) aNil)))) (mExpr (mMeth "list" oAppend (mVar 1) (aCons (mVar 5) aNil))))
noncomputable def L_law_1 : FS := (mSeq (mSet 3 (mFun 2 g_law_flow [] (aCons (mVar 0) (aCons (mVar 2) aNil)))) (mSeq (mSet 4 (mCall oTupleC (aCons (mCall (oSorted false) (aCons (mFun 2 g_law_names [] (aCons (mVar 3) (aCons (mOp (oAdd false) (mC (.int 1)) (mFun 2 g_law_draw [] (aCons (mVar 3) (aCons (mC (.int 8)) aNil)))) aNil))) aNil)) aNil))) (mSeq (mSet 5 (mVar 4)) (mSeq (mFor (iR1 (aCons (mOp (oAdd false) (mC (.int 1)) (mFun 2 g_law_draw [] (aCons (mVar 3) (aCons (mC (.int 3)) aNil)))) aNil)) (gN 6) L_law_0) (mExpr (mMeth "list" oAppend (mVar 1) (aCons (mVar 4) aNil)))))))
noncomputable def C_law_2 : FE := (mFun 1 g_law_right [] (aCons (mVar 7) aNil))
noncomputable def B_law : FS := (mSeq (mSet 1 (mLst true aNil)) (mSeq (mFor (iR1 (aCons (mCall oMax (aCons (mC (.int 2)) (aCons (mCall oLen (aCons (mSl false (mVar 0) pNone (pSome (mC (.int 10)))) aNil)) aNil))) aNil)) (gN 2) L_law_1) (mRet (mCall oAll (aCons (mLc false [7] (iSq (mOp (oAdd false) (mVar 1) (mSl false (mVar 1) pNone (pSome (mC (.int 2)))))) (gN 7) tsYes C_law_2) aNil)))))
noncomputable def g_law : FD := runB B_law 8
end K03
set_option Elab.async false
set_option linter.all false
set_option maxRecDepth 100000
set_option maxHeartbeats 4000000
namespace K03
open PySem PySem.Spec PyProof.Rows L2 Fn
local macro_rules | `(tactic| push_cast [$ls:simpLemma,*]) => `(tactic| simp -implicitDefEqProofs only [mSeq_eq, mIfS_eq, mSet_eq, mRet_eq, mRetN_eq, mExpr_eq, mPass_eq, mAsg_eq, mPar_eq, mAug_eq, bOf_eq, tOf_eq, tAndM_eq, tOrM_eq, tNotM_eq, tsYes_eq, mOp_eq, mUn_eq, mVar_eq, mC_eq, mCall_eq, mFun_eq, mFunKw_eq, mMeth_eq, mAnd_eq, mOr_eq, mNot_eq, mIf_eq, mChain_eq, mSl_eq, pNone_eq, pSome_eq, aCons_eq, aNil_eq, mTup_eq, mLst_eq, gN_eq, gT_eq, gsNil_eq, gsCons_eq, mkL_t, mkL_f, R.bind_ok, R.bind_no, R.nox_ok, List.getElem?_cons_zero, List.getElem?_cons_succ, List.set_cons_zero, List.set_cons_succ, List.length_cons, List.length_nil, List.append_nil, List.nil_append, List.cons_append, piApp_on, oLen_fz, oLen_lst, oLen_tup, oLt_int, oLe_int, oGt_int, oGe_int, oAdd_int, oSub_int, oIx_fz, oIx_lst, oIx_tup, oMax_int, oMin_int, oInt_bl, oInt_int, oIsi_bl, oNeg_int, oTuple_lst, oTuple_tup, iR1_eq, iR2_eq, iSq_eq, iStrM_eq, srcOf_tup, srcOf_lst, srcOf_fz, if_true, if_false, Bool.false_eq_true, Bool.true_eq_false, reduceIte, Nat.reduceAdd, Nat.reduceLeDiff, Nat.reduceEqDiff, Bool.not_true, Bool.not_false, decide_true, decide_false, and_self, and_true, true_and, $ls,*])
theorem cell_eq (ns : List Int) (k : Nat) (M : Mem) : g_law_cell [.fz (intsD ns), .int k] M = .ok (.int (cellV ns k)) M := runB_rt (cell_run ns k M)
theorem flow_eq (ns : List Int) (k : Nat) (M : Mem) (hk : k < 1000) : ∃ s : Fl, s.ok ∧ g_law_flow [.fz (intsD ns), .int k] M = .ok (.ref M.length) (M ++ [s.c]) := by
  obtain ⟨s, h1, h2⟩ := flow_run g_law_cell ns k M hk (cell_eq ns k M)
  exact ⟨s, h1, runB_rt h2⟩
theorem draw_eq {M0 M : Mem} {i : Nat} (h : FlAt M0 i M) (many : Int) (h0 : 0 < many) (h1 : many < 1000000000000000000000000) : ∃ (v : Nat) (M' : Mem), (v : Int) < many ∧ FlAt M0 i M' ∧ g_law_draw [.ref i, .int many] M = .ok (.int v) M' := by
  obtain ⟨s, hs, hM, hk⟩ := h.get
  obtain ⟨v, s', k0, k1, k2, k3⟩ := draw_run s hs i M many h0 h1 hM
  obtain ⟨n, rfl⟩ : ∃ n : Nat, v = (n : Int) := ⟨v.toNat, by omega⟩
  exact ⟨n, _, k1, hk s' k2, runB_rt k3⟩
abbrev abc : List Nat := [97, 98, 99, 100, 101, 102, 103, 104, 105, 106, 107, 108, 109, 110, 111, 112, 113, 114, 115, 116, 117, 118, 119, 120, 121, 122]
/-- a name: one to six small letters -/
def isNm (w : List Nat) : Bool := decide (1 ≤ w.length) && decide (w.length ≤ 6) && w.all fun c => decide (c ∈ abc)
theorem isNm_iff {w : List Nat} : isNm w = true ↔ 1 ≤ w.length ∧ w.length ≤ 6 ∧ ∀ c ∈ w, c ∈ abc := by
  unfold isNm
  simp only [Bool.and_eq_true, decide_eq_true_eq, List.all_eq_true]
  exact ⟨fun h => ⟨h.1.1, h.1.2, h.2⟩, fun h => ⟨⟨h.1, h.2.1⟩, h.2.2⟩⟩
/-- letters -/
theorem abc_at (v : Int) (h : 0 ≤ v) (h2 : v < 26) : ∃ c, atI abc v = some c ∧ c ∈ abc := atI_some h (by simpa using h2)
theorem word_comp {M0 M : Mem} {i : Nat} (h : FlAt M0 i M) (n : Nat) (hn : n < 1000) (env : Fn.Env) (he : ∀ (x : D), (env.set 4 (some x))[2]? = some (some (.str abc)) ∧ (env.set 4 (some x))[0]? = some (some (.ref i)))
    (f : FE) (hf : f = mOp oIx (mVar 2) (mFun 2 g_law_draw [] (aCons (mVar 0) (aCons (mC (.int 26)) aNil)))) :
    ∃ (w : List Nat) (M' : Mem), w.length = n ∧ (∀ c ∈ w, c ∈ abc) ∧ FlAt M0 i M' ∧ compL (fun _ => True) (gN 4) tsYes f env (rngItems 0 n) M = .ok (w.map fun c => .str [c]) M' := by
  subst hf
  obtain ⟨ys, M2, e2, l2, y2, h2⟩ := compL_inv (g := gN 4) (f := mOp oIx (mVar 2) (mFun 2 g_law_draw [] (aCons (mVar 0) (aCons (mC (.int 26)) aNil)))) (env := env) (fun _ M => FlAt M0 i M) (fun _ _ y => ∃ c : Nat, y = .str [c] ∧ c ∈ abc) (rngItems 0 n) 0 M h fun k d M2 hk h2 => by
    obtain ⟨u, M3, u1, h3, e3⟩ := draw_eq h2 26 (by omega) (by omega)
    obtain ⟨c, hc, hm⟩ := abc_at u (by omega) (by omega)
    obtain ⟨q1, q2⟩ := he d
    refine ⟨.str [c], M3, ?_, ⟨c, rfl, hm⟩, h3⟩
    push_cast [q1, q2, e3, oIx_str (show abc.length ≤ 16777216 by decide) hc]
  have hl : ys.length = n := by rw [l2, rngItems_len]
  have hy : ∀ d ∈ ys, ∃ c : Nat, d = .str [c] ∧ c ∈ abc := fun d hd => allY l2 y2 hd
  obtain ⟨w, hw, lw, rfl⟩ := strsOf_of (l := ys) fun d hd => by obtain ⟨c, h, _⟩ := hy d hd; exact ⟨c, h⟩
  refine ⟨w, M2, by omega, fun c hc => ?_, h2, e2⟩
  obtain ⟨c', e, hm⟩ := hy (.str [c]) (List.mem_map.mpr ⟨c, hc, rfl⟩)
  cases e
  exact hm
theorem join_eq {w : List Nat} {M : Mem} (h : w.length < 10000) : oJoin (.str []) [.lst (w.map fun c => .str [c])] M = .ok (.str w) M := by
  have : strsOf (w.map fun c => D.str [c]) = some (w.map fun c => [c]) := by
    induction w with
    | nil => rfl
    | cons c r ih => simp only [List.map_cons, strsOf, ih (by simp at h; omega)]; rfl
  have hsum : ((w.map fun c => [c]).map (·.length)).sum + (w.map fun c => [c]).length * ([] : List Nat).length ≤ 16777216 := by rw [sum_ones]; simp; omega
  simp only [oJoin, seqOf, lstOf, Option.bind_some, this, hsum, if_true, join_signs]
structure NmOk (F : List (List Nat)) (count : Nat) (k : Nat) : Prop where
  nm : ∀ w ∈ F, isNm w = true
  nd : F.Nodup
  le : F.length ≤ count
  few : F.length ≤ k
  one : 0 < k → 0 < F.length
noncomputable def nmS2 : FS := (mIfS (tAndM (bOf (mOp oGt (mOp (oMul false) (mVar 7) (mOp oMod (mVar 9) (mC (.int 2)))) (mC (.int 0)))) (tAndM (bOf (mOp oLt (mCall oLen (aCons (mVar 10) aNil)) (mC (.int 6)))) (bOf (mOp oGt (mCall oLen (aCons (mVar 8) aNil)) (mC (.int 0)))))) (mSet 10 (mOp (oAdd false) (mSl false (mOp oIx (mVar 8) (mUn oNeg (mC (.int 1)))) pNone (pSome (mCall oLen (aCons (mVar 10) aNil)))) (mOp oIx (mVar 2) (mOp oMod (mOp (oAdd false) (mVar 6) (mOp (oMul false) (mC (.int 7)) (mVar 9))) (mC (.int 26)))))) mPass)
noncomputable def nmS3 : FS := (mIfS (tAndM (bOf (mOp (oInF true) (mVar 10) (mVar 8))) (bOf (mOp oLt (mCall oLen (aCons (mVar 8) aNil)) (mVar 1)))) (mExpr (mMeth "list" oAppend (mVar 8) (aCons (mVar 10) aNil))) mPass)
theorem names_turn {A : Mem} {N : Nat} (hA : A.length = N) (F : List (List Nat)) (count k : Nat) (hF : NmOk F count k) (hk : k < 26) (hc : 0 < count) (w : List Nat) (hw : w.length ≤ 5) (hwl : ∀ c ∈ w, c ∈ abc) (v2 v3 v4 : Nat) (h2 : v2 ≤ w.length) (x0 x4 x10 : Option D) :
    ∃ (F' : List (List Nat)) (y10 : Option D), NmOk F' count (k + 1) ∧
    L_law_names_1 [x0, some (.int count), some (.str abc), some (.str w), x4, some (.int v2), some (.int v3), some (.int v4), some (.ref N), some (.int (0 + (k : Int))), x10] (A ++ [.lst (F.map .str)]) = .ok (.nx [x0, some (.int count), some (.str abc), some (.str w), x4, some (.int v2), some (.int v3), some (.int v4), some (.ref N), some (.int (0 + (k : Int))), y10]) (A ++ [.lst (F'.map .str)]) := by
  have hFl := hF.few
  obtain ⟨c, hc1, hcm⟩ := abc_at ((v3 + 7 * (0 + (k : Int))) % 26) (Int.emod_nonneg _ (by omega)) (Int.emod_lt_of_pos _ (by omega))
  have t1 : cutD w none (some (v2 : Int)) = w.take v2 := cutD_take w v2
  have t2 : cutD w (some (v2 : Int)) none = w.drop v2 := cutD_drop w v2
  have ix : oIx (.str abc) (.int ((v3 + 7 * (0 + (k : Int))) % 26)) = fun M => R.ok (.str [c]) M := by
    funext M
    exact oIx_str (by decide) hc1
  have g8 : ∀ B, (A ++ [Cell.lst B])[N]? = some (.lst B) := fun B => app_get0 hA
  have s8 : ∀ B C, (A ++ [Cell.lst B]).set N (.lst C) = A ++ [.lst C] := fun B C => app_set0 hA
  obtain ⟨n1, hn1⟩ : ∃ n1, w.take v2 ++ [c] ++ w.drop v2 = n1 := ⟨_, rfl⟩
  have ln1 : n1.length = w.length + 1 := by rw [← hn1]; simp; omega
  have mn1 : ∀ x ∈ n1, x ∈ abc := fun x hx => by
    rw [← hn1] at hx
    simp only [List.mem_append, List.mem_singleton] at hx
    rcases hx with (hx | rfl) | hx
    · exact hwl x (List.mem_of_mem_take hx)
    · exact hcm
    · exact hwl x (List.mem_of_mem_drop hx)
  have a1 : ∀ M, oAdd false (.str (w.take v2)) (.str [c]) M = .ok (.str (w.take v2 ++ [c])) M := fun M => oAdd_str (by simp; omega)
  have a2 : ∀ M, oAdd false (.str (w.take v2 ++ [c])) (.str (w.drop v2)) M = .ok (.str n1) M := fun M => by rw [oAdd_str (by simp; omega), hn1]
  have hS : L_law_names_1 = mSeq _ (mSeq nmS2 nmS3) := rfl
  -- the last part
  have last : ∀ n2 : List Nat, isNm n2 = true → ∃ F', NmOk F' count (k + 1) ∧ nmS3 [x0, some (.int count), some (.str abc), some (.str w), x4, some (.int v2), some (.int v3), some (.int v4), some (.ref N), some (.int (0 + (k : Int))), some (.str n2)] (A ++ [.lst (F.map .str)]) = .ok (.nx [x0, some (.int count), some (.str abc), some (.str w), x4, some (.int v2), some (.int v3), some (.int v4), some (.ref N), some (.int (0 + (k : Int))), some (.str n2)]) (A ++ [.lst (F'.map .str)]) := by
    intro n2 h
    have hin : oInF true (.str n2) (.ref N) (A ++ [.lst (F.map .str)]) = .ok (.bl (true != decide (n2 ∈ F))) (A ++ [.lst (F.map .str)]) := oInF_strs (by simp only [seqOf, lstOf, g8])
    by_cases q : n2 ∈ F
    · have : 0 < F.length := List.length_pos_of_mem q
      refine ⟨F, ⟨hF.nm, hF.nd, hF.le, by omega, fun _ => this⟩, ?_⟩
      simp -implicitDefEqProofs (disch := first | assumption | omega | (simp only [List.length_cons, List.length_nil, List.length_append, List.length_map, List.length_take, List.length_drop, rngItems_len]; omega)) only [mSeq_eq, mIfS_eq, mSet_eq, mRet_eq, mRetN_eq, mExpr_eq, mPass_eq, mAsg_eq, mPar_eq, mAug_eq, bOf_eq, tOf_eq, tAndM_eq, tOrM_eq, tNotM_eq, tsYes_eq, mOp_eq, mUn_eq, mVar_eq, mC_eq, mCall_eq, mFun_eq, mFunKw_eq, mMeth_eq, mAnd_eq, mOr_eq, mNot_eq, mIf_eq, mChain_eq, mSl_eq, pNone_eq, pSome_eq, aCons_eq, aNil_eq, mTup_eq, mLst_eq, gN_eq, gT_eq, gsNil_eq, gsCons_eq, mkL_t, mkL_f, R.bind_ok, R.bind_no, R.nox_ok, List.getElem?_cons_zero, List.getElem?_cons_succ, List.set_cons_zero, List.set_cons_succ, List.length_cons, List.length_nil, List.append_nil, List.nil_append, List.cons_append, piApp_on, oLen_fz, oLen_lst, oLen_tup, oLt_int, oLe_int, oGt_int, oGe_int, oAdd_int, oSub_int, oIx_fz, oIx_lst, oIx_tup, oMax_int, oMin_int, oInt_bl, oInt_int, oIsi_bl, oNeg_int, oTuple_lst, oTuple_tup, iR1_eq, iR2_eq, iSq_eq, iStrM_eq, srcOf_tup, srcOf_lst, srcOf_fz, if_true, if_false, Bool.false_eq_true, Bool.true_eq_false, reduceIte, Nat.reduceAdd, Nat.reduceLeDiff, Nat.reduceEqDiff, Bool.not_true, Bool.not_false, decide_true, decide_false, and_self, and_true, true_and, oMod_int, oMul_r, oMul_l, oLen_str, oAdd_str, oSl_str, oSl_tup, oSl_lst, oSl_fz, rngOk_of, oEq_int, oEq_bl, beq_self_eq_true, Int.toNat_natCast, mFor_eq, mLc_eq, app_get0, app_get1, app_set0, app_set1, tyOk, oTuple_ref, oList_ref, oLen_refM, oIx_refM, oAppM, oExtM, srcOf_refM, ifLt24, ifLe24, nmS3, hin, decide_eq_true q, show (true != true) = false from rfl]
    · by_cases q2 : F.length < count
      · refine ⟨F ++ [n2], ⟨fun x hx => ?_, ?_, by simp; omega, by simp; omega, fun _ => by simp⟩, ?_⟩
        · rcases List.mem_append.mp hx with z | z
          · exact hF.nm x z
          · rw [List.mem_singleton.mp z]; exact h
        · rw [List.nodup_append]
          refine ⟨hF.nd, by simp, fun a ha b hb => ?_⟩
          rw [List.mem_singleton.mp hb]
          intro e; subst e; exact q ha
        · have hlt : decide (((F.map D.str).length : Int) < (count : Int)) = true := decide_eq_true (by simp; omega)
          simp -implicitDefEqProofs (disch := first | assumption | omega | (simp only [List.length_cons, List.length_nil, List.length_append, List.length_map, List.length_take, List.length_drop, rngItems_len]; omega)) only [mSeq_eq, mIfS_eq, mSet_eq, mRet_eq, mRetN_eq, mExpr_eq, mPass_eq, mAsg_eq, mPar_eq, mAug_eq, bOf_eq, tOf_eq, tAndM_eq, tOrM_eq, tNotM_eq, tsYes_eq, mOp_eq, mUn_eq, mVar_eq, mC_eq, mCall_eq, mFun_eq, mFunKw_eq, mMeth_eq, mAnd_eq, mOr_eq, mNot_eq, mIf_eq, mChain_eq, mSl_eq, pNone_eq, pSome_eq, aCons_eq, aNil_eq, mTup_eq, mLst_eq, gN_eq, gT_eq, gsNil_eq, gsCons_eq, mkL_t, mkL_f, R.bind_ok, R.bind_no, R.nox_ok, List.getElem?_cons_zero, List.getElem?_cons_succ, List.set_cons_zero, List.set_cons_succ, List.length_cons, List.length_nil, List.append_nil, List.nil_append, List.cons_append, piApp_on, oLen_fz, oLen_lst, oLen_tup, oLt_int, oLe_int, oGt_int, oGe_int, oAdd_int, oSub_int, oIx_fz, oIx_lst, oIx_tup, oMax_int, oMin_int, oInt_bl, oInt_int, oIsi_bl, oNeg_int, oTuple_lst, oTuple_tup, iR1_eq, iR2_eq, iSq_eq, iStrM_eq, srcOf_tup, srcOf_lst, srcOf_fz, if_true, if_false, Bool.false_eq_true, Bool.true_eq_false, reduceIte, Nat.reduceAdd, Nat.reduceLeDiff, Nat.reduceEqDiff, Bool.not_true, Bool.not_false, decide_true, decide_false, and_self, and_true, true_and, oMod_int, oMul_r, oMul_l, oLen_str, oAdd_str, oSl_str, oSl_tup, oSl_lst, oSl_fz, rngOk_of, oEq_int, oEq_bl, beq_self_eq_true, Int.toNat_natCast, mFor_eq, mLc_eq, app_get0, app_get1, app_set0, app_set1, tyOk, oTuple_ref, oList_ref, oLen_refM, oIx_refM, oAppM, oExtM, srcOf_refM, ifLt24, ifLe24, nmS3, hin, decide_eq_false q, show (true != false) = true from rfl, g8, s8, List.length_map, decide_eq_true (show (F.length : Int) < (count : Int) by omega), show F.length < 16777216 by omega]
          rw [List.map_append]
          all_goals rfl
      · have : 0 < F.length := by omega
        refine ⟨F, ⟨hF.nm, hF.nd, hF.le, by omega, fun _ => this⟩, ?_⟩
        simp -implicitDefEqProofs (disch := first | assumption | omega | (simp only [List.length_cons, List.length_nil, List.length_append, List.length_map, List.length_take, List.length_drop, rngItems_len]; omega)) only [mSeq_eq, mIfS_eq, mSet_eq, mRet_eq, mRetN_eq, mExpr_eq, mPass_eq, mAsg_eq, mPar_eq, mAug_eq, bOf_eq, tOf_eq, tAndM_eq, tOrM_eq, tNotM_eq, tsYes_eq, mOp_eq, mUn_eq, mVar_eq, mC_eq, mCall_eq, mFun_eq, mFunKw_eq, mMeth_eq, mAnd_eq, mOr_eq, mNot_eq, mIf_eq, mChain_eq, mSl_eq, pNone_eq, pSome_eq, aCons_eq, aNil_eq, mTup_eq, mLst_eq, gN_eq, gT_eq, gsNil_eq, gsCons_eq, mkL_t, mkL_f, R.bind_ok, R.bind_no, R.nox_ok, List.getElem?_cons_zero, List.getElem?_cons_succ, List.set_cons_zero, List.set_cons_succ, List.length_cons, List.length_nil, List.append_nil, List.nil_append, List.cons_append, piApp_on, oLen_fz, oLen_lst, oLen_tup, oLt_int, oLe_int, oGt_int, oGe_int, oAdd_int, oSub_int, oIx_fz, oIx_lst, oIx_tup, oMax_int, oMin_int, oInt_bl, oInt_int, oIsi_bl, oNeg_int, oTuple_lst, oTuple_tup, iR1_eq, iR2_eq, iSq_eq, iStrM_eq, srcOf_tup, srcOf_lst, srcOf_fz, if_true, if_false, Bool.false_eq_true, Bool.true_eq_false, reduceIte, Nat.reduceAdd, Nat.reduceLeDiff, Nat.reduceEqDiff, Bool.not_true, Bool.not_false, decide_true, decide_false, and_self, and_true, true_and, oMod_int, oMul_r, oMul_l, oLen_str, oAdd_str, oSl_str, oSl_tup, oSl_lst, oSl_fz, rngOk_of, oEq_int, oEq_bl, beq_self_eq_true, Int.toNat_natCast, mFor_eq, mLc_eq, app_get0, app_get1, app_set0, app_set1, tyOk, oTuple_ref, oList_ref, oLen_refM, oIx_refM, oAppM, oExtM, srcOf_refM, ifLt24, ifLe24, nmS3, hin, decide_eq_false q, show (true != false) = true from rfl, g8, List.length_map, decide_eq_false (show ¬ (F.length : Int) < (count : Int) by omega)]
  have nm1 : isNm n1 = true := isNm_iff.mpr ⟨by omega, by omega, mn1⟩
  have mid : ∃ n2, isNm n2 = true ∧ nmS2 [x0, some (.int count), some (.str abc), some (.str w), x4, some (.int v2), some (.int v3), some (.int v4), some (.ref N), some (.int (0 + (k : Int))), some (.str n1)] (A ++ [.lst (F.map .str)]) = .ok (.nx [x0, some (.int count), some (.str abc), some (.str w), x4, some (.int v2), some (.int v3), some (.int v4), some (.ref N), some (.int (0 + (k : Int))), some (.str n2)]) (A ++ [.lst (F.map .str)]) := by
    by_cases c1 : (0 : Int) < (v4 : Int) * ((0 + (k : Int)) % 2)
    · by_cases c2 : (n1.length : Int) < 6
      · by_cases c3 : (0 : Int) < ((F.length : Nat) : Int)
        · obtain ⟨F0, z, hz⟩ := snoc_of (l := F) (by intro z; subst z; simp at c3)
          have hzm : z ∈ F := by rw [hz]; simp
          obtain ⟨z1, z2, z3⟩ := isNm_iff.mp (hF.nm z hzm)
          have hlast : atI (F.map D.str) (-1) = some (.str z) := by
            rw [hz, List.map_append]
            exact atLast _ _
          have t3 : cutD z none (some (n1.length : Int)) = z.take n1.length := cutD_take z n1.length
          obtain ⟨n2, hn2⟩ : ∃ n2, z.take n1.length ++ [c] = n2 := ⟨_, rfl⟩
          have a3 : ∀ M, oAdd false (.str (z.take n1.length)) (.str [c]) M = .ok (.str n2) M := fun M => by rw [oAdd_str (by simp; omega), hn2]
          refine ⟨n2, isNm_iff.mpr ⟨by rw [← hn2]; simp, by rw [← hn2]; simp; omega, fun x hx => ?_⟩, ?_⟩
          · rw [← hn2] at hx
            simp only [List.mem_append, List.mem_singleton] at hx
            rcases hx with hx | rfl
            · exact z3 x (List.mem_of_mem_take hx)
            · exact hcm
          · simp -implicitDefEqProofs (disch := first | assumption | omega | (simp only [List.length_cons, List.length_nil, List.length_append, List.length_map, List.length_take, List.length_drop, rngItems_len]; omega)) only [mSeq_eq, mIfS_eq, mSet_eq, mRet_eq, mRetN_eq, mExpr_eq, mPass_eq, mAsg_eq, mPar_eq, mAug_eq, bOf_eq, tOf_eq, tAndM_eq, tOrM_eq, tNotM_eq, tsYes_eq, mOp_eq, mUn_eq, mVar_eq, mC_eq, mCall_eq, mFun_eq, mFunKw_eq, mMeth_eq, mAnd_eq, mOr_eq, mNot_eq, mIf_eq, mChain_eq, mSl_eq, pNone_eq, pSome_eq, aCons_eq, aNil_eq, mTup_eq, mLst_eq, gN_eq, gT_eq, gsNil_eq, gsCons_eq, mkL_t, mkL_f, R.bind_ok, R.bind_no, R.nox_ok, List.getElem?_cons_zero, List.getElem?_cons_succ, List.set_cons_zero, List.set_cons_succ, List.length_cons, List.length_nil, List.append_nil, List.nil_append, List.cons_append, piApp_on, oLen_fz, oLen_lst, oLen_tup, oLt_int, oLe_int, oGt_int, oGe_int, oAdd_int, oSub_int, oIx_fz, oIx_lst, oIx_tup, oMax_int, oMin_int, oInt_bl, oInt_int, oIsi_bl, oNeg_int, oTuple_lst, oTuple_tup, iR1_eq, iR2_eq, iSq_eq, iStrM_eq, srcOf_tup, srcOf_lst, srcOf_fz, if_true, if_false, Bool.false_eq_true, Bool.true_eq_false, reduceIte, Nat.reduceAdd, Nat.reduceLeDiff, Nat.reduceEqDiff, Bool.not_true, Bool.not_false, decide_true, decide_false, and_self, and_true, true_and, oMod_int, oMul_r, oMul_l, oLen_str, oAdd_str, oSl_str, oSl_tup, oSl_lst, oSl_fz, rngOk_of, oEq_int, oEq_bl, beq_self_eq_true, Int.toNat_natCast, mFor_eq, mLc_eq, app_get0, app_get1, app_set0, app_set1, tyOk, oTuple_ref, oList_ref, oLen_refM, oIx_refM, oAppM, oExtM, srcOf_refM, ifLt24, ifLe24, nmS2, decide_eq_true c1, decide_eq_true c2, g8, List.length_map, decide_eq_true c3, hlast, t3, ix, a3]
        · refine ⟨n1, nm1, ?_⟩
          simp -implicitDefEqProofs (disch := first | assumption | omega | (simp only [List.length_cons, List.length_nil, List.length_append, List.length_map, List.length_take, List.length_drop, rngItems_len]; omega)) only [mSeq_eq, mIfS_eq, mSet_eq, mRet_eq, mRetN_eq, mExpr_eq, mPass_eq, mAsg_eq, mPar_eq, mAug_eq, bOf_eq, tOf_eq, tAndM_eq, tOrM_eq, tNotM_eq, tsYes_eq, mOp_eq, mUn_eq, mVar_eq, mC_eq, mCall_eq, mFun_eq, mFunKw_eq, mMeth_eq, mAnd_eq, mOr_eq, mNot_eq, mIf_eq, mChain_eq, mSl_eq, pNone_eq, pSome_eq, aCons_eq, aNil_eq, mTup_eq, mLst_eq, gN_eq, gT_eq, gsNil_eq, gsCons_eq, mkL_t, mkL_f, R.bind_ok, R.bind_no, R.nox_ok, List.getElem?_cons_zero, List.getElem?_cons_succ, List.set_cons_zero, List.set_cons_succ, List.length_cons, List.length_nil, List.append_nil, List.nil_append, List.cons_append, piApp_on, oLen_fz, oLen_lst, oLen_tup, oLt_int, oLe_int, oGt_int, oGe_int, oAdd_int, oSub_int, oIx_fz, oIx_lst, oIx_tup, oMax_int, oMin_int, oInt_bl, oInt_int, oIsi_bl, oNeg_int, oTuple_lst, oTuple_tup, iR1_eq, iR2_eq, iSq_eq, iStrM_eq, srcOf_tup, srcOf_lst, srcOf_fz, if_true, if_false, Bool.false_eq_true, Bool.true_eq_false, reduceIte, Nat.reduceAdd, Nat.reduceLeDiff, Nat.reduceEqDiff, Bool.not_true, Bool.not_false, decide_true, decide_false, and_self, and_true, true_and, oMod_int, oMul_r, oMul_l, oLen_str, oAdd_str, oSl_str, oSl_tup, oSl_lst, oSl_fz, rngOk_of, oEq_int, oEq_bl, beq_self_eq_true, Int.toNat_natCast, mFor_eq, mLc_eq, app_get0, app_get1, app_set0, app_set1, tyOk, oTuple_ref, oList_ref, oLen_refM, oIx_refM, oAppM, oExtM, srcOf_refM, ifLt24, ifLe24, nmS2, decide_eq_true c1, decide_eq_true c2, g8, List.length_map, decide_eq_false c3]
      · refine ⟨n1, nm1, ?_⟩
        simp -implicitDefEqProofs (disch := first | assumption | omega | (simp only [List.length_cons, List.length_nil, List.length_append, List.length_map, List.length_take, List.length_drop, rngItems_len]; omega)) only [mSeq_eq, mIfS_eq, mSet_eq, mRet_eq, mRetN_eq, mExpr_eq, mPass_eq, mAsg_eq, mPar_eq, mAug_eq, bOf_eq, tOf_eq, tAndM_eq, tOrM_eq, tNotM_eq, tsYes_eq, mOp_eq, mUn_eq, mVar_eq, mC_eq, mCall_eq, mFun_eq, mFunKw_eq, mMeth_eq, mAnd_eq, mOr_eq, mNot_eq, mIf_eq, mChain_eq, mSl_eq, pNone_eq, pSome_eq, aCons_eq, aNil_eq, mTup_eq, mLst_eq, gN_eq, gT_eq, gsNil_eq, gsCons_eq, mkL_t, mkL_f, R.bind_ok, R.bind_no, R.nox_ok, List.getElem?_cons_zero, List.getElem?_cons_succ, List.set_cons_zero, List.set_cons_succ, List.length_cons, List.length_nil, List.append_nil, List.nil_append, List.cons_append, piApp_on, oLen_fz, oLen_lst, oLen_tup, oLt_int, oLe_int, oGt_int, oGe_int, oAdd_int, oSub_int, oIx_fz, oIx_lst, oIx_tup, oMax_int, oMin_int, oInt_bl, oInt_int, oIsi_bl, oNeg_int, oTuple_lst, oTuple_tup, iR1_eq, iR2_eq, iSq_eq, iStrM_eq, srcOf_tup, srcOf_lst, srcOf_fz, if_true, if_false, Bool.false_eq_true, Bool.true_eq_false, reduceIte, Nat.reduceAdd, Nat.reduceLeDiff, Nat.reduceEqDiff, Bool.not_true, Bool.not_false, decide_true, decide_false, and_self, and_true, true_and, oMod_int, oMul_r, oMul_l, oLen_str, oAdd_str, oSl_str, oSl_tup, oSl_lst, oSl_fz, rngOk_of, oEq_int, oEq_bl, beq_self_eq_true, Int.toNat_natCast, mFor_eq, mLc_eq, app_get0, app_get1, app_set0, app_set1, tyOk, oTuple_ref, oList_ref, oLen_refM, oIx_refM, oAppM, oExtM, srcOf_refM, ifLt24, ifLe24, nmS2, decide_eq_true c1, decide_eq_false c2]
    · refine ⟨n1, nm1, ?_⟩
      simp -implicitDefEqProofs (disch := first | assumption | omega | (simp only [List.length_cons, List.length_nil, List.length_append, List.length_map, List.length_take, List.length_drop, rngItems_len]; omega)) only [mSeq_eq, mIfS_eq, mSet_eq, mRet_eq, mRetN_eq, mExpr_eq, mPass_eq, mAsg_eq, mPar_eq, mAug_eq, bOf_eq, tOf_eq, tAndM_eq, tOrM_eq, tNotM_eq, tsYes_eq, mOp_eq, mUn_eq, mVar_eq, mC_eq, mCall_eq, mFun_eq, mFunKw_eq, mMeth_eq, mAnd_eq, mOr_eq, mNot_eq, mIf_eq, mChain_eq, mSl_eq, pNone_eq, pSome_eq, aCons_eq, aNil_eq, mTup_eq, mLst_eq, gN_eq, gT_eq, gsNil_eq, gsCons_eq, mkL_t, mkL_f, R.bind_ok, R.bind_no, R.nox_ok, List.getElem?_cons_zero, List.getElem?_cons_succ, List.set_cons_zero, List.set_cons_succ, List.length_cons, List.length_nil, List.append_nil, List.nil_append, List.cons_append, piApp_on, oLen_fz, oLen_lst, oLen_tup, oLt_int, oLe_int, oGt_int, oGe_int, oAdd_int, oSub_int, oIx_fz, oIx_lst, oIx_tup, oMax_int, oMin_int, oInt_bl, oInt_int, oIsi_bl, oNeg_int, oTuple_lst, oTuple_tup, iR1_eq, iR2_eq, iSq_eq, iStrM_eq, srcOf_tup, srcOf_lst, srcOf_fz, if_true, if_false, Bool.false_eq_true, Bool.true_eq_false, reduceIte, Nat.reduceAdd, Nat.reduceLeDiff, Nat.reduceEqDiff, Bool.not_true, Bool.not_false, decide_true, decide_false, and_self, and_true, true_and, oMod_int, oMul_r, oMul_l, oLen_str, oAdd_str, oSl_str, oSl_tup, oSl_lst, oSl_fz, rngOk_of, oEq_int, oEq_bl, beq_self_eq_true, Int.toNat_natCast, mFor_eq, mLc_eq, app_get0, app_get1, app_set0, app_set1, tyOk, oTuple_ref, oList_ref, oLen_refM, oIx_refM, oAppM, oExtM, srcOf_refM, ifLt24, ifLe24, nmS2, decide_eq_false c1]
  obtain ⟨n2, nm2, em⟩ := mid
  obtain ⟨F1, hF1, e1⟩ := last n2 nm2
  refine ⟨F1, some (.str n2), hF1, ?_⟩
  rw [hS]
  simp -implicitDefEqProofs (disch := first | assumption | omega | (simp only [List.length_cons, List.length_nil, List.length_append, List.length_map, List.length_take, List.length_drop, rngItems_len]; omega)) only [mSeq_eq, mIfS_eq, mSet_eq, mRet_eq, mRetN_eq, mExpr_eq, mPass_eq, mAsg_eq, mPar_eq, mAug_eq, bOf_eq, tOf_eq, tAndM_eq, tOrM_eq, tNotM_eq, tsYes_eq, mOp_eq, mUn_eq, mVar_eq, mC_eq, mCall_eq, mFun_eq, mFunKw_eq, mMeth_eq, mAnd_eq, mOr_eq, mNot_eq, mIf_eq, mChain_eq, mSl_eq, pNone_eq, pSome_eq, aCons_eq, aNil_eq, mTup_eq, mLst_eq, gN_eq, gT_eq, gsNil_eq, gsCons_eq, mkL_t, mkL_f, R.bind_ok, R.bind_no, R.nox_ok, List.getElem?_cons_zero, List.getElem?_cons_succ, List.set_cons_zero, List.set_cons_succ, List.length_cons, List.length_nil, List.append_nil, List.nil_append, List.cons_append, piApp_on, oLen_fz, oLen_lst, oLen_tup, oLt_int, oLe_int, oGt_int, oGe_int, oAdd_int, oSub_int, oIx_fz, oIx_lst, oIx_tup, oMax_int, oMin_int, oInt_bl, oInt_int, oIsi_bl, oNeg_int, oTuple_lst, oTuple_tup, iR1_eq, iR2_eq, iSq_eq, iStrM_eq, srcOf_tup, srcOf_lst, srcOf_fz, if_true, if_false, Bool.false_eq_true, Bool.true_eq_false, reduceIte, Nat.reduceAdd, Nat.reduceLeDiff, Nat.reduceEqDiff, Bool.not_true, Bool.not_false, decide_true, decide_false, and_self, and_true, true_and, oMod_int, oMul_r, oMul_l, oLen_str, oAdd_str, oSl_str, oSl_tup, oSl_lst, oSl_fz, rngOk_of, oEq_int, oEq_bl, beq_self_eq_true, Int.toNat_natCast, mFor_eq, mLc_eq, app_get0, app_get1, app_set0, app_set1, tyOk, oTuple_ref, oList_ref, oLen_refM, oIx_refM, oAppM, oExtM, srcOf_refM, ifLt24, ifLe24, t1, t2, ix, a1, a2, em, e1]
theorem names_eq {M0 M : Mem} {i : Nat} (h : FlAt M0 i M) (count : Nat) (hc : 0 < count) : ∃ (F : List (List Nat)) (M' : Mem), (∀ w ∈ F, isNm w = true) ∧ F.Nodup ∧ F.length ≤ count ∧ 0 < F.length ∧ F.length ≤ 26 ∧ FlAt M0 i M' ∧ g_law_names [.ref i, .int count] M = .ok (.lst (F.map .str)) M' := by
  obtain ⟨v, M1, v1, h1, e1⟩ := draw_eq h.self 6 (by omega) (by omega)
  obtain ⟨w, M2, lw, aw, h2, e2⟩ := word_comp h1 v (by omega) (wipeE [some (.ref i), some (.int count), some (.str abc), none, none, none, none, none, none, none, none] [4]) (fun x => ⟨rfl, rfl⟩) C_law_names_0 rfl
  obtain ⟨v2, M3, p2, h3, e3⟩ := draw_eq h2 (w.length + 1) (by omega) (by omega)
  obtain ⟨v3, M4, p3, h4, e4⟩ := draw_eq h3 26 (by omega) (by omega)
  obtain ⟨v4, A, p4, h5, e5⟩ := draw_eq h4 2 (by omega) (by omega)
  have hA : A.length = M.length := h5.len
  obtain ⟨env', m', e6, F, y9, y10, rfl, rfl, hF⟩ := forL_inv (g := gN 9) (body := L_law_names_1) (fun k env M2 => ∃ (F : List (List Nat)) (y9 y10 : Option D), env = [some (.ref i), some (.int count), some (.str abc), some (.str w), none, some (.int v2), some (.int v3), some (.int v4), some (.ref M.length), y9, y10] ∧ M2 = A ++ [.lst (F.map .str)] ∧ NmOk F count k) (rngItems 0 26) 0 [some (.ref i), some (.int count), some (.str abc), some (.str w), none, some (.int v2), some (.int v3), some (.int v4), some (.ref M.length), none, none] (A ++ [.lst []])
    ⟨[], none, none, rfl, rfl, ⟨fun _ h => (by cases h), List.nodup_nil, Nat.zero_le _, Nat.le_refl _, fun h => absurd h (Nat.lt_irrefl _)⟩⟩ (by
      rintro k d env M2 hk ⟨F, y9, y10, rfl, rfl, hF⟩
      obtain ⟨rfl, hk26⟩ := rngItems_get hk
      rw [Nat.zero_add] at hF ⊢
      obtain ⟨F', z10, hF', e⟩ := names_turn hA F count k hF hk26 hc w (by omega) aw v2 v3 v4 (by omega) (some (.ref i)) none y10
      exact ⟨_, _, e, F', _, z10, rfl, rfl, hF'⟩)
  rw [rngItems_len] at hF
  refine ⟨F, A, hF.nm, hF.nd, hF.le, hF.one (by omega), by have := hF.few; omega, h.trans h5, ?_⟩
  have hB : B_law_names [some (.ref i), some (.int count), none, none, none, none, none, none, none, none, none] M = .ok (.rt (.ref M.length)) (A ++ [.lst (F.map .str)]) := by
    have hj : oJoin (.str []) [.lst (w.map fun c => .str [c])] M2 = .ok (.str w) M2 := join_eq (by omega)
    have t26 : (26 : Int).toNat = 26 := rfl
    simp -implicitDefEqProofs (disch := first | assumption | omega | (simp only [List.length_cons, List.length_nil, List.length_append, List.length_map, List.length_take, List.length_drop, rngItems_len]; omega)) only [mSeq_eq, mIfS_eq, mSet_eq, mRet_eq, mRetN_eq, mExpr_eq, mPass_eq, mAsg_eq, mPar_eq, mAug_eq, bOf_eq, tOf_eq, tAndM_eq, tOrM_eq, tNotM_eq, tsYes_eq, mOp_eq, mUn_eq, mVar_eq, mC_eq, mCall_eq, mFun_eq, mFunKw_eq, mMeth_eq, mAnd_eq, mOr_eq, mNot_eq, mIf_eq, mChain_eq, mSl_eq, pNone_eq, pSome_eq, aCons_eq, aNil_eq, mTup_eq, mLst_eq, gN_eq, gT_eq, gsNil_eq, gsCons_eq, mkL_t, mkL_f, R.bind_ok, R.bind_no, R.nox_ok, List.getElem?_cons_zero, List.getElem?_cons_succ, List.set_cons_zero, List.set_cons_succ, List.length_cons, List.length_nil, List.append_nil, List.nil_append, List.cons_append, piApp_on, oLen_fz, oLen_lst, oLen_tup, oLt_int, oLe_int, oGt_int, oGe_int, oAdd_int, oSub_int, oIx_fz, oIx_lst, oIx_tup, oMax_int, oMin_int, oInt_bl, oInt_int, oIsi_bl, oNeg_int, oTuple_lst, oTuple_tup, iR1_eq, iR2_eq, iSq_eq, iStrM_eq, srcOf_tup, srcOf_lst, srcOf_fz, if_true, if_false, Bool.false_eq_true, Bool.true_eq_false, reduceIte, Nat.reduceAdd, Nat.reduceLeDiff, Nat.reduceEqDiff, Bool.not_true, Bool.not_false, decide_true, decide_false, and_self, and_true, true_and, oMod_int, oMul_r, oMul_l, oLen_str, oAdd_str, oSl_str, oSl_tup, oSl_lst, oSl_fz, rngOk_of, oEq_int, oEq_bl, beq_self_eq_true, Int.toNat_natCast, mFor_eq, mLc_eq, app_get0, app_get1, app_set0, app_set1, tyOk, oTuple_ref, oList_ref, oLen_refM, oIx_refM, oAppM, oExtM, srcOf_refM, ifLt24, ifLe24, B_law_names, e1, e2, hj, e3, e4, e5, mPar3_eq, hA, t26, e6]
  exact gc_flow (n := 0) h5 (runB_rt (N := 11) hB) (plL_str F)
theorem is_name_eq (w : List Nat) (hw : w.length < 16777216) (M : Mem) : g_is_name [.str w] M = .ok (.bl (isNm w)) M := by
  refine runB_rt (N := 2) ?_
  show B_is_name [some (.str w), none] M = _
  have hcomp : compL (fun _ => True) (gN 1) tsYes C_is_name_0 (wipeE [some (.str w), none] [1]) (w.map fun c => D.str [c]) M = .ok (w.map fun c => D.bl (decide (c ∈ abc))) M :=
    compL_m (M := M) trivial (fun c => D.str [c]) (fun c => .bl (decide (c ∈ abc))) w fun c _ => ⟨[some (.str w), some (.str [c])], rfl, by push_cast [C_is_name_0, oInS, c_LETTERS]⟩
  by_cases h1 : (1 : Int) ≤ (w.length : Int)
  · by_cases h2 : (w.length : Int) ≤ (6 : Int)
    · simp -implicitDefEqProofs (disch := first | assumption | omega | (simp only [List.length_cons, List.length_nil, List.length_append, List.length_map, List.length_take, List.length_drop, rngItems_len]; omega)) only [mSeq_eq, mIfS_eq, mSet_eq, mRet_eq, mRetN_eq, mExpr_eq, mPass_eq, mAsg_eq, mPar_eq, mAug_eq, bOf_eq, tOf_eq, tAndM_eq, tOrM_eq, tNotM_eq, tsYes_eq, mOp_eq, mUn_eq, mVar_eq, mC_eq, mCall_eq, mFun_eq, mFunKw_eq, mMeth_eq, mAnd_eq, mOr_eq, mNot_eq, mIf_eq, mChain_eq, mSl_eq, pNone_eq, pSome_eq, aCons_eq, aNil_eq, mTup_eq, mLst_eq, gN_eq, gT_eq, gsNil_eq, gsCons_eq, mkL_t, mkL_f, R.bind_ok, R.bind_no, R.nox_ok, List.getElem?_cons_zero, List.getElem?_cons_succ, List.set_cons_zero, List.set_cons_succ, List.length_cons, List.length_nil, List.append_nil, List.nil_append, List.cons_append, piApp_on, oLen_fz, oLen_lst, oLen_tup, oLt_int, oLe_int, oGt_int, oGe_int, oAdd_int, oSub_int, oIx_fz, oIx_lst, oIx_tup, oMax_int, oMin_int, oInt_bl, oInt_int, oIsi_bl, oNeg_int, oTuple_lst, oTuple_tup, iR1_eq, iR2_eq, iSq_eq, iStrM_eq, srcOf_tup, srcOf_lst, srcOf_fz, if_true, if_false, Bool.false_eq_true, Bool.true_eq_false, reduceIte, Nat.reduceAdd, Nat.reduceLeDiff, Nat.reduceEqDiff, Bool.not_true, Bool.not_false, decide_true, decide_false, and_self, and_true, true_and, oMod_int, oMul_r, oMul_l, oLen_str, oAdd_str, oSl_str, oSl_tup, oSl_lst, oSl_fz, rngOk_of, oEq_int, oEq_bl, beq_self_eq_true, Int.toNat_natCast, mFor_eq, mLc_eq, app_get0, app_get1, app_set0, app_set1, tyOk, oTuple_ref, oList_ref, oLen_refM, oIx_refM, oAppM, oExtM, srcOf_refM, ifLt24, ifLe24, B_is_name, decide_eq_true h1, c_LONGEST, decide_eq_true h2, List.length_map, hcomp, oAll_map]
      simp only [isNm, decide_eq_true (show 1 ≤ w.length by omega), decide_eq_true (show w.length ≤ 6 by omega), Bool.true_and]
    · simp -implicitDefEqProofs (disch := first | assumption | omega | (simp only [List.length_cons, List.length_nil, List.length_append, List.length_map, List.length_take, List.length_drop, rngItems_len]; omega)) only [mSeq_eq, mIfS_eq, mSet_eq, mRet_eq, mRetN_eq, mExpr_eq, mPass_eq, mAsg_eq, mPar_eq, mAug_eq, bOf_eq, tOf_eq, tAndM_eq, tOrM_eq, tNotM_eq, tsYes_eq, mOp_eq, mUn_eq, mVar_eq, mC_eq, mCall_eq, mFun_eq, mFunKw_eq, mMeth_eq, mAnd_eq, mOr_eq, mNot_eq, mIf_eq, mChain_eq, mSl_eq, pNone_eq, pSome_eq, aCons_eq, aNil_eq, mTup_eq, mLst_eq, gN_eq, gT_eq, gsNil_eq, gsCons_eq, mkL_t, mkL_f, R.bind_ok, R.bind_no, R.nox_ok, List.getElem?_cons_zero, List.getElem?_cons_succ, List.set_cons_zero, List.set_cons_succ, List.length_cons, List.length_nil, List.append_nil, List.nil_append, List.cons_append, piApp_on, oLen_fz, oLen_lst, oLen_tup, oLt_int, oLe_int, oGt_int, oGe_int, oAdd_int, oSub_int, oIx_fz, oIx_lst, oIx_tup, oMax_int, oMin_int, oInt_bl, oInt_int, oIsi_bl, oNeg_int, oTuple_lst, oTuple_tup, iR1_eq, iR2_eq, iSq_eq, iStrM_eq, srcOf_tup, srcOf_lst, srcOf_fz, if_true, if_false, Bool.false_eq_true, Bool.true_eq_false, reduceIte, Nat.reduceAdd, Nat.reduceLeDiff, Nat.reduceEqDiff, Bool.not_true, Bool.not_false, decide_true, decide_false, and_self, and_true, true_and, oMod_int, oMul_r, oMul_l, oLen_str, oAdd_str, oSl_str, oSl_tup, oSl_lst, oSl_fz, rngOk_of, oEq_int, oEq_bl, beq_self_eq_true, Int.toNat_natCast, mFor_eq, mLc_eq, app_get0, app_get1, app_set0, app_set1, tyOk, oTuple_ref, oList_ref, oLen_refM, oIx_refM, oAppM, oExtM, srcOf_refM, ifLt24, ifLe24, B_is_name, decide_eq_true h1, c_LONGEST, decide_eq_false h2]
      simp only [isNm, decide_eq_false (show ¬ w.length ≤ 6 by omega), Bool.and_false, Bool.false_and]
  · simp -implicitDefEqProofs (disch := first | assumption | omega | (simp only [List.length_cons, List.length_nil, List.length_append, List.length_map, List.length_take, List.length_drop, rngItems_len]; omega)) only [mSeq_eq, mIfS_eq, mSet_eq, mRet_eq, mRetN_eq, mExpr_eq, mPass_eq, mAsg_eq, mPar_eq, mAug_eq, bOf_eq, tOf_eq, tAndM_eq, tOrM_eq, tNotM_eq, tsYes_eq, mOp_eq, mUn_eq, mVar_eq, mC_eq, mCall_eq, mFun_eq, mFunKw_eq, mMeth_eq, mAnd_eq, mOr_eq, mNot_eq, mIf_eq, mChain_eq, mSl_eq, pNone_eq, pSome_eq, aCons_eq, aNil_eq, mTup_eq, mLst_eq, gN_eq, gT_eq, gsNil_eq, gsCons_eq, mkL_t, mkL_f, R.bind_ok, R.bind_no, R.nox_ok, List.getElem?_cons_zero, List.getElem?_cons_succ, List.set_cons_zero, List.set_cons_succ, List.length_cons, List.length_nil, List.append_nil, List.nil_append, List.cons_append, piApp_on, oLen_fz, oLen_lst, oLen_tup, oLt_int, oLe_int, oGt_int, oGe_int, oAdd_int, oSub_int, oIx_fz, oIx_lst, oIx_tup, oMax_int, oMin_int, oInt_bl, oInt_int, oIsi_bl, oNeg_int, oTuple_lst, oTuple_tup, iR1_eq, iR2_eq, iSq_eq, iStrM_eq, srcOf_tup, srcOf_lst, srcOf_fz, if_true, if_false, Bool.false_eq_true, Bool.true_eq_false, reduceIte, Nat.reduceAdd, Nat.reduceLeDiff, Nat.reduceEqDiff, Bool.not_true, Bool.not_false, decide_true, decide_false, and_self, and_true, true_and, oMod_int, oMul_r, oMul_l, oLen_str, oAdd_str, oSl_str, oSl_tup, oSl_lst, oSl_fz, rngOk_of, oEq_int, oEq_bl, beq_self_eq_true, Int.toNat_natCast, mFor_eq, mLc_eq, app_get0, app_get1, app_set0, app_set1, tyOk, oTuple_ref, oList_ref, oLen_refM, oIx_refM, oAppM, oExtM, srcOf_refM, ifLt24, ifLe24, B_is_name, decide_eq_false h1]
    simp only [isNm, decide_eq_false (show ¬ 1 ≤ w.length by omega), Bool.false_and]
theorem eqI (i j : Int) (M : Mem) : oEq false (.int i) (.int j) M = .ok (.bl (decide (i = j))) M := by
  rw [oEq_int]; rfl
theorem oLen_ct (l : List D) (M : Mem) : oLen [.ct l] M = .ok (.int l.length) M := rfl
def isRise : List (List Nat) → Bool
  | [] => true
  | [_] => true
  | a :: b :: r => decide (a < b) && isRise (b :: r)
theorem isRise_pw : ∀ {x : List (List Nat)}, isRise x = true ↔ x.Pairwise (· < ·)
  | [] => by simp [isRise]
  | [a] => by simp [isRise]
  | a :: b :: r => by
    rw [isRise, Bool.and_eq_true, decide_eq_true_eq, isRise_pw, List.pairwise_cons (a := a)]
    constructor
    · rintro ⟨h, p⟩
      refine ⟨fun z hz => ?_, p⟩
      rcases List.mem_cons.mp hz with rfl | h2
      · exact h
      · exact List.lt_trans h ((List.pairwise_cons.mp p).1 z h2)
    · rintro ⟨h, p⟩
      exact ⟨h b (List.mem_cons_self ..), p⟩
theorem rise_iff (x : List (List Nat)) : isRise x = (decide (x = x.mergeSort fun a b => decide (a ≤ b)) && decide (x.length = (x.filter fun w => decide (x.count w = 1)).length)) := by
  rw [Bool.eq_iff_iff, Bool.and_eq_true, decide_eq_true_eq, decide_eq_true_eq, isRise_pw]
  constructor
  · intro p
    have nd : x.Nodup := p.imp fun {a b} h => by intro e; subst e; exact List.lt_irrefl _ h
    have pl : x.Pairwise fun a b => decide (a ≤ b) = true := p.imp fun {a b} h => by
      rw [decide_eq_true_eq]; exact List.le_of_lt h
    refine ⟨(List.mergeSort_of_pairwise pl).symm, ?_⟩
    rw [List.filter_eq_self.mpr fun w hw => ?_]
    rw [decide_eq_true_eq, List.Nodup.count nd, if_pos hw]
  · rintro ⟨h1, h2⟩
    have pl : x.Pairwise fun a b => decide (a ≤ b) = true := by
      rw [h1]
      exact List.pairwise_mergeSort (fun a b c h1 h2 => by simp only [decide_eq_true_eq] at h1 h2 ⊢; exact List.le_trans h1 h2) (fun a b => by
        simp only [Bool.or_eq_true, decide_eq_true_eq]; exact List.le_total a b) x
    have al : ∀ w ∈ x, x.count w = 1 := fun w hw => by
      have := List.length_filter_eq_length_iff.mp h2.symm w hw
      simpa using this
    have nd : x.Nodup := List.nodup_iff_count.mpr fun w => by
      by_cases hw : w ∈ x
      · rw [al w hw]; exact Nat.le_refl _
      · rw [List.count_eq_zero.mpr hw]; exact Nat.zero_le _
    have := List.Pairwise.and pl nd
    exact this.imp fun {a b} h => by
      obtain ⟨q1, q2⟩ := h
      rw [decide_eq_true_eq] at q1
      rcases List.le_iff_lt_or_eq.mp q1 with z | z
      · exact z
      · exact absurd z q2
def isS : D → Bool
  | .str _ => true
  | _ => false
def nmD : D → Bool
  | .str w => isNm w
  | _ => false
structure ItmOk (d : D) : Prop where
  isi : ∀ M, oIsi "str" d M = .ok (.bl (isS d)) M
  len : ∀ w, d = .str w → w.length ≤ 1000
theorem itm_strs : ∀ {l : List D}, l.all nmD = true → ∃ x : List (List Nat), l = x.map .str ∧ ∀ w ∈ x, isNm w = true
  | [], _ => ⟨[], rfl, fun _ h => by cases h⟩
  | d :: l, h => by
    rw [List.all_cons, Bool.and_eq_true] at h
    obtain ⟨x, e, k⟩ := itm_strs h.2
    cases d with
    | str w => exact ⟨w :: x, by rw [e]; rfl, fun v hv => by rcases List.mem_cons.mp hv with rfl | h2; exact h.1; exact k v h2⟩
    | _ => cases h.1
def rgt (l : List D) : Bool := decide (0 < l.length) && l.all nmD && (match strsO l with | some x => isRise x | none => false)
theorem rights_turn (x0 x3 : Option D) (M : Mem) (a b : List Nat) : L_is_rights_1 [x0, some (.str b), some (.str a), x3] M = if a < b then .ok (.nx [x0, some (.str b), some (.str b), x3]) M else .ok (.rt (.bl false)) M := by
  have hle : oLe (.str b) (.str a) M = .ok (.bl (!decide (a < b))) M := rfl
  by_cases h : a < b
  · push_cast [L_is_rights_1, hle, decide_eq_true h, Bool.not_true, h]
  · push_cast [L_is_rights_1, hle, decide_eq_false h, Bool.not_false, h]
theorem rights_loop (x0 x3 : Option D) (M : Mem) : ∀ (r : List (List Nat)) (a : List Nat) (x1 : Option D), ∃ y1 y2, forL (fun _ => True) (gN 1) L_is_rights_1 (r.map .str) [x0, x1, some (.str a), x3] M = if isRise (a :: r) = true then .ok (.nx [x0, y1, y2, x3]) M else .ok (.rt (.bl false)) M
  | [], a, x1 => ⟨x1, some (.str a), forL_nil⟩
  | b :: r, a, x1 => by
    obtain ⟨y1, y2, e⟩ := rights_loop x0 x3 M r b (some (.str b))
    refine ⟨y1, y2, ?_⟩
    rw [List.map_cons, forL_cons]
    by_cases h : a < b
    · push_cast [rights_turn, h, e, isRise, Bool.true_and]
    · push_cast [rights_turn, h, isRise, Bool.false_and]
theorem gS_ct (n i : Nat) (g : FGs) (l : List D) (env : Fn.Env) (M : Mem) : gS n i g (.ct l) env M = if n ≤ l.length + 1 ∧ l.length ≤ 16384 then g (l.take i ++ [.lst ((l.drop i).take (l.length + 1 - n))] ++ (l.drop i).drop (l.length + 1 - n)) env M else .no := rfl
theorem tyD_ct (l : List D) (M : Mem) : oIsi "tuple" (.ct l) M = .ok (.bl true) M := rfl
theorem is_rights_ct (l : List D) (hl : l.length ≤ 1000) (hi : ∀ d ∈ l, ItmOk d) (M : Mem) : g_is_rights [.ct l] M = .ok (.bl (rgt l)) M := by
  refine runB_rt (N := 4) ?_
  show B_is_rights [some (.ct l), none, none, none] M = _
  have hcomp : compL (fun _ => True) (gN 1) tsYes C_is_rights_0 (wipeE [some (.ct l), none, none, none] [1]) l M = .ok (l.map fun d => D.bl (nmD d)) M := by
    have := compL_m (P := fun _ => True) (M := M) trivial (g := gN 1) (f := C_is_rights_0) (env := wipeE [some (.ct l), none, none, none] [1]) (fun d : D => d) (fun d => .bl (nmD d)) l fun d hm => ⟨[some (.ct l), some d, none, none], rfl, by
      have ii := (hi d hm).isi
      cases hs : isS d with
      | true =>
        cases d with
        | str w =>
          rw [hs] at ii
          have e := is_name_eq w (by have := (hi _ hm).len w rfl; omega) M
          push_cast [C_is_rights_0, ii, e]
          rfl
        | _ => cases hs
      | false =>
        rw [hs] at ii
        have : nmD d = false := by cases d <;> first | rfl | cases hs
        rw [this]
        push_cast [C_is_rights_0, ii]⟩
    rw [List.map_id'] at this
    exact this
  by_cases h0 : l = []
  · subst h0
    simp -implicitDefEqProofs (disch := first | assumption | omega | (simp only [List.length_cons, List.length_nil, List.length_append, List.length_map, List.length_take, List.length_drop, rngItems_len]; omega)) only [mSeq_eq, mIfS_eq, mSet_eq, mRet_eq, mRetN_eq, mExpr_eq, mPass_eq, mAsg_eq, mPar_eq, mAug_eq, bOf_eq, tOf_eq, tAndM_eq, tOrM_eq, tNotM_eq, tsYes_eq, mOp_eq, mUn_eq, mVar_eq, mC_eq, mCall_eq, mFun_eq, mFunKw_eq, mMeth_eq, mAnd_eq, mOr_eq, mNot_eq, mIf_eq, mChain_eq, mSl_eq, pNone_eq, pSome_eq, aCons_eq, aNil_eq, mTup_eq, mLst_eq, gN_eq, gT_eq, gsNil_eq, gsCons_eq, mkL_t, mkL_f, R.bind_ok, R.bind_no, R.nox_ok, List.getElem?_cons_zero, List.getElem?_cons_succ, List.set_cons_zero, List.set_cons_succ, List.length_cons, List.length_nil, List.append_nil, List.nil_append, List.cons_append, piApp_on, oLen_fz, oLen_lst, oLen_tup, oLt_int, oLe_int, oGt_int, oGe_int, oAdd_int, oSub_int, oIx_fz, oIx_lst, oIx_tup, oMax_int, oMin_int, oInt_bl, oInt_int, oIsi_bl, oNeg_int, oTuple_lst, oTuple_tup, iR1_eq, iR2_eq, iSq_eq, iStrM_eq, srcOf_tup, srcOf_lst, srcOf_fz, if_true, if_false, Bool.false_eq_true, Bool.true_eq_false, reduceIte, Nat.reduceAdd, Nat.reduceLeDiff, Nat.reduceEqDiff, Bool.not_true, Bool.not_false, decide_true, decide_false, and_self, and_true, true_and, oMod_int, oMul_r, oMul_l, oLen_str, oAdd_str, oSl_str, oSl_tup, oSl_lst, oSl_fz, rngOk_of, oEq_int, oEq_bl, beq_self_eq_true, Int.toNat_natCast, mFor_eq, mLc_eq, app_get0, app_get1, app_set0, app_set1, tyOk, oTuple_ref, oList_ref, oLen_refM, oIx_refM, oAppM, oExtM, srcOf_refM, ifLt24, ifLe24, B_is_rights, tyD_ct, Bool.not_true, oLen_ct, show (((0 : Nat) : Int) == 0) = true from rfl]
    rfl
  · have hp : 0 < l.length := List.length_pos_iff.mpr h0
    have hne : oEq false (.int (l.length : Int)) (.int 0) M = .ok (.bl false) M := by rw [eqI, decide_eq_false (by omega)]
    have ll : l.length < 16777216 := by omega
    have hall : oAll [.lst (l.map fun d => D.bl (nmD d))] M = .ok (.bl (l.all nmD)) M := oAll_map nmD l
    have ss : srcOf M (.ct l) = some ⟨l, fun _ => True⟩ := rfl
    by_cases hn : l.all nmD = true
    · obtain ⟨x, rfl, _⟩ := itm_strs hn
      cases x with
      | nil => exact absurd rfl h0
      | cons a r =>
        obtain ⟨y1, y2, e⟩ := rights_loop (some (.ct ((a :: r).map .str))) (some (.lst (r.map .str))) M r a none
        have st : ∀ env : Fn.Env, gS 2 1 (gsCons (gN 2) (gsCons (gN 3) gsNil)) (.ct ((a :: r).map .str)) env M = .ok ((env.set 2 (some (.str a))).set 3 (some (.lst (r.map .str)))) M := fun env => by
          have d1 : (2 ≤ ((a :: r).map D.str).length + 1 ∧ ((a :: r).map D.str).length ≤ 16384) := by simp at hl ⊢; omega
          have tk : (List.drop 1 ((a :: r).map D.str)).take (((a :: r).map D.str).length + 1 - 2) = r.map .str := List.take_of_length_le (by simp)
          have dr : (List.drop 1 ((a :: r).map D.str)).drop (((a :: r).map D.str).length + 1 - 2) = [] := List.drop_of_length_le (by simp)
          have t2 : ((a :: r).map D.str).take 1 = [D.str a] := rfl
          rw [gS_ct, if_pos d1, tk, dr, t2]
          rfl
        have sl : srcOf M (.lst (r.map .str)) = some ⟨r.map .str, fun _ => True⟩ := rfl
        have rv : rgt ((a :: r).map .str) = isRise (a :: r) := by
          unfold rgt
          rw [hn, strsO_map, decide_eq_true hp]; rfl
        rw [rv]
        have wp : wipeE [some (.ct ((a :: r).map .str)), none, none, none] [1] = [some (.ct ((a :: r).map .str)), none, none, none] := rfl
        rw [wp] at hcomp
        rw [hn] at hall
        obtain ⟨B, hB⟩ : ∃ B, ((a :: r).map D.str).map (fun d => D.bl (nmD d)) = B := ⟨_, rfl⟩
        rw [hB] at hcomp hall
        obtain ⟨RL, hRL⟩ : ∃ X, D.lst (r.map .str) = X := ⟨_, rfl⟩
        rw [hRL] at st e sl
        have ol := oLen_ct ((a :: r).map D.str) M
        obtain ⟨LL, hLL⟩ : ∃ X, (a :: r).map D.str = X := ⟨_, rfl⟩
        rw [hLL] at hcomp st e ss ll hne wp ol ⊢
        by_cases hr : isRise (a :: r) = true
        · rw [if_pos hr] at e
          rw [hr]
          push_cast [B_is_rights, tyD_ct, ol, hne, mLc_eq, ss, if_pos ll, wp, hcomp, hall, st, mFor_eq, sl, e]
        · rw [if_neg hr] at e
          rw [Bool.eq_false_iff.mpr hr]
          push_cast [B_is_rights, tyD_ct, ol, hne, mLc_eq, ss, if_pos ll, wp, hcomp, hall, st, mFor_eq, sl, e]
    · have hn' := Bool.eq_false_iff.mpr hn
      have rv : rgt l = false := by unfold rgt; rw [hn']; simp
      rw [rv]
      rw [hn'] at hall
      have wp : wipeE [some (.ct l), none, none, none] [1] = [some (.ct l), none, none, none] := rfl
      rw [wp] at hcomp
      have ol := oLen_ct l M
      obtain ⟨B, hB⟩ : ∃ B, l.map (fun d => D.bl (nmD d)) = B := ⟨_, rfl⟩
      rw [hB] at hcomp hall
      push_cast [B_is_rights, tyD_ct, ol, hne, mLc_eq, ss, if_pos ll, wp, hcomp, hall]
theorem law_is_name_eq {d : D} (h : ItmOk d) (M : Mem) : g_law_is_name [d] M = .ok (.bl (nmD d)) M := by
  have ii := h.isi
  refine runB_rt (N := 2) (?_ : B_law_is_name [some d, none] M = _)
  cases hs : isS d with
  | false =>
    rw [hs] at ii
    have e : nmD d = false := by cases d <;> first | rfl | cases hs
    rw [e]
    push_cast [B_law_is_name, ii]
  | true =>
    rw [hs] at ii
    cases d with
    | str w =>
      have hw := h.len w rfl
      have ol : oLen [.str w] M = .ok (.int (w.length : Int)) M := by
        show (if w.length ≤ 16777216 then _ else _) = _
        rw [if_pos (by omega)]
      have hcomp : compL (fun _ => True) (gN 1) T_law_is_name_0 C_law_is_name_1 (wipeE [some (.str w), none] [1]) (w.map fun c => D.str [c]) M = .ok ((w.filter fun c => decide (c ∉ abc)).map fun c => D.str [c]) M :=
        compL_fm (P := fun _ => True) (M := M) trivial (fun c => D.str [c]) (fun c => decide (c ∉ abc)) (fun c => D.str [c]) w fun c _ => ⟨[some (.str w), some (.str [c])], rfl, by push_cast [T_law_is_name_0, oInS]; simp, fun _ => by push_cast [C_law_is_name_1]⟩
      by_cases h1 : (0 : Int) < (w.length : Int)
      · by_cases h2 : (w.length : Int) < (7 : Int)
        · have q : oEq false (.lst ((w.filter fun c => decide (c ∉ abc)).map fun c => D.str [c])) (.lst []) M = .ok (.bl (nmD (.str w))) M := by
            have ex : exD (.lst ((w.filter fun c => decide (c ∉ abc)).map fun c => D.str [c])) = true := by
              have : ∀ l : List Nat, exL (l.map fun c => D.str [c]) = true := fun l => by
                induction l with
                | nil => rfl
                | cons p l ih => rw [List.map_cons]; simp only [exL, ih, Bool.and_true]; rfl
              exact this _
            have dp : dpD (.lst ((w.filter fun c => decide (c ∉ abc)).map fun c => D.str [c])) ≤ 60 := by
              have : ∀ l : List Nat, dpL (l.map fun c => D.str [c]) = 0 := fun l => by
                induction l with
                | nil => rfl
                | cons p l ih => rw [List.map_cons]; simp only [dpL, ih, dpD]; rfl
              simp only [dpD, this]; omega
            have nd : nmD (.str w) = w.all fun c => decide (c ∈ abc) := by
              show (decide (1 ≤ w.length) && decide (w.length ≤ 6) && w.all fun c => decide (c ∈ abc)) = _
              rw [decide_eq_true (show 1 ≤ w.length by omega), decide_eq_true (show w.length ≤ 6 by omega), Bool.true_and, Bool.true_and]
            rw [nd]
            by_cases z : (w.filter fun c => decide (c ∉ abc)) = []
            · have al : (w.all fun c => decide (c ∈ abc)) = true := List.all_eq_true.mpr fun c hc => by
                have := List.filter_eq_nil_iff.mp z c hc
                exact decide_eq_true (Decidable.not_not.mp fun y => this (decide_eq_true y))
              rw [z, al]
              exact oEq_exT rfl (by simp [dpD, dpL])
            · have al : (w.all fun c => decide (c ∈ abc)) = false := Bool.eq_false_iff.mpr fun y => z (List.filter_eq_nil_iff.mpr fun c hc y2 => (of_decide_eq_true y2) (of_decide_eq_true (List.all_eq_true.mp y c hc)))
              rw [al]
              exact oEq_exF ex rfl dp fun y => z (List.map_eq_nil_iff.mp (by injection y))
          simp -implicitDefEqProofs (disch := first | assumption | omega | (simp only [List.length_cons, List.length_nil, List.length_append, List.length_map, List.length_take, List.length_drop, rngItems_len]; omega)) only [mSeq_eq, mIfS_eq, mSet_eq, mRet_eq, mRetN_eq, mExpr_eq, mPass_eq, mAsg_eq, mPar_eq, mAug_eq, bOf_eq, tOf_eq, tAndM_eq, tOrM_eq, tNotM_eq, tsYes_eq, mOp_eq, mUn_eq, mVar_eq, mC_eq, mCall_eq, mFun_eq, mFunKw_eq, mMeth_eq, mAnd_eq, mOr_eq, mNot_eq, mIf_eq, mChain_eq, mSl_eq, pNone_eq, pSome_eq, aCons_eq, aNil_eq, mTup_eq, mLst_eq, gN_eq, gT_eq, gsNil_eq, gsCons_eq, mkL_t, mkL_f, R.bind_ok, R.bind_no, R.nox_ok, List.getElem?_cons_zero, List.getElem?_cons_succ, List.set_cons_zero, List.set_cons_succ, List.length_cons, List.length_nil, List.append_nil, List.nil_append, List.cons_append, piApp_on, oLen_fz, oLen_lst, oLen_tup, oLt_int, oLe_int, oGt_int, oGe_int, oAdd_int, oSub_int, oIx_fz, oIx_lst, oIx_tup, oMax_int, oMin_int, oInt_bl, oInt_int, oIsi_bl, oNeg_int, oTuple_lst, oTuple_tup, iR1_eq, iR2_eq, iSq_eq, iStrM_eq, srcOf_tup, srcOf_lst, srcOf_fz, if_true, if_false, Bool.false_eq_true, Bool.true_eq_false, reduceIte, Nat.reduceAdd, Nat.reduceLeDiff, Nat.reduceEqDiff, Bool.not_true, Bool.not_false, decide_true, decide_false, and_self, and_true, true_and, oMod_int, oMul_r, oMul_l, oLen_str, oAdd_str, oSl_str, oSl_tup, oSl_lst, oSl_fz, rngOk_of, oEq_int, oEq_bl, beq_self_eq_true, Int.toNat_natCast, mFor_eq, mLc_eq, app_get0, app_get1, app_set0, app_set1, tyOk, oTuple_ref, oList_ref, oLen_refM, oIx_refM, oAppM, oExtM, srcOf_refM, ifLt24, ifLe24, B_law_is_name, ii, decide_eq_true h1, decide_eq_true h2, hcomp, q]
        · have e : nmD (.str w) = false := by
            show isNm w = false
            simp only [isNm, decide_eq_false (show ¬ w.length ≤ 6 by omega), Bool.and_false, Bool.false_and]
          rw [e]
          simp -implicitDefEqProofs (disch := first | assumption | omega | (simp only [List.length_cons, List.length_nil, List.length_append, List.length_map, List.length_take, List.length_drop, rngItems_len]; omega)) only [mSeq_eq, mIfS_eq, mSet_eq, mRet_eq, mRetN_eq, mExpr_eq, mPass_eq, mAsg_eq, mPar_eq, mAug_eq, bOf_eq, tOf_eq, tAndM_eq, tOrM_eq, tNotM_eq, tsYes_eq, mOp_eq, mUn_eq, mVar_eq, mC_eq, mCall_eq, mFun_eq, mFunKw_eq, mMeth_eq, mAnd_eq, mOr_eq, mNot_eq, mIf_eq, mChain_eq, mSl_eq, pNone_eq, pSome_eq, aCons_eq, aNil_eq, mTup_eq, mLst_eq, gN_eq, gT_eq, gsNil_eq, gsCons_eq, mkL_t, mkL_f, R.bind_ok, R.bind_no, R.nox_ok, List.getElem?_cons_zero, List.getElem?_cons_succ, List.set_cons_zero, List.set_cons_succ, List.length_cons, List.length_nil, List.append_nil, List.nil_append, List.cons_append, piApp_on, oLen_fz, oLen_lst, oLen_tup, oLt_int, oLe_int, oGt_int, oGe_int, oAdd_int, oSub_int, oIx_fz, oIx_lst, oIx_tup, oMax_int, oMin_int, oInt_bl, oInt_int, oIsi_bl, oNeg_int, oTuple_lst, oTuple_tup, iR1_eq, iR2_eq, iSq_eq, iStrM_eq, srcOf_tup, srcOf_lst, srcOf_fz, if_true, if_false, Bool.false_eq_true, Bool.true_eq_false, reduceIte, Nat.reduceAdd, Nat.reduceLeDiff, Nat.reduceEqDiff, Bool.not_true, Bool.not_false, decide_true, decide_false, and_self, and_true, true_and, oMod_int, oMul_r, oMul_l, oLen_str, oAdd_str, oSl_str, oSl_tup, oSl_lst, oSl_fz, rngOk_of, oEq_int, oEq_bl, beq_self_eq_true, Int.toNat_natCast, mFor_eq, mLc_eq, app_get0, app_get1, app_set0, app_set1, tyOk, oTuple_ref, oList_ref, oLen_refM, oIx_refM, oAppM, oExtM, srcOf_refM, ifLt24, ifLe24, B_law_is_name, ii, decide_eq_true h1, decide_eq_false h2]
      · have e : nmD (.str w) = false := by
          show isNm w = false
          simp only [isNm, decide_eq_false (show ¬ 1 ≤ w.length by omega), Bool.false_and]
        rw [e]
        simp -implicitDefEqProofs (disch := first | assumption | omega | (simp only [List.length_cons, List.length_nil, List.length_append, List.length_map, List.length_take, List.length_drop, rngItems_len]; omega)) only [mSeq_eq, mIfS_eq, mSet_eq, mRet_eq, mRetN_eq, mExpr_eq, mPass_eq, mAsg_eq, mPar_eq, mAug_eq, bOf_eq, tOf_eq, tAndM_eq, tOrM_eq, tNotM_eq, tsYes_eq, mOp_eq, mUn_eq, mVar_eq, mC_eq, mCall_eq, mFun_eq, mFunKw_eq, mMeth_eq, mAnd_eq, mOr_eq, mNot_eq, mIf_eq, mChain_eq, mSl_eq, pNone_eq, pSome_eq, aCons_eq, aNil_eq, mTup_eq, mLst_eq, gN_eq, gT_eq, gsNil_eq, gsCons_eq, mkL_t, mkL_f, R.bind_ok, R.bind_no, R.nox_ok, List.getElem?_cons_zero, List.getElem?_cons_succ, List.set_cons_zero, List.set_cons_succ, List.length_cons, List.length_nil, List.append_nil, List.nil_append, List.cons_append, piApp_on, oLen_fz, oLen_lst, oLen_tup, oLt_int, oLe_int, oGt_int, oGe_int, oAdd_int, oSub_int, oIx_fz, oIx_lst, oIx_tup, oMax_int, oMin_int, oInt_bl, oInt_int, oIsi_bl, oNeg_int, oTuple_lst, oTuple_tup, iR1_eq, iR2_eq, iSq_eq, iStrM_eq, srcOf_tup, srcOf_lst, srcOf_fz, if_true, if_false, Bool.false_eq_true, Bool.true_eq_false, reduceIte, Nat.reduceAdd, Nat.reduceLeDiff, Nat.reduceEqDiff, Bool.not_true, Bool.not_false, decide_true, decide_false, and_self, and_true, true_and, oMod_int, oMul_r, oMul_l, oLen_str, oAdd_str, oSl_str, oSl_tup, oSl_lst, oSl_fz, rngOk_of, oEq_int, oEq_bl, beq_self_eq_true, Int.toNat_natCast, mFor_eq, mLc_eq, app_get0, app_get1, app_set0, app_set1, tyOk, oTuple_ref, oList_ref, oLen_refM, oIx_refM, oAppM, oExtM, srcOf_refM, ifLt24, ifLe24, B_law_is_name, ii, decide_eq_false h1]
    | _ => cases hs
theorem pyL_strs : ∀ l : List (List Nat), pyL (l.map .str) = some (l.map fun x => .str (l2s x))
  | [] => rfl
  | x :: l => by rw [List.map_cons, pyL, pyL_strs l]; rfl
theorem count_ct (many : List (List Nat)) (w : List Nat) (M : Mem) : oCntC (.ct (many.map .str)) [.str w] M = .ok (.int ((many.count w : Nat) : Int)) M := by
  have hp : pyD (.str w) = some (.str (l2s w)) := rfl
  simp only [oCntC, pyL_strs, hp]
  have hd : (PyData.str (l2s w)).depth ≤ 60 := by simp [PyData.depth]
  rw [if_pos (by omega), List.countP_map]
  congr 3
  unfold List.count
  congr 1
  funext x
  show PyData.eqv (.str (l2s x)) (.str (l2s w)) = (x == w)
  rw [← l2s_beq]
  simp [PyData.eqv]
theorem exL_st : ∀ x : List (List Nat), exL (x.map .str) = true
  | [] => rfl
  | p :: l => by rw [List.map_cons]; simp only [exL, exL_st l, Bool.and_true]; rfl
theorem dpL_st : ∀ x : List (List Nat), dpL (x.map .str) = 0
  | [] => rfl
  | p :: l => by rw [List.map_cons]; simp only [dpL, dpL_st l, dpD]; rfl
theorem st_inj {x y : List (List Nat)} (h : x.map D.str = y.map D.str) : x = y := by
  have := congrArg strsO h
  rw [strsO_map, strsO_map] at this
  exact Option.some.inj this
theorem law_due_ct (l : List D) (hl : l.length ≤ 1000) (hi : ∀ d ∈ l, ItmOk d) (M : Mem) : g_law_due [.ct l] M = .ok (.bl (rgt l)) M := by
  refine runB_rt (N := 2) (?_ : B_law_due [some (.ct l), none] M = _)
  have wp : wipeE [some (.ct l), none] [1] = [some (.ct l), none] := rfl
  have hcomp : compL (fun _ => True) (gN 1) tsYes C_law_due_0 [some (.ct l), none] l M = .ok (l.map fun d => D.bl (nmD d)) M := by
    have := compL_m (P := fun _ => True) (M := M) trivial (g := gN 1) (f := C_law_due_0) (env := [some (.ct l), none]) (fun d : D => d) (fun d => .bl (nmD d)) l fun d hm => ⟨[some (.ct l), some d], rfl, by
      have e := law_is_name_eq (hi d hm) M
      push_cast [C_law_due_0, e]⟩
    rw [List.map_id'] at this
    exact this
  have ol := oLen_ct l M
  have ss : srcOf M (.ct l) = some ⟨l, fun _ => True⟩ := rfl
  have ll : l.length < 16777216 := by omega
  have hall : oAll [.lst (l.map fun d => D.bl (nmD d))] M = .ok (.bl (l.all nmD)) M := oAll_map nmD l
  by_cases h0 : l = []
  · subst h0
    have q0 : oEq false (.int ((0 : Nat) : Int)) (.int 0) M = .ok (.bl true) M := rfl
    push_cast [B_law_due, tyD_ct, ol, q0]
    rfl
  · have hp : 0 < l.length := List.length_pos_iff.mpr h0
    have hne : oEq false (.int (l.length : Int)) (.int 0) M = .ok (.bl false) M := by rw [eqI, decide_eq_false (by omega)]
    by_cases hn : l.all nmD = true
    · obtain ⟨x, rfl, _⟩ := itm_strs hn
      have rv : rgt (x.map .str) = isRise x := by
        unfold rgt
        rw [hn, strsO_map, decide_eq_true hp]; rfl
      rw [rv, rise_iff]
      have oli : oList false [.ct (x.map .str)] M = .ok (.lst (x.map .str)) M := rfl
      have so : oSortTC false [.ct (x.map .str)] M = .ok (.lst ((x.mergeSort fun a b => decide (a ≤ b)).map .str)) M := by
        simp only [oSortTC, strsO_map]
        rw [if_pos (sortOk_strs x), sortD_str, mkL_f]
      have qs : oEq false (.lst (x.map .str)) (.lst ((x.mergeSort fun a b => decide (a ≤ b)).map .str)) M = .ok (.bl (decide (x = x.mergeSort fun a b => decide (a ≤ b)))) M := by
        rw [oEq_ex (show exD (.lst _) = true from exL_st _) (show exD (.lst _) = true from exL_st _) (by simp only [dpD, dpL_st]; omega)]
        congr 2
        rw [Bool.false_bne, decide_eq_decide]
        exact ⟨fun z => st_inj (by injection z), fun z => by rw [← z]⟩
      have c2 : compL (fun _ => True) (gN 1) T_law_due_1 C_law_due_2 [some (.ct (x.map .str)), none] (x.map .str) M = .ok ((x.filter fun w => decide (x.count w = 1)).map .str) M :=
        compL_fm (P := fun _ => True) (M := M) trivial D.str (fun w => decide (x.count w = 1)) D.str x fun w hm => ⟨[some (.ct (x.map .str)), some (.str w)], rfl, by
          have e := count_ct x w M
          have q : oEq false (.int ((x.count w : Nat) : Int)) (.int 1) M = .ok (.bl (decide (x.count w = 1))) M := by
            rw [eqI]; congr 2; rw [decide_eq_decide]; omega
          obtain ⟨XD, hXD⟩ : ∃ X, x.map D.str = X := ⟨_, rfl⟩
          rw [hXD] at e ⊢
          push_cast [T_law_due_1, mCntC_eq, e, q], fun _ => by push_cast [C_law_due_2]⟩
      have q2 : oEq false (.int ((x.length : Nat) : Int)) (.int (((x.filter fun w => decide (x.count w = 1)).length : Nat) : Int)) M = .ok (.bl (decide (x.length = (x.filter fun w => decide (x.count w = 1)).length))) M := by
        rw [eqI]; congr 2; rw [decide_eq_decide]; omega
      rw [hn] at hall
      obtain ⟨B, hB⟩ : ∃ B, (x.map D.str).map (fun d => D.bl (nmD d)) = B := ⟨_, rfl⟩
      rw [hB] at hcomp hall
      rw [List.length_map] at ol hne
      have ol2 : oLen [.lst ((x.filter fun w => decide (x.count w = 1)).map .str)] M = .ok (.int ((x.filter fun w => decide (x.count w = 1)).length : Nat)) M := by
        show R.ok (D.int (((x.filter fun w => decide (x.count w = 1)).map D.str).length : Int)) M = _
        rw [List.length_map]
      obtain ⟨F, hF⟩ : ∃ F, (x.filter fun w => decide (x.count w = 1)) = F := ⟨_, rfl⟩
      rw [hF] at c2 q2 ol2 ⊢
      obtain ⟨S, hS⟩ : ∃ S, (x.mergeSort fun a b => decide (a ≤ b)) = S := ⟨_, rfl⟩
      rw [hS] at so qs ⊢
      obtain ⟨XD, hXD⟩ : ∃ X, x.map D.str = X := ⟨_, rfl⟩
      rw [hXD] at hcomp ss ll ol oli so qs c2 wp ⊢
      obtain ⟨FD, hFD⟩ : ∃ X, F.map D.str = X := ⟨_, rfl⟩
      rw [hFD] at c2 ol2
      by_cases hx : x = S
      · rw [decide_eq_true hx] at qs
        rw [decide_eq_true hx, Bool.true_and]
        push_cast [B_law_due, tyD_ct, ol, hne, mLc_eq, ss, if_pos ll, wp, hcomp, hall, oli, so, qs, c2, ol2, q2]
      · rw [decide_eq_false hx] at qs
        rw [decide_eq_false hx, Bool.false_and]
        push_cast [B_law_due, tyD_ct, ol, hne, mLc_eq, ss, if_pos ll, wp, hcomp, hall, oli, so, qs]
    · have hn' := Bool.eq_false_iff.mpr hn
      have rv : rgt l = false := by unfold rgt; rw [hn']; simp
      rw [rv]
      rw [hn'] at hall
      obtain ⟨B, hB⟩ : ∃ B, l.map (fun d => D.bl (nmD d)) = B := ⟨_, rfl⟩
      rw [hB] at hcomp hall
      push_cast [B_law_due, tyD_ct, ol, hne, mLc_eq, ss, if_pos ll, wp, hcomp, hall]
/-- what the law poses -/
def Thg (B : Nat) (d : D) : Prop := (∃ l, d = .ct l ∧ l.length ≤ B ∧ ∀ x ∈ l, ItmOk x) ∨ (d = .str [103, 105, 118, 101] ∨ d = .int 5 ∨ d = .non ∨ d = .bl true)
theorem right_eq {B : Nat} (hB : B ≤ 1000) {d : D} (h : Thg B d) (M : Mem) : g_law_right [d] M = .ok (.bl true) M := by
  have main : ∀ b, g_is_rights [d] M = .ok (.bl b) M → g_law_due [d] M = .ok (.bl b) M → g_law_right [d] M = .ok (.bl true) M := fun b e1 e2 => by
    have ei : oIsi "bool" (.bl b) M = .ok (.bl true) M := rfl
    have eq : oEq false (.bl b) (.bl b) M = .ok (.bl true) M := by rw [oEq_bl]; simp
    exact runB_rt (N := 2) (show B_law_right [some d, none] M = _ by push_cast [B_law_right, e1, e2, ei, eq])
  rcases h with ⟨l, rfl, hl, hi⟩ | h
  · exact main _ (is_rights_ct l (by omega) hi M) (law_due_ct l (by omega) hi M)
  · have nt : oIsi "tuple" d M = .ok (.bl false) M := by rcases h with rfl | rfl | rfl | rfl <;> rfl
    refine main false ?_ ?_
    · exact runB_rt (N := 4) (show B_is_rights [some d, none, none, none] M = _ by push_cast [B_is_rights, nt])
    · exact runB_rt (N := 2) (show B_law_due [some d, none] M = _ by push_cast [B_law_due, nt])
def FI (M : Mem) (i : Nat) : Prop := ∃ s : Fl, s.ok ∧ M[i]? = some s.c
theorem FI.draw {M : Mem} {i : Nat} (h : FI M i) (many : Int) (h0 : 0 < many) (h1 : many < 1000000000000000000000000) : ∃ (v : Nat) (M' : Mem), (v : Int) < many ∧ FI M' i ∧ M'.length = M.length ∧ (∀ j, j ≠ i → M'[j]? = M[j]?) ∧ g_law_draw [.ref i, .int many] M = .ok (.int v) M' := by
  obtain ⟨s, hs, hM⟩ := h
  obtain ⟨v, M', k1, k2, k3⟩ := draw_eq (FlAt.start hs hM) many h0 h1
  obtain ⟨s', e1, e2, _⟩ := k2.get
  exact ⟨v, M', k1, ⟨s', e1, e2⟩, k2.len, fun j hj => k2.other (Ne.symm hj), k3⟩
theorem FI.same {M M' : Mem} {i : Nat} (h : FI M i) (e : M'[i]? = M[i]?) : FI M' i := by
  obtain ⟨s, h1, h2⟩ := h
  exact ⟨s, h1, by rw [e]; exact h2⟩
theorem Thg.mono {B C : Nat} {d : D} (h : Thg B d) (q : B ≤ C) : Thg C d := by
  rcases h with ⟨l, e, hl, hi⟩ | h
  · exact .inl ⟨l, e, by omega, hi⟩
  · exact .inr h
theorem cutD_mem {l : List D} {lo hi : Option Int} {x : D} (h : x ∈ Fn.cutD l lo hi) : x ∈ l := by
  unfold Fn.cutD at h
  exact List.mem_of_mem_drop (List.mem_of_mem_take h)
theorem itm_str {w : List Nat} (h : w.length ≤ 1000) : ItmOk (.str w) := ⟨fun _ => rfl, fun v e => by injection e with e; rw [← e]; exact h⟩
theorem itm_ct (l : List D) : ItmOk (.ct l) := ⟨fun _ => rfl, fun _ e => by cases e⟩
def odds : List D := [.str [], .str [71, 105, 118, 101], .str [103, 105, 118, 101, 32], .str [108, 111, 110, 103, 101, 115, 116], .int 3, .int 0, .bl true, .non, .tup [.str [103, 105, 118, 101]], .str [122, 122, 122, 122, 122, 122], .str [97, 10], .str [97, 95, 98], .ct [], .str [122, 122]]
theorem odds_ok : ∀ x ∈ odds, ItmOk x := fun x hx => by
  unfold odds at hx
  simp only [List.mem_cons, List.not_mem_nil, or_false] at hx
  rcases hx with rfl | rfl | rfl | rfl | rfl | rfl | rfl | rfl | rfl | rfl | rfl | rfl | rfl | rfl
  all_goals first
    | exact itm_str (by decide)
    | exact itm_ct _
    | exact ⟨fun _ => rfl, fun _ e => by cases e⟩
theorem odd_ix {v : Nat} (h : v < 14) : ∃ x, ItmOk x ∧ ∀ M, oIx (.lst odds) (.int (v : Int)) M = .ok x M := by
  have hl : v < odds.length := h
  exact ⟨odds[v], odds_ok _ (List.getElem_mem hl), fun M => by rw [oIx_lst, atI_nat (List.getElem?_eq_getElem hl)]⟩
def opts (l : List D) : List D := [.ct l.reverse, .ct [.ct l, .ct l], .ct [.ct l], .str [103, 105, 118, 101], .int 5, .non, .bl true, .ct []]
theorem opts_ok {l : List D} {B : Nat} (hl : l.length ≤ B) (hi : ∀ x ∈ l, ItmOk x) : ∀ x ∈ opts l, Thg (4 * B + 2) x := fun x hx => by
  unfold opts at hx
  simp only [List.mem_cons, List.not_mem_nil, or_false] at hx
  rcases hx with rfl | rfl | rfl | rfl | rfl | rfl | rfl | rfl
  · exact .inl ⟨_, rfl, by rw [List.length_reverse]; omega, fun x hx => hi x (List.mem_reverse.mp hx)⟩
  · exact .inl ⟨_, rfl, by simp, fun x hx => by
      simp only [List.mem_cons, List.not_mem_nil, or_false, or_self] at hx
      rw [hx]; exact itm_ct _⟩
  · exact .inl ⟨_, rfl, by simp, fun x hx => by
      simp only [List.mem_cons, List.not_mem_nil, or_false] at hx
      rw [hx]; exact itm_ct _⟩
  · exact .inr (.inl rfl)
  · exact .inr (.inr (.inl rfl))
  · exact .inr (.inr (.inr (.inl rfl)))
  · exact .inr (.inr (.inr (.inr rfl)))
  · exact .inl ⟨_, rfl, by simp, fun x hx => by cases hx⟩
theorem opts_ix (l : List D) {v : Nat} (h : v < 8) : ∃ x ∈ opts l, ∀ M, oIx (.lst (opts l)) (.int (v : Int)) M = .ok x M := by
  have hl : v < (opts l).length := h
  exact ⟨(opts l)[v], List.getElem_mem hl, fun M => by rw [oIx_lst, atI_nat (List.getElem?_eq_getElem hl)]⟩
theorem other_eq {M : Mem} {i : Nat} (h : FI M i) {B : Nat} (hB : B ≤ 200) {d : D} (hd : Thg B d) : ∃ d' M', Thg (4 * B + 2) d' ∧ FI M' i ∧ M'.length = M.length ∧ (∀ j, j ≠ i → M'[j]? = M[j]?) ∧ g_law_other [.ref i, d] M = .ok d' M' := by
  rcases hd with ⟨l, rfl, hl, hi⟩ | hd
  · obtain ⟨v, M1, v1, f1, ml1, old1, e1⟩ := h.draw ((l.length : Int) + 1) (by omega) (by omega)
    obtain ⟨u, M2, u1, f2, ml2, old2, e2⟩ := f1.draw 8 (by omega) (by omega)
    have old12 : ∀ j, j ≠ i → M2[j]? = M[j]? := fun j hj => by rw [old2 j hj, old1 j hj]
    have ol := oLen_ct l
    have cs : ∀ lo hi M, oSlC (.ct l) lo hi M = .ok (.ct (Fn.cutD l lo hi)) M := fun _ _ _ => oSlC_ct _ _ _
    have cl : ∀ lo hi, (Fn.cutD l lo hi).length ≤ B := fun lo hi => by have := cutD_len l lo hi; omega
    have cm : ∀ lo hi x, x ∈ Fn.cutD l lo hi → ItmOk x := fun lo h2 x hx => hi x (cutD_mem hx)
    obtain ⟨c1, hc1⟩ : ∃ X, Fn.cutD l none (some (v : Int)) = X := ⟨_, rfl⟩
    have k1 : c1.length ≤ B ∧ ∀ x ∈ c1, ItmOk x := by rw [← hc1]; exact ⟨cl _ _, cm _ _⟩
    have s1 : ∀ M, oSlC (.ct l) none (some (v : Int)) M = .ok (.ct c1) M := fun M => by rw [cs, hc1]
    have any : ∀ lo hi, ∃ c, (c.length ≤ B ∧ ∀ x ∈ c, ItmOk x) ∧ ∀ M, oSlC (.ct l) lo hi M = .ok (.ct c) M := fun lo hi => ⟨_, ⟨cl lo hi, cm lo hi⟩, cs lo hi⟩
    by_cases q3 : u < 3
    · obtain ⟨t, M3, t1, f3, ml3, old3, e3⟩ := f2.draw 14 (by omega) (by omega)
      obtain ⟨x, xo, xi⟩ := odd_ix (v := t) (by omega)
      obtain ⟨c2, k2, s2⟩ := any (some ((v : Int) + ((u : Int) % 2))) none
      have lt : ∀ M, oLt (.int (u : Int)) (.int 3) M = .ok (.bl true) M := fun M => by rcases (by omega : u = 0 ∨ u = 1 ∨ u = 2) with rfl | rfl | rfl <;> rfl
      have md : ∀ M, oMod (.int (u : Int)) (.int 2) M = .ok (.int ((u : Int) % 2)) M := fun M => oMod_int _ _ (by omega)
      have a1 : ∀ M, oCatC (.ct c1) (.ct [x]) M = .ok (.ct (c1 ++ [x])) M := fun M => oCatC_ct _ _ (by simp; omega)
      have a2 : ∀ M, oCatC (.ct (c1 ++ [x])) (.ct c2) M = .ok (.ct (c1 ++ [x] ++ c2)) M := fun M => oCatC_ct _ _ (by simp; omega)
      refine ⟨.ct (c1 ++ [x] ++ c2), M3, .inl ⟨_, rfl, by simp; omega, fun y hy => ?_⟩, f3, by omega, fun j hj => by rw [old3 j hj, old12 j hj], runB_rt (N := 5) (?_ : B_law_other [some (.ref i), some (.ct l), none, none, none] M = _)⟩
      · rcases List.mem_append.mp hy with hy | hy
        · rcases List.mem_append.mp hy with hy | hy
          · exact k1.2 y hy
          · rw [List.mem_singleton.mp hy]; exact xo
        · exact k2.2 y hy
      · obtain ⟨LD, hLD⟩ : ∃ X, D.ct l = X := ⟨_, rfl⟩
        have ty := tyD_ct l
        rw [hLD] at ol s1 s2 ty ⊢
        unfold odds at xi
        push_cast [B_law_other, ty, mPar_eq, ol, e1, e2, lt, mSlC_eq, s1, e3, xi, mTupC_eq, a1, md, s2, a2]
    · have lt : ∀ M, oLt (.int (u : Int)) (.int 3) M = .ok (.bl false) M := fun M => by rcases (by omega : u = 3 ∨ u = 4 ∨ u = 5 ∨ u = 6 ∨ u = 7) with rfl | rfl | rfl | rfl | rfl <;> rfl
      have qe : ∀ (n : Nat) M, oEq false (.int (u : Int)) (.int (n : Int)) M = .ok (.bl (decide (u = n))) M := fun n M => by rw [eqI]; congr 2; rw [decide_eq_decide]; omega
      have q3' := qe 3
      have q4' := qe 4
      have q5' := qe 5
      have q3' : ∀ M, oEq false (.int (u : Int)) (.int 3) M = .ok (.bl (decide (u = 3))) M := q3'
      have q4' : ∀ M, oEq false (.int (u : Int)) (.int 4) M = .ok (.bl (decide (u = 4))) M := q4'
      have q5' : ∀ M, oEq false (.int (u : Int)) (.int 5) M = .ok (.bl (decide (u = 5))) M := q5'
      have ty := tyD_ct l
      by_cases z3 : u = 3
      · obtain ⟨c2, k2, s2⟩ := any (some (v : Int)) (some ((v : Int) + 2))
        obtain ⟨c3, k3, s3⟩ := any (some ((v : Int) + 2)) none
        rw [decide_eq_true z3] at q3'
        have a1 : ∀ M, oCatC (.ct c1) (.ct c2.reverse) M = .ok (.ct (c1 ++ c2.reverse)) M := fun M => oCatC_ct _ _ (by simp; omega)
        have a2 : ∀ M, oCatC (.ct (c1 ++ c2.reverse)) (.ct c3) M = .ok (.ct (c1 ++ c2.reverse ++ c3)) M := fun M => oCatC_ct _ _ (by simp; omega)
        refine ⟨.ct (c1 ++ c2.reverse ++ c3), M2, .inl ⟨_, rfl, by simp; omega, fun y hy => ?_⟩, f2, by omega, old12, runB_rt (N := 5) (?_ : B_law_other [some (.ref i), some (.ct l), none, none, none] M = _)⟩
        · rcases List.mem_append.mp hy with hy | hy
          · rcases List.mem_append.mp hy with hy | hy
            · exact k1.2 y hy
            · exact k2.2 y (List.mem_reverse.mp hy)
          · exact k3.2 y hy
        · obtain ⟨LD, hLD⟩ : ∃ X, D.ct l = X := ⟨_, rfl⟩
          rw [hLD] at ol s1 s2 s3 ty ⊢
          push_cast [B_law_other, ty, mPar_eq, ol, e1, e2, lt, mTupC_eq, q3', mSlC_eq, s1, s2, oRevC_ct, a1, s3, a2]
      · rw [decide_eq_false z3] at q3'
        by_cases z4 : u = 4
        · obtain ⟨c2, k2, s2⟩ := any (some (v : Int)) (some ((v : Int) + 1))
          obtain ⟨c3, k3, s3⟩ := any (some ((v : Int) + 1)) none
          rw [decide_eq_true z4] at q4'
          have a0 : ∀ M, oMulC (.ct c2) (.int 2) M = .ok (.ct (c2 ++ c2)) M := fun M => oMulC_two _ (by omega)
          have a1 : ∀ M, oCatC (.ct c1) (.ct (c2 ++ c2)) M = .ok (.ct (c1 ++ (c2 ++ c2))) M := fun M => oCatC_ct _ _ (by simp; omega)
          have a2 : ∀ M, oCatC (.ct (c1 ++ (c2 ++ c2))) (.ct c3) M = .ok (.ct (c1 ++ (c2 ++ c2) ++ c3)) M := fun M => oCatC_ct _ _ (by simp; omega)
          refine ⟨.ct (c1 ++ (c2 ++ c2) ++ c3), M2, .inl ⟨_, rfl, by simp; omega, fun y hy => ?_⟩, f2, by omega, old12, runB_rt (N := 5) (?_ : B_law_other [some (.ref i), some (.ct l), none, none, none] M = _)⟩
          · rcases List.mem_append.mp hy with hy | hy
            · rcases List.mem_append.mp hy with hy | hy
              · exact k1.2 y hy
              · rcases List.mem_append.mp hy with hy | hy <;> exact k2.2 y hy
            · exact k3.2 y hy
          · obtain ⟨LD, hLD⟩ : ∃ X, D.ct l = X := ⟨_, rfl⟩
            rw [hLD] at ol s1 s2 s3 ty ⊢
            push_cast [B_law_other, ty, mPar_eq, ol, e1, e2, lt, mTupC_eq, q3', q4', mSlC_eq, s1, s2, a0, a1, s3, a2]
        · rw [decide_eq_false z4] at q4'
          by_cases z5 : u = 5
          · obtain ⟨c3, k3, s3⟩ := any (some ((v : Int) + 1)) none
            rw [decide_eq_true z5] at q5'
            have a2 : ∀ M, oCatC (.ct c1) (.ct c3) M = .ok (.ct (c1 ++ c3)) M := fun M => oCatC_ct _ _ (by omega)
            refine ⟨.ct (c1 ++ c3), M2, .inl ⟨_, rfl, by simp; omega, fun y hy => ?_⟩, f2, by omega, old12, runB_rt (N := 5) (?_ : B_law_other [some (.ref i), some (.ct l), none, none, none] M = _)⟩
            · rcases List.mem_append.mp hy with hy | hy
              · exact k1.2 y hy
              · exact k3.2 y hy
            · obtain ⟨LD, hLD⟩ : ∃ X, D.ct l = X := ⟨_, rfl⟩
              rw [hLD] at ol s1 s3 ty ⊢
              push_cast [B_law_other, ty, mPar_eq, ol, e1, e2, lt, mTupC_eq, q3', q4', q5', mSlC_eq, s1, s3, a2]
          · rw [decide_eq_false z5] at q5'
            obtain ⟨t, M3, t1, f3, ml3, old3, e3⟩ := f2.draw 8 (by omega) (by omega)
            obtain ⟨x, xm, xi⟩ := opts_ix l (v := t) (by omega)
            refine ⟨x, M3, opts_ok hl hi x xm, f3, by omega, fun j hj => by rw [old3 j hj, old12 j hj], runB_rt (N := 5) (?_ : B_law_other [some (.ref i), some (.ct l), none, none, none] M = _)⟩
            have rv : ∀ M, oRevC (.ct l) M = .ok (.ct l.reverse) M := fun _ => rfl
            unfold opts at xi
            obtain ⟨RD, hRD⟩ : ∃ X, D.ct l.reverse = X := ⟨_, rfl⟩
            rw [hRD] at xi rv
            obtain ⟨LD, hLD⟩ : ∃ X, D.ct l = X := ⟨_, rfl⟩
            rw [hLD] at ol ty xi rv ⊢
            push_cast [B_law_other, ty, mPar_eq, ol, e1, e2, lt, mTupC_eq, q3', q4', q5', rv, e3, xi]
  · have nt : oIsi "tuple" d M = .ok (.bl false) M := by rcases hd with rfl | rfl | rfl | rfl <;> rfl
    exact ⟨d, M, .inr hd, h, rfl, fun _ _ => rfl, runB_rt (N := 5) (show B_law_other [some (.ref i), some d, none, none, none] M = _ by push_cast [B_law_other, nt])⟩
def bnd : Nat → Nat
  | 0 => 8
  | j + 1 => 4 * bnd j + 2
theorem bnd_le {j : Nat} (h : j ≤ 3) : bnd j ≤ 600 := by
  rcases (by omega : j = 0 ∨ j = 1 ∨ j = 2 ∨ j = 3) with rfl | rfl | rfl | rfl <;> decide
theorem bnd_lt {j : Nat} (h : j < 3) : bnd j ≤ 200 := by
  rcases (by omega : j = 0 ∨ j = 1 ∨ j = 2) with rfl | rfl | rfl <;> decide
theorem in3_turn {M : Mem} {i j : Nat} (hj : j < 3) {P : List D} (hP : ∀ p ∈ P, Thg 600 p) (h0 : M[0]? = some (.lst P)) (hl : P.length ≤ 10000) (hi : i ≠ 0) (fi : FI M i) {d : D} (hd : Thg (bnd j) d) (x0 x2 x4 x6 x7 : Option D) :
    ∃ d' M', L_law_0 [x0, some (.ref 0), x2, some (.ref i), x4, some d, x6, x7] M = .ok (.nx [x0, some (.ref 0), x2, some (.ref i), x4, some d', x6, x7]) M' ∧ Thg (bnd (j + 1)) d' ∧ FI M' i ∧ M'[0]? = some (.lst (P ++ [d'])) ∧ Thg 600 d' := by
  obtain ⟨d', M1, t1, f1, ml, old, e1⟩ := other_eq fi (bnd_lt hj) hd
  have g0 : M1[0]? = some (.lst P) := by rw [old 0 (Ne.symm hi)]; exact h0
  have ty := tyOk_at g0
  have ap : oAppend (.ref 0) [d'] M1 = .ok .non (M1.set 0 (.lst (P ++ [d']))) := oAppend_at g0 (by omega)
  have f2 : FI (M1.set 0 (.lst (P ++ [d']))) i := f1.same (List.getElem?_set_ne (Ne.symm hi))
  have g2 : (M1.set 0 (.lst (P ++ [d'])))[0]? = some (.lst (P ++ [d'])) := List.getElem?_set_self (lt_of_get g0)
  obtain ⟨M2, hM2⟩ : ∃ X, M1.set 0 (.lst (P ++ [d'])) = X := ⟨_, rfl⟩
  rw [hM2] at ap f2 g2
  refine ⟨d', M2, ?_, t1, f2, g2, t1.mono (bnd_le (j := j + 1) (by omega))⟩
  push_cast [L_law_0, e1, ty, ap]
theorem out3_turn (ns : List Int) (k : Nat) (hk : k < 100) {M : Mem} {P : List D} (hP : ∀ p ∈ P, Thg 600 p) (h0 : M[0]? = some (.lst P)) (hl : P.length ≤ 4 * k) (x3 x4 x5 x6 x7 : Option D) :
    ∃ (P' : List D) (M' : Mem) (y3 y4 y5 y6 : Option D), (∀ p ∈ P', Thg 600 p) ∧ P'.length ≤ 4 * (k + 1) ∧ M'[0]? = some (.lst P') ∧
      L_law_1 [some (.fz (intsD ns)), some (.ref 0), some (.int (k : Int)), x3, x4, x5, x6, x7] M = .ok (.nx [some (.fz (intsD ns)), some (.ref 0), some (.int (k : Int)), y3, y4, y5, y6, x7]) M' := by
  have m0 := lt_of_get h0
  obtain ⟨s, hs, e0⟩ := flow_eq ns k M (by omega)
  have f0 : FI (M ++ [s.c]) M.length := ⟨s, hs, by simp⟩
  obtain ⟨v, M1, v1, f1, ml1, old1, e1⟩ := f0.draw 8 (by omega) (by omega)
  obtain ⟨s1, hs1, hM1⟩ := f1
  obtain ⟨F, M2, nm, nd, le, pos, _, f2, e2⟩ := names_eq (FlAt.start hs1 hM1) (1 + v) (by omega)
  have e2 : g_law_names [.ref M.length, .int ((1 + v : Nat) : Int)] M1 = .ok (.lst (F.map .str)) M2 := e2
  have f2' : FI M2 M.length := by
    obtain ⟨s', a, b, _⟩ := f2.get
    exact ⟨s', a, b⟩
  have h2 : M2[0]? = some (.lst P) := by
    rw [f2.other (by omega), old1 0 (by omega), List.getElem?_append_left m0]; exact h0
  obtain ⟨S, hS⟩ : ∃ X, (F.mergeSort fun a b => decide (a ≤ b)) = X := ⟨_, rfl⟩
  have so : ∀ M, oSorted false [.lst (F.map .str)] M = .ok (.lst (S.map .str)) M := fun M => by rw [oSorted_strs rfl, mkL_f, hS]
  have sp : S.Perm F := by rw [← hS]; exact List.mergeSort_perm _ _
  have tS : ∀ M, oTupleC [.lst (S.map .str)] M = .ok (.ct (S.map .str)) M := fun _ => rfl
  have tg : Thg (bnd 0) (.ct (S.map .str)) := .inl ⟨_, rfl, by rw [List.length_map, sp.length_eq]; show F.length ≤ 8; omega, fun x hx => by
    obtain ⟨w, hw, rfl⟩ := List.mem_map.mp hx
    have := (isNm_iff.mp (nm w (sp.mem_iff.mp hw))).2.1
    exact itm_str (by omega)⟩
  obtain ⟨SD, hSD⟩ : ∃ X, D.ct (S.map .str) = X := ⟨_, rfl⟩
  rw [hSD] at tS tg
  obtain ⟨u, M3, u1, f3, ml3, old3, e3⟩ := f2'.draw 3 (by omega) (by omega)
  have h3 : M3[0]? = some (.lst P) := by rw [old3 0 (by omega)]; exact h2
  obtain ⟨env', M4, e4, d, y6, P', rfl, hP', hl', h4, f4, hd⟩ := forL_inv (g := gN 6) (body := L_law_0) (fun j env m => ∃ (d : D) (y6 : Option D) (P' : List D), env = [some (.fz (intsD ns)), some (.ref 0), some (.int (k : Int)), some (.ref M.length), some SD, some d, y6, x7] ∧ (∀ p ∈ P', Thg 600 p) ∧ P'.length ≤ 4 * k + j ∧ m[0]? = some (.lst P') ∧ FI m M.length ∧ Thg (bnd j) d) (rngItems 0 (1 + u)) 0 [some (.fz (intsD ns)), some (.ref 0), some (.int (k : Int)), some (.ref M.length), some SD, some SD, x6, x7] M3 ⟨SD, x6, P, rfl, hP, hl, h3, f3, tg⟩ (by
    rintro j dj env m hj ⟨d, y6, P', rfl, hP', hl', hm, fm, hd⟩
    obtain ⟨rfl, hju⟩ := rngItems_get hj
    rw [Nat.zero_add] at hl' hd ⊢
    obtain ⟨d', m', e, t', f', g', t6⟩ := in3_turn (j := j) (by omega) hP' hm (by omega) (by omega) fm hd (some (.fz (intsD ns))) (some (.int (k : Int))) (some SD) (some (.int ((0 : Int) + (j : Int)))) x7
    refine ⟨_, m', ?_, d', some (.int ((0 : Int) + (j : Int))), P' ++ [d'], rfl, fun p hp => ?_, by rw [List.length_append]; simp; omega, g', f', t'⟩
    · rw [gN_eq, R.bind_ok]; exact e
    · rcases List.mem_append.mp hp with h | h
      · exact hP' p h
      · rw [List.mem_singleton.mp h]; exact t6)
  rw [rngItems_len] at hl'
  have ty := tyOk_at h4
  have ap : oAppend (.ref 0) [SD] M4 = .ok .non (M4.set 0 (.lst (P' ++ [SD]))) := oAppend_at h4 (by omega)
  have g5 : (M4.set 0 (.lst (P' ++ [SD])))[0]? = some (.lst (P' ++ [SD])) := List.getElem?_set_self (lt_of_get h4)
  refine ⟨P' ++ [SD], M4.set 0 (.lst (P' ++ [SD])), some (.ref M.length), some SD, some d, y6, fun p hp => ?_, by rw [List.length_append]; simp; omega, g5, ?_⟩
  · rcases List.mem_append.mp hp with h | h
    · exact hP' p h
    · rw [List.mem_singleton.mp h]; exact tg.mono (bnd_le (by omega))
  have a1 : (1 : Int) + (v : Int) = ((1 + v : Nat) : Int) := by omega
  have a2 : (1 : Int) + (u : Int) = ((1 + u : Nat) : Int) := by omega
  have ro : rngOk ((1 + u : Nat) : Int) = true := rngOk_of (by omega) (by omega)
  have tc : ((1 + u : Nat) : Int).toNat = 1 + u := by omega
  obtain ⟨FD, hFD⟩ : ∃ X, D.lst (F.map .str) = X := ⟨_, rfl⟩
  rw [hFD] at e2 so
  obtain ⟨TD, hTD⟩ : ∃ X, D.lst (S.map .str) = X := ⟨_, rfl⟩
  rw [hTD] at so tS
  push_cast [L_law_1, e0, e1, a1, e2, so, tS, e3, a2, ro, tc, mFor_eq, e4, ty, ap]
theorem law_holds : ∀ ns : List Int, ns.length ≤ 63 → ∃ m, g_law [.fz (ns.map .int)] [] = .ok (.bl true) m := by
  intro ns hn
  show ∃ m, g_law [.fz (intsD ns)] [] = .ok (.bl true) m
  have il : (intsD ns).length = ns.length := by simp [intsD]
  have sl : ∀ M, oSl false (.fz (intsD ns)) none (some 10) M = .ok (.lst ((intsD ns).take 10)) M := fun M => by rw [oSl_fz]; congr 2; exact cutD_take _ 10
  have ol : ∀ M, oLen [.lst ((intsD ns).take 10)] M = .ok (.int ((min 10 ns.length : Nat) : Int)) M := fun M => by
    show R.ok (D.int (((intsD ns).take 10).length : Int)) M = _
    rw [List.length_take, il]
  obtain ⟨c, hc, hm2⟩ : ∃ c : Nat, c ≤ 10 ∧ (∀ M, oMax [.int 2, .int ((min 10 ns.length : Nat) : Int)] M = .ok (.int (c : Int)) M) := by
    refine ⟨max 2 (min 10 ns.length), by omega, fun M => ?_⟩
    rw [oMax_int]; congr 2; split <;> omega
  obtain ⟨env', M1, e1, x2, x3, x4, x5, x6, P, rfl, hP, hl, h0⟩ := forL_inv (g := gN 2) (body := L_law_1) (fun j env m => ∃ (x2 x3 x4 x5 x6 : Option D) (P : List D), env = [some (.fz (intsD ns)), some (.ref 0), x2, x3, x4, x5, x6, none] ∧ (∀ p ∈ P, Thg 600 p) ∧ P.length ≤ 4 * j ∧ m[0]? = some (.lst P)) (rngItems 0 c) 0 [some (.fz (intsD ns)), some (.ref 0), none, none, none, none, none, none] [.lst []] ⟨_, _, _, _, _, [], rfl, fun _ h => (by cases h), Nat.zero_le _, rfl⟩ (by
    rintro j d env m hj ⟨x2, x3, x4, x5, x6, P, rfl, hP, hl, hm⟩
    obtain ⟨rfl, hjc⟩ := rngItems_get hj
    rw [Nat.zero_add] at hl ⊢
    obtain ⟨P', m', y3, y4, y5, y6, a1, a2, a3, e⟩ := out3_turn ns j (by omega) hP hm hl x3 x4 x5 x6 none
    refine ⟨_, m', ?_, some (.int (j : Int)), y3, y4, y5, y6, P', rfl, a1, a2, a3⟩
    rw [gN_eq, R.bind_ok, show (0 : Int) + (j : Int) = (j : Int) by omega]
    exact e)
  rw [rngItems_len] at hl
  have s2 : oSl false (.ref 0) none (some 2) M1 = .ok (.lst (P.take 2)) M1 := by
    simp only [oSl, lstOf_at h0]
    rw [mkL_f]
    congr 2
    exact cutD_take _ 2
  have ad : oAdd false (.ref 0) (.lst (P.take 2)) M1 = .ok (.lst (P ++ P.take 2)) M1 := by
    show oAddL false (.ref 0) (.lst (P.take 2)) M1 = _
    simp only [oAddL, Fn.ownOf, h0]
    rw [if_pos (by rw [List.length_take]; omega), mkL_f]
  have hQ : ∀ p ∈ P ++ P.take 2, Thg 600 p := fun p hp => by
    rcases List.mem_append.mp hp with h | h
    · exact hP p h
    · exact hP p (List.mem_of_mem_take h)
  have c2 : compL (fun _ => True) (gN 7) tsYes C_law_2 [some (.fz (intsD ns)), some (.ref 0), x2, x3, x4, x5, x6, none] (P ++ P.take 2) M1 = .ok ((P ++ P.take 2).map fun _ => D.bl true) M1 := by
    have := compL_m (P := fun _ => True) (M := M1) trivial (g := gN 7) (f := C_law_2) (env := [some (.fz (intsD ns)), some (.ref 0), x2, x3, x4, x5, x6, none]) (fun d : D => d) (fun _ => .bl true) (P ++ P.take 2) fun d hm => ⟨[some (.fz (intsD ns)), some (.ref 0), x2, x3, x4, x5, x6, some d], rfl, by
      have e := right_eq (B := 600) (by omega) (hQ d hm) M1
      push_cast [C_law_2, e]⟩
    rw [List.map_id'] at this
    exact this
  have al : oAll [.lst ((P ++ P.take 2).map fun _ => D.bl true)] M1 = .ok (.bl true) M1 := by
    rw [oAll_map (fun _ => true)]; simp
  refine ⟨M1, runB_rt (N := 8) (?_ : B_law [some (.fz (intsD ns)), none, none, none, none, none, none, none] [] = _)⟩
  have ro : rngOk (c : Int) = true := rngOk_of (by omega) (by omega)
  have tc : (c : Int).toNat = c := by omega
  have ll : (P ++ P.take 2).length < 16777216 := by rw [List.length_append, List.length_take]; omega
  have wp : wipeE [some (.fz (intsD ns)), some (.ref 0), x2, x3, x4, x5, x6, none] [7] = [some (.fz (intsD ns)), some (.ref 0), x2, x3, x4, x5, x6, none] := rfl
  have ss : srcOf M1 (.lst (P ++ P.take 2)) = some ⟨P ++ P.take 2, fun _ => True⟩ := rfl
  obtain ⟨QD, hQD⟩ : ∃ X, P ++ P.take 2 = X := ⟨_, rfl⟩
  rw [hQD] at ad c2 al ll ss
  push_cast [B_law, sl, ol, hm2, ro, tc, mFor_eq, e1, s2, ad, mLc_eq, ss, if_pos ll, wp, c2, al]
end K03
set_option pp.deepTerms false
set_option pp.maxSteps 400
set_option Elab.async false
set_option linter.all false
set_option maxRecDepth 100000
set_option maxHeartbeats 4000000
namespace K03
open PySem PySem.Spec PyProof.Rows L2 Fn
/-- what the top has written -/
structure Tx (K : PySem.W.Frag) (mg : Str → Option Value) (cl : Nat → Addr) where
  a_is_name : Addr
  d_is_name : FuncData
  f_is_name : Fun K "is_name" "is_name" s_is_name a_is_name d_is_name
  m_is_name : mg "is_name" = some (.ref a_is_name)
  b_is_name : Binds K d_is_name ["text"] []
  a_law_cell : Addr
  d_law_cell : FuncData
  f_law_cell : Fun K "_law_cell" "_law_cell" s_law_cell a_law_cell d_law_cell
  m_law_cell : mg "_law_cell" = some (.ref a_law_cell)
  b_law_cell : Binds K d_law_cell ["_law_script", "_law_k"] []
  a_law_draw : Addr
  d_law_draw : FuncData
  f_law_draw : Fun K "_law_draw" "_law_draw" s_law_draw a_law_draw d_law_draw
  m_law_draw : mg "_law_draw" = some (.ref a_law_draw)
  b_law_draw : Binds K d_law_draw ["_law_flow_here", "_law_many"] []
  a_law_is_name : Addr
  d_law_is_name : FuncData
  f_law_is_name : Fun K "_law_is_name" "_law_is_name" s_law_is_name a_law_is_name d_law_is_name
  m_law_is_name : mg "_law_is_name" = some (.ref a_law_is_name)
  b_law_is_name : Binds K d_law_is_name ["_law_thing"] []
  a_is_rights : Addr
  d_is_rights : FuncData
  f_is_rights : Fun K "is_rights" "is_rights" s_is_rights a_is_rights d_is_rights
  m_is_rights : mg "is_rights" = some (.ref a_is_rights)
  b_is_rights : Binds K d_is_rights ["thing"] []
  a_law_flow : Addr
  d_law_flow : FuncData
  f_law_flow : Fun K "_law_flow" "_law_flow" s_law_flow a_law_flow d_law_flow
  m_law_flow : mg "_law_flow" = some (.ref a_law_flow)
  b_law_flow : Binds K d_law_flow ["_law_script", "_law_k"] []
  a_law_names : Addr
  d_law_names : FuncData
  f_law_names : Fun K "_law_names" "_law_names" s_law_names a_law_names d_law_names
  m_law_names : mg "_law_names" = some (.ref a_law_names)
  b_law_names : Binds K d_law_names ["_law_flow_here", "_law_many"] []
  a_law_due : Addr
  d_law_due : FuncData
  f_law_due : Fun K "_law_due" "_law_due" s_law_due a_law_due d_law_due
  m_law_due : mg "_law_due" = some (.ref a_law_due)
  b_law_due : Binds K d_law_due ["_law_thing"] []
  a_law_other : Addr
  d_law_other : FuncData
  f_law_other : Fun K "_law_other" "_law_other" s_law_other a_law_other d_law_other
  m_law_other : mg "_law_other" = some (.ref a_law_other)
  b_law_other : Binds K d_law_other ["_law_flow_here", "_law_some"] []
  a_law_right : Addr
  d_law_right : FuncData
  f_law_right : Fun K "_law_right" "_law_right" s_law_right a_law_right d_law_right
  m_law_right : mg "_law_right" = some (.ref a_law_right)
  b_law_right : Binds K d_law_right ["_law_thing"] []
  a_law : Addr
  d_law : FuncData
  f_law : Fun K "law" "law" s_law a_law d_law
  m_law : mg "law" = some (.ref a_law)
  b_law : Binds K d_law ["_law_script"] []
  n_all : mg "all" = none
  n_bool : mg "bool" = none
  n_isinstance : mg "isinstance" = none
  n_len : mg "len" = none
  n_list : mg "list" = none
  n_max : mg "max" = none
  n_range : mg "range" = none
  n_sorted : mg "sorted" = none
  n_str : mg "str" = none
  n_tuple : mg "tuple" = none
  v_LETTERS : ∃ u, mg "LETTERS" = some u ∧ ∃ t, u = .str (l2s [97, 98, 99, 100, 101, 102, 103, 104, 105, 106, 107, 108, 109, 110, 111, 112, 113, 114, 115, 116, 117, 118, 119, 120, 121, 122]) t
  v_LONGEST : ∃ u, mg "LONGEST" = some u ∧ ∃ t, u = .int 6 t
section
variable {P : Program} {w : World} {K : PySem.W.Frag} {mg : Str → Option Value} {base : Heap} {cl : Nat → Addr}
theorem Tx.k_LETTERS (T : Tx K mg cl) {X : Cx} {E : XK} {pos : Pos} (hg : Gl X "LETTERS" := by rfl) (hm : X.mg = mg := by rfl) : PE X (.Name "LETTERS" pos) (tE ⟨X.K, cl⟩ E (mC c_LETTERS)) := by
  obtain ⟨u, h, t, e⟩ := T.v_LETTERS
  subst e
  exact sn_glob (v := .str (l2s [97, 98, 99, 100, 101, 102, 103, 104, 105, 106, 107, 108, 109, 110, 111, 112, 113, 114, 115, 116, 117, 118, 119, 120, 121, 122])) hg (by rw [hm]; exact h) ⟨t, rfl⟩ (fun _ _ => rfl)
theorem Tx.k_LONGEST (T : Tx K mg cl) {X : Cx} {E : XK} {pos : Pos} (hg : Gl X "LONGEST" := by rfl) (hm : X.mg = mg := by rfl) : PE X (.Name "LONGEST" pos) (tE ⟨X.K, cl⟩ E (mC c_LONGEST)) := by
  obtain ⟨u, h, t, e⟩ := T.v_LONGEST
  subst e
  exact sn_glob (v := .int 6) hg (by rw [hm]; exact h) ⟨t, rfl⟩ (fun _ _ => rfl)
theorem ok_is_name (T : Tx K mg cl) : FnOk P w K mg base CX0 1 T.a_is_name T.d_is_name ["text"] (spOf ⟨K, cl⟩ 1 g_is_name) := by
  refine fn_def (B := B_is_name) T.f_is_name sc_is_name (fun cdv A outer s H E hr => ?_) (fun ds M _ => ref_run B_is_name 2 ds M)
  have hu := huE hr
  have hu1 := hu1E hr
  exact (sb_one (ss_ret (sn_and (sn_chain (op_le.or op_le_str) op2_ord (op_le.or op_le_str) op2_ord sn_int (sn_callB call_lenA fn_len rfl T.n_len PySem.boot_len (sa_cons (sn_var (pv 0)) sa_nil)) (T.k_LONGEST)) (sn_one (sn_callB (cr_all rfl) fn_allany rfl T.n_all (by decide +kernel) (sa_cons (sn_lc false (own := [("sign", 1)]) rfl sc_is_name.nd (si_str (sn_var (pv 0))) (blkOk_by (N := ["text", "sign"]) (sc := defScope s_is_name) (by decide +kernel)) (fun _ _ _ _ _ => (sg_name (pg_name (i := 1) sc_is_name.nd rfl (.inl rfl)) (by decide))) (fun _ _ _ _ _ => sts_nil) (fun _ _ _ _ _ => (sn_inS (sn_var (pv 1)) (T.k_LETTERS)))) sa_nil))))))
theorem ok_law_cell (T : Tx K mg cl) : FnOk P w K mg base CX0 1 T.a_law_cell T.d_law_cell ["_law_script", "_law_k"] (spOf ⟨K, cl⟩ 2 g_law_cell) := by
  refine fn_def (B := B_law_cell) T.f_law_cell sc_law_cell (fun cdv A outer s H E hr => ?_) (fun ds M _ => ref_run B_law_cell 3 ds M)
  have hu := huE hr
  have hu1 := hu1E hr
  exact (sb_cons (ss_if (st_cmp (op_lt.or op_lt_str) op2_ord (nomark _) (sn_var (pv 1)) (sn_callB call_lenA fn_len rfl T.n_len PySem.boot_len (sa_cons (sn_var (pv 0)) sa_nil))) (sb_one (ss_ret (sn_ix (sn_var (pv 0)) (sn_var (pv 1))))) sb_nil) (sb_cons (ss_set (i := 2) (sn_add false (sn_mul false (sn_var (pv 1)) sn_int) sn_int) sc_law_cell.nd rfl (.inl rfl)) (sb_cons (ss_if (st_cmp (op_gt.or op_gt_str) op2_ord (nomark _) (sn_callB call_lenA fn_len rfl T.n_len PySem.boot_len (sa_cons (sn_var (pv 0)) sa_nil)) sn_int) (sb_one (ss_set (i := 2) (sn_add false (sn_mul false (sn_mod (sn_ix (sn_var (pv 0)) (sn_mod (sn_mul false (sn_var (pv 1)) sn_int) (sn_callB call_lenA fn_len rfl T.n_len PySem.boot_len (sa_cons (sn_var (pv 0)) sa_nil)))) sn_int) sn_int) (sn_mul false (sn_var (pv 1)) sn_int)) sc_law_cell.nd rfl (.inl rfl))) sb_nil) (sb_one (ss_ret (sn_mul false (sn_mod (sn_var (pv 2)) sn_int) sn_int))))))
theorem ok_law_draw (T : Tx K mg cl) : FnOk P w K mg base CX0 1 T.a_law_draw T.d_law_draw ["_law_flow_here", "_law_many"] (spOf ⟨K, cl⟩ 2 g_law_draw) := by
  refine fn_def (B := B_law_draw) T.f_law_draw sc_law_draw (fun cdv A outer s H E hr => ?_) (fun ds M _ => ref_run B_law_draw 4 ds M)
  have hu := huE hr
  have hu1 := hu1E hr
  exact (sb_cons (ss_if (st_cmp (op_gt.or op_gt_str) op2_ord (nomark _) (sn_ix (sn_var (pv 0)) sn_int) sn_int) (sb_cons (ss_set (i := 2) (sn_mod (sn_ix (sn_var (pv 0)) sn_int) (sn_var (pv 1))) sc_law_draw.nd rfl (.inl rfl)) (sb_cons (ss_asg (sl := []) (sn_div (sn_ix (sn_var (pv 0)) sn_int) (sn_var (pv 1))) (sg_ix (sn_var (pv 0)) sn_int)) (sb_one (ss_ret (sn_var (pv 2)))))) sb_nil) (sb_cons (ss_asg (sl := []) (sn_add false (sn_ix (sn_var (pv 0)) sn_int) sn_int) (sg_ix (sn_var (pv 0)) sn_int)) (sb_cons (ss_set (i := 3) (sn_mod (sn_add false (sn_add false (sn_mul false (sn_ix (sn_var (pv 0)) sn_int) (sn_add false sn_int (sn_mul false sn_int (sn_ix (sn_var (pv 0)) sn_int)))) (sn_mul false sn_int (sn_ix (sn_var (pv 0)) sn_int))) sn_int) sn_int) sc_law_draw.nd rfl (.inl rfl)) (sb_cons (ss_set (i := 3) (sn_mod (sn_mul false (sn_var (pv 3)) (sn_var (pv 3))) sn_int) sc_law_draw.nd rfl (.inl rfl)) (sb_one (ss_ret (sn_mod (sn_div (sn_mod (sn_mul false (sn_add false (sn_var (pv 3)) sn_int) (sn_add false (sn_var (pv 3)) sn_int)) sn_int) sn_int) (sn_var (pv 1)))))))))
theorem ok_law_is_name (T : Tx K mg cl) : FnOk P w K mg base CX0 1 T.a_law_is_name T.d_law_is_name ["_law_thing"] (spOf ⟨K, cl⟩ 1 g_law_is_name) := by
  refine fn_def (B := B_law_is_name) T.f_law_is_name sc_law_is_name (fun cdv A outer s H E hr => ?_) (fun ds M _ => ref_run B_law_is_name 2 ds M)
  have hu := huE hr
  have hu1 := hu1E hr
  exact (sb_cons (ss_if (PW.pt (sw_or (st_not (st_val (sn_isi (T := "str") rfl T.n_isinstance rfl T.n_str (by decide +kernel) (by decide) (by decide) (by decide) (sn_var (pv 0))))) (sw_or1 (st_not (st_chain (op_lt.or op_lt_str) op2_ord (op_lt.or op_lt_str) op2_ord sn_int (sn_callB call_lenA fn_len rfl T.n_len PySem.boot_len (sa_cons (sn_var (pv 0)) sa_nil)) sn_int))))) (sb_one (ss_ret sn_bl)) sb_nil) (sb_one (ss_ret (sn_eq hu (sn_lc false (own := [("_law_sign", 1)]) rfl sc_law_is_name.nd (si_str (sn_var (pv 0))) (blkOk_by (N := ["_law_thing", "_law_sign"]) (sc := defScope s_law_is_name) (by decide +kernel)) (fun _ _ _ _ _ => (sg_name (pg_name (i := 1) sc_law_is_name.nd rfl (.inl rfl)) (by decide))) (fun _ _ _ _ _ => (sts_one (st_cmp op_notIn_sign op2_notInS rfl (sn_var (pv 1)) (sn_strL (by decide +kernel))))) (fun _ _ _ _ _ => (sn_var (pv 1)))) (sn_lst false sa_nil)))))
theorem ok_is_rights (T : Tx K mg cl) : FnOk P w K mg base CX0 2 T.a_is_rights T.d_is_rights ["thing"] (spOf ⟨K, cl⟩ 1 g_is_rights) := by
  refine fn_def (B := B_is_rights) T.f_is_rights sc_is_rights (fun cdv A outer s H E hr => ?_) (fun ds M _ => ref_run B_is_rights 4 ds M)
  have hu := huE hr
  have hu1 := hu1E hr
  exact (sb_cons (ss_if (PW.pt (sw_or (st_not (st_val (sn_isi (T := "tuple") rfl T.n_isinstance rfl T.n_tuple (by decide +kernel) (by decide) (by decide) (by decide) (sn_var (pv 0))))) (sw_or1 (st_cmp (op_eqP hu) op2_eq (nomark _) (sn_callB call_lenA fn_len rfl T.n_len PySem.boot_len (sa_cons (sn_var (pv 0)) sa_nil)) sn_int)))) (sb_one (ss_ret sn_bl)) sb_nil) (sb_cons (ss_if (st_not (st_val (sn_callB (cr_all rfl) fn_allany rfl T.n_all (by decide +kernel) (sa_cons (sn_lc false (own := [("right", 1)]) rfl sc_is_rights.nd (si_seq (sn_var (pv 0))) (blkOk_by (N := ["thing", "right", "first", "rest"]) (sc := defScope s_is_rights) (by decide +kernel)) (fun _ _ _ _ _ => (sg_name (pg_name (i := 1) sc_is_rights.nd rfl (.inl rfl)) (by decide))) (fun _ _ _ _ _ => sts_nil) (fun _ _ _ _ _ => (sn_and (sn_isi (T := "str") rfl T.n_isinstance rfl T.n_str (by decide +kernel) (by decide) (by decide) (by decide) (sn_var (pv 1))) (sn_one (sn_call (ok_is_name T) (hr.mono (by decide)) rfl T.m_is_name T.f_is_name.kp T.b_is_name .nil closed_nil passA (sa_cons (sn_var (pv 1)) sa_nil)))))) sa_nil)))) (sb_one (ss_ret sn_bl)) sb_nil) (sb_cons (ss_asg (sl := [2, 3]) (sn_var (pv 0)) (sg_star (i := 1) rfl (sgs_cons (sg_name (pg_name (i := 2) sc_is_rights.nd rfl (.inl rfl)) (by decide)) (sgs_star (sg_name (pg_name (i := 3) sc_is_rights.nd rfl (.inl rfl)) (by decide)) sgs_nil)) (by decide))) (sb_cons (ss_for (sl := [1]) PassesOwn.never rfl (si_seq (sn_var (pv 3))) (sg_name (pg_name (i := 1) sc_is_rights.nd rfl (.inl rfl)) (by decide)) (sb_cons (ss_if (st_cmp (op_le.or op_le_str) op2_ord (nomark _) (sn_var (pv 1)) (sn_var (pv 2))) (sb_one (ss_ret sn_bl)) sb_nil) (sb_one (ss_set (i := 2) (sn_var (pv 1)) sc_is_rights.nd rfl (.inl rfl))))) (sb_one (ss_ret sn_bl))))))
theorem ok_law_flow (T : Tx K mg cl) : FnOk P w K mg base CX0 2 T.a_law_flow T.d_law_flow ["_law_script", "_law_k"] (spOf ⟨K, cl⟩ 2 g_law_flow) := by
  refine fn_def (B := B_law_flow) T.f_law_flow sc_law_flow (fun cdv A outer s H E hr => ?_) (fun ds M _ => ref_run B_law_flow 4 ds M)
  have hu := huE hr
  have hu1 := hu1E hr
  exact (sb_cons (ss_set (i := 2) (sn_call (ok_law_cell T) (hr.mono (by decide)) rfl T.m_law_cell T.f_law_cell.kp T.b_law_cell .nil closed_nil passA (sa_cons (sn_var (pv 0)) (sa_cons (sn_var (pv 1)) sa_nil))) sc_law_flow.nd rfl (.inl rfl)) (sb_cons (ss_set (i := 3) sn_int sc_law_flow.nd rfl (.inl rfl)) (sb_cons (ss_if (st_cmp (op_ge.or op_ge_str) op2_ord (nomark _) (sn_var (pv 2)) (sn_pow sn_int sn_int)) (sb_one (ss_set (i := 3) (sn_var (pv 2)) sc_law_flow.nd rfl (.inl rfl))) sb_nil) (sb_one (ss_ret (sn_lst true (sa_cons (sn_var (pv 3)) (sa_cons sn_int (sa_cons (sn_add false (sn_mod (sn_var (pv 2)) sn_int) (sn_mul false sn_int (sn_var (pv 1)))) sa_nil)))))))))
theorem ok_law_names (T : Tx K mg cl) : FnOk P w K mg base CX0 2 T.a_law_names T.d_law_names ["_law_flow_here", "_law_many"] (spOf ⟨K, cl⟩ 2 g_law_names) := by
  refine fn_def (B := B_law_names) T.f_law_names sc_law_names (fun cdv A outer s H E hr => ?_) (fun ds M _ => ref_gc B_law_names 11 ds M)
  have hu := huE hr
  have hu1 := hu1E hr
  exact (sb_cons (ss_set (i := 2) (sn_strL (by decide +kernel)) sc_law_names.nd rfl (.inr rfl)) (sb_cons (ss_set (i := 3) (sn_meth PySem.F.plainAttrs_str PySem.F.slot_str_join PySem.F.type_str_join mt_join mt1_join (sn_strL (by decide +kernel)) (sa_cons (sn_lc false (own := [("_law_j", 4)]) rfl sc_law_names.nd (si_range1 rfl T.n_range (sa_cons (sn_call (ok_law_draw T) (hr.mono (by decide)) rfl T.m_law_draw T.f_law_draw.kp T.b_law_draw .nil closed_nil passA (sa_cons (sn_var (pv 0)) (sa_cons sn_int sa_nil))) sa_nil)) (blkOk_by (N := ["_law_flow_here", "_law_many", "_law_some", "_law_word", "_law_j", "_law_at", "_law_first", "_law_longer", "_law_found", "_law_k", "_law_name"]) (sc := defScope s_law_names) (by decide +kernel)) (fun _ _ _ _ _ => (sg_name (pg_name (i := 4) sc_law_names.nd rfl (.inl rfl)) (by decide))) (fun _ _ _ _ _ => sts_nil) (fun _ _ _ _ _ => (sn_ix (sn_var (pv 2)) (sn_call (ok_law_draw T) (hr.mono (by decide)) rfl T.m_law_draw T.f_law_draw.kp T.b_law_draw .nil closed_nil passA (sa_cons (sn_var (pv 0)) (sa_cons sn_int sa_nil)))))) sa_nil)) sc_law_names.nd rfl (.inl rfl)) (sb_cons (ss_par3 (i := 5) (j := 6) (l := 7) rfl sc_law_names.nd rfl rfl rfl (by decide) (by decide) (by decide) rfl rfl rfl (sa_cons (sn_call (ok_law_draw T) (hr.mono (by decide)) rfl T.m_law_draw T.f_law_draw.kp T.b_law_draw .nil closed_nil passA (sa_cons (sn_var (pv 0)) (sa_cons (sn_add false (sn_callB call_lenA fn_len rfl T.n_len PySem.boot_len (sa_cons (sn_var (pv 3)) sa_nil)) sn_int) sa_nil))) (sa_cons (sn_call (ok_law_draw T) (hr.mono (by decide)) rfl T.m_law_draw T.f_law_draw.kp T.b_law_draw .nil closed_nil passA (sa_cons (sn_var (pv 0)) (sa_cons sn_int sa_nil))) (sa_cons (sn_call (ok_law_draw T) (hr.mono (by decide)) rfl T.m_law_draw T.f_law_draw.kp T.b_law_draw .nil closed_nil passA (sa_cons (sn_var (pv 0)) (sa_cons sn_int sa_nil))) sa_nil))) (by rfl)) (sb_cons (ss_set (i := 8) (sn_lst true sa_nil) sc_law_names.nd rfl (.inl rfl)) (sb_cons (ss_for (sl := [9]) PassesOwn.never rfl (si_range1 rfl T.n_range (sa_cons sn_int sa_nil)) (sg_name (pg_name (i := 9) sc_law_names.nd rfl (.inl rfl)) (by decide)) (sb_cons (ss_set (i := 10) (sn_add false (sn_add false (sn_sl false (sn_var (pv 3)) sp_none (sp_some (sn_var (pv 5)))) (sn_ix (sn_var (pv 2)) (sn_mod (sn_add false (sn_var (pv 6)) (sn_mul false sn_int (sn_var (pv 9)))) sn_int))) (sn_sl false (sn_var (pv 3)) (sp_some (sn_var (pv 5))) sp_none)) sc_law_names.nd rfl (.inl rfl)) (sb_cons (ss_if (PW.pt (sw_and (st_cmp (op_gt.or op_gt_str) op2_ord (nomark _) (sn_mul false (sn_var (pv 7)) (sn_mod (sn_var (pv 9)) sn_int)) sn_int) (sw_and (st_cmp (op_lt.or op_lt_str) op2_ord (nomark _) (sn_callB call_lenA fn_len rfl T.n_len PySem.boot_len (sa_cons (sn_var (pv 10)) sa_nil)) sn_int) (sw_and1 (st_cmp (op_gt.or op_gt_str) op2_ord (nomark _) (sn_callB call_lenA fn_len rfl T.n_len PySem.boot_len (sa_cons (sn_var (pv 8)) sa_nil)) sn_int))))) (sb_one (ss_set (i := 10) (sn_add false (sn_sl false (sn_ix (sn_var (pv 8)) (sn_neg sn_int)) sp_none (sp_some (sn_callB call_lenA fn_len rfl T.n_len PySem.boot_len (sa_cons (sn_var (pv 10)) sa_nil)))) (sn_ix (sn_var (pv 2)) (sn_mod (sn_add false (sn_var (pv 6)) (sn_mul false sn_int (sn_var (pv 9)))) sn_int))) sc_law_names.nd rfl (.inl rfl))) sb_nil) (sb_one (ss_if (PW.pt (sw_and (st_cmp op_notIn_seq op2_inF rfl (sn_var (pv 10)) (sn_var (pv 8))) (sw_and1 (st_cmp (op_lt.or op_lt_str) op2_ord (nomark _) (sn_callB call_lenA fn_len rfl T.n_len PySem.boot_len (sa_cons (sn_var (pv 8)) sa_nil)) (sn_var (pv 1)))))) (sb_one (ss_expr (sn_meth PySem.F.plainAttrs_list PySem.F.slot_list_append PySem.F.type_list_append mt_append mt1_append (sn_var (pv 8)) (sa_cons (sn_var (pv 10)) sa_nil)))) sb_nil))))) (sb_one (ss_ret (sn_var (pv 8)))))))))
theorem ok_law_due (T : Tx K mg cl) : FnOk P w K mg base CX0 2 T.a_law_due T.d_law_due ["_law_thing"] (spOf ⟨K, cl⟩ 1 g_law_due) := by
  refine fn_def (B := B_law_due) T.f_law_due sc_law_due (fun cdv A outer s H E hr => ?_) (fun ds M _ => ref_run B_law_due 2 ds M)
  have hu := huE hr
  have hu1 := hu1E hr
  exact (sb_cons (ss_if (PW.pt (sw_or (st_not (st_val (sn_isi (T := "tuple") rfl T.n_isinstance rfl T.n_tuple (by decide +kernel) (by decide) (by decide) (by decide) (sn_var (pv 0))))) (sw_or (st_cmp (op_eqP hu) op2_eq (nomark _) (sn_callB call_lenA fn_len rfl T.n_len PySem.boot_len (sa_cons (sn_var (pv 0)) sa_nil)) sn_int) (sw_or1 (st_not (st_val (sn_callB (cr_all rfl) fn_allany rfl T.n_all (by decide +kernel) (sa_cons (sn_lc false (own := [("_law_one", 1)]) rfl sc_law_due.nd (si_seq (sn_var (pv 0))) (blkOk_by (N := ["_law_thing", "_law_one"]) (sc := defScope s_law_due) (by decide +kernel)) (fun _ _ _ _ _ => (sg_name (pg_name (i := 1) sc_law_due.nd rfl (.inl rfl)) (by decide))) (fun _ _ _ _ _ => sts_nil) (fun _ _ _ _ _ => (sn_call (ok_law_is_name T) (hr.mono (by decide)) rfl T.m_law_is_name T.f_law_is_name.kp T.b_law_is_name .nil closed_nil passA (sa_cons (sn_var (pv 1)) sa_nil)))) sa_nil)))))))) (sb_one (ss_ret sn_bl)) sb_nil) (sb_one (ss_ret (sn_and (sn_eq hu (sn_callTy call_list_of (fn_list (c := false)) rfl T.n_list (by decide +kernel) (sa_cons (sn_var (pv 0)) sa_nil)) (sn_callB (cr_sortTC hu) (fn_sortTC (c := false)) rfl T.n_sorted (by decide +kernel) (sa_cons (sn_var (pv 0)) sa_nil))) (sn_one (sn_eq hu (sn_callB call_lenA fn_len rfl T.n_len PySem.boot_len (sa_cons (sn_var (pv 0)) sa_nil)) (sn_callB call_lenA fn_len rfl T.n_len PySem.boot_len (sa_cons (sn_lc false (own := [("_law_one", 1)]) rfl sc_law_due.nd (si_seq (sn_var (pv 0))) (blkOk_by (N := ["_law_thing", "_law_one"]) (sc := defScope s_law_due) (by decide +kernel)) (fun _ _ _ _ _ => (sg_name (pg_name (i := 1) sc_law_due.nd rfl (.inl rfl)) (by decide))) (fun _ _ _ _ _ => (sts_one (st_cmp (op_eqP hu) op2_eq (nomark _) (sn_cntC hu (sn_var (pv 0)) (sa_cons (sn_var (pv 1)) sa_nil)) sn_int))) (fun _ _ _ _ _ => (sn_var (pv 1)))) sa_nil))))))))
theorem ok_law_other (T : Tx K mg cl) : FnOk P w K mg base CX0 2 T.a_law_other T.d_law_other ["_law_flow_here", "_law_some"] (spOf ⟨K, cl⟩ 2 g_law_other) := by
  refine fn_def (B := B_law_other) T.f_law_other sc_law_other (fun cdv A outer s H E hr => ?_) (fun ds M _ => ref_run B_law_other 5 ds M)
  have hu := huE hr
  have hu1 := hu1E hr
  exact (sb_cons (ss_if (st_not (st_val (sn_isi (T := "tuple") rfl T.n_isinstance rfl T.n_tuple (by decide +kernel) (by decide) (by decide) (by decide) (sn_var (pv 1))))) (sb_one (ss_ret (sn_var (pv 1)))) sb_nil) (sb_cons (ss_par (i := 2) (j := 3) rfl sc_law_other.nd rfl rfl (by decide) rfl rfl (sa_cons (sn_call (ok_law_draw T) (hr.mono (by decide)) rfl T.m_law_draw T.f_law_draw.kp T.b_law_draw .nil closed_nil passA (sa_cons (sn_var (pv 0)) (sa_cons (sn_add false (sn_callB call_lenA fn_len rfl T.n_len PySem.boot_len (sa_cons (sn_var (pv 1)) sa_nil)) sn_int) sa_nil))) (sa_cons (sn_call (ok_law_draw T) (hr.mono (by decide)) rfl T.m_law_draw T.f_law_draw.kp T.b_law_draw .nil closed_nil passA (sa_cons (sn_var (pv 0)) (sa_cons sn_int sa_nil))) sa_nil)) (by rfl)) (sb_cons (ss_set (i := 4) (sn_lst false (sa_cons (sn_strL (by decide +kernel)) (sa_cons (sn_strL (by decide +kernel)) (sa_cons (sn_strL (by decide +kernel)) (sa_cons (sn_strL (by decide +kernel)) (sa_cons sn_int (sa_cons sn_int (sa_cons sn_bl (sa_cons sn_non (sa_cons (sn_tup (sa_cons (sn_strL (by decide +kernel)) sa_nil)) (sa_cons (sn_strL (by decide +kernel)) (sa_cons (sn_strL (by decide +kernel)) (sa_cons (sn_strL (by decide +kernel)) (sa_cons (sn_tupC sa_nil) (sa_cons (sn_strL (by decide +kernel)) sa_nil))))))))))))))) sc_law_other.nd rfl (.inl rfl)) (sb_cons (ss_if (st_cmp (op_lt.or op_lt_str) op2_ord (nomark _) (sn_var (pv 3)) sn_int) (sb_one (ss_ret (sn_catC (sn_catC (sn_slC (sn_var (pv 1)) sp_none (sp_some (sn_var (pv 2)))) (sn_tupC (sa_cons (sn_ix (sn_var (pv 4)) (sn_call (ok_law_draw T) (hr.mono (by decide)) rfl T.m_law_draw T.f_law_draw.kp T.b_law_draw .nil closed_nil passA (sa_cons (sn_var (pv 0)) (sa_cons sn_int sa_nil)))) sa_nil))) (sn_slC (sn_var (pv 1)) (sp_some (sn_add false (sn_var (pv 2)) (sn_mod (sn_var (pv 3)) sn_int))) sp_none)))) sb_nil) (sb_cons (ss_if (st_cmp (op_eqP hu) op2_eq (nomark _) (sn_var (pv 3)) sn_int) (sb_one (ss_ret (sn_catC (sn_catC (sn_slC (sn_var (pv 1)) sp_none (sp_some (sn_var (pv 2)))) (sn_revC (sn_slC (sn_var (pv 1)) (sp_some (sn_var (pv 2))) (sp_some (sn_add false (sn_var (pv 2)) sn_int))))) (sn_slC (sn_var (pv 1)) (sp_some (sn_add false (sn_var (pv 2)) sn_int)) sp_none)))) sb_nil) (sb_cons (ss_if (st_cmp (op_eqP hu) op2_eq (nomark _) (sn_var (pv 3)) sn_int) (sb_one (ss_ret (sn_catC (sn_catC (sn_slC (sn_var (pv 1)) sp_none (sp_some (sn_var (pv 2)))) (sn_mulC (sn_slC (sn_var (pv 1)) (sp_some (sn_var (pv 2))) (sp_some (sn_add false (sn_var (pv 2)) sn_int))) sn_int)) (sn_slC (sn_var (pv 1)) (sp_some (sn_add false (sn_var (pv 2)) sn_int)) sp_none)))) sb_nil) (sb_cons (ss_if (st_cmp (op_eqP hu) op2_eq (nomark _) (sn_var (pv 3)) sn_int) (sb_one (ss_ret (sn_catC (sn_slC (sn_var (pv 1)) sp_none (sp_some (sn_var (pv 2)))) (sn_slC (sn_var (pv 1)) (sp_some (sn_add false (sn_var (pv 2)) sn_int)) sp_none)))) sb_nil) (sb_one (ss_ret (sn_ix (sn_lst false (sa_cons (sn_revC (sn_var (pv 1))) (sa_cons (sn_tupC (sa_cons (sn_var (pv 1)) (sa_cons (sn_var (pv 1)) sa_nil))) (sa_cons (sn_tupC (sa_cons (sn_var (pv 1)) sa_nil)) (sa_cons (sn_strL (by decide +kernel)) (sa_cons sn_int (sa_cons sn_non (sa_cons sn_bl (sa_cons (sn_tupC sa_nil) sa_nil))))))))) (sn_call (ok_law_draw T) (hr.mono (by decide)) rfl T.m_law_draw T.f_law_draw.kp T.b_law_draw .nil closed_nil passA (sa_cons (sn_var (pv 0)) (sa_cons sn_int sa_nil)))))))))))))
theorem ok_law_right (T : Tx K mg cl) : FnOk P w K mg base CX0 3 T.a_law_right T.d_law_right ["_law_thing"] (spOf ⟨K, cl⟩ 1 g_law_right) := by
  refine fn_def (B := B_law_right) T.f_law_right sc_law_right (fun cdv A outer s H E hr => ?_) (fun ds M _ => ref_run B_law_right 2 ds M)
  have hu := huE hr
  have hu1 := hu1E hr
  exact (sb_cons (ss_set (i := 1) (sn_call (ok_is_rights T) (hr.mono (by decide)) rfl T.m_is_rights T.f_is_rights.kp T.b_is_rights .nil closed_nil passA (sa_cons (sn_var (pv 0)) sa_nil)) sc_law_right.nd rfl (.inl rfl)) (sb_one (ss_ret (sn_and (sn_isi (T := "bool") rfl T.n_isinstance rfl T.n_bool (by decide +kernel) (by decide) (by decide) (by decide) (sn_var (pv 1))) (sn_and (sn_eq hu (sn_var (pv 1)) (sn_call (ok_law_due T) (hr.mono (by decide)) rfl T.m_law_due T.f_law_due.kp T.b_law_due .nil closed_nil passA (sa_cons (sn_var (pv 0)) sa_nil))) (sn_one (sn_eq hu (sn_call (ok_is_rights T) (hr.mono (by decide)) rfl T.m_is_rights T.f_is_rights.kp T.b_is_rights .nil closed_nil passA (sa_cons (sn_var (pv 0)) sa_nil)) (sn_var (pv 1)))))))))
theorem ok_law (T : Tx K mg cl) : FnOk P w K mg base CX0 4 T.a_law T.d_law ["_law_script"] (spOf ⟨K, cl⟩ 1 g_law) := by
  refine fn_def (B := B_law) T.f_law sc_law (fun cdv A outer s H E hr => ?_) (fun ds M _ => ref_run B_law 8 ds M)
  have hu := huE hr
  have hu1 := hu1E hr
  exact (sb_cons (ss_set (i := 1) (sn_lst true sa_nil) sc_law.nd rfl (.inl rfl)) (sb_cons (ss_for (sl := [2]) PassesOwn.never rfl (si_range1 rfl T.n_range (sa_cons (sn_callB (call_max2 rfl) fn_2I rfl T.n_max (by decide +kernel) (sa_cons sn_int (sa_cons (sn_callB call_lenA fn_len rfl T.n_len PySem.boot_len (sa_cons (sn_sl false (sn_var (pv 0)) sp_none (sp_some sn_int)) sa_nil)) sa_nil))) sa_nil)) (sg_name (pg_name (i := 2) sc_law.nd rfl (.inl rfl)) (by decide)) (sb_cons (ss_set (i := 3) (sn_call (ok_law_flow T) (hr.mono (by decide)) rfl T.m_law_flow T.f_law_flow.kp T.b_law_flow .nil closed_nil passA (sa_cons (sn_var (pv 0)) (sa_cons (sn_var (pv 2)) sa_nil))) sc_law.nd rfl (.inl rfl)) (sb_cons (ss_set (i := 4) (sn_callTy call_tuple_C fn_tupleC rfl T.n_tuple (by decide +kernel) (sa_cons (sn_callB (cr_sortedD hu) (fn_sorted (c := false)) rfl T.n_sorted (by decide +kernel) (sa_cons (sn_call (ok_law_names T) (hr.mono (by decide)) rfl T.m_law_names T.f_law_names.kp T.b_law_names .nil closed_nil passA (sa_cons (sn_var (pv 3)) (sa_cons (sn_add false sn_int (sn_call (ok_law_draw T) (hr.mono (by decide)) rfl T.m_law_draw T.f_law_draw.kp T.b_law_draw .nil closed_nil passA (sa_cons (sn_var (pv 3)) (sa_cons sn_int sa_nil)))) sa_nil))) sa_nil)) sa_nil)) sc_law.nd rfl (.inl rfl)) (sb_cons (ss_set (i := 5) (sn_var (pv 4)) sc_law.nd rfl (.inl rfl)) (sb_cons (ss_for (sl := [6]) PassesOwn.never rfl (si_range1 rfl T.n_range (sa_cons (sn_add false sn_int (sn_call (ok_law_draw T) (hr.mono (by decide)) rfl T.m_law_draw T.f_law_draw.kp T.b_law_draw .nil closed_nil passA (sa_cons (sn_var (pv 3)) (sa_cons sn_int sa_nil)))) sa_nil)) (sg_name (pg_name (i := 6) sc_law.nd rfl (.inl rfl)) (by decide)) (sb_cons (ss_set (i := 5) (sn_call (ok_law_other T) (hr.mono (by decide)) rfl T.m_law_other T.f_law_other.kp T.b_law_other .nil closed_nil passA (sa_cons (sn_var (pv 3)) (sa_cons (sn_var (pv 5)) sa_nil))) sc_law.nd rfl (.inl rfl)) (sb_one (ss_expr (sn_meth PySem.F.plainAttrs_list PySem.F.slot_list_append PySem.F.type_list_append mt_append mt1_append (sn_var (pv 1)) (sa_cons (sn_var (pv 5)) sa_nil)))))) (sb_one (ss_expr (sn_meth PySem.F.plainAttrs_list PySem.F.slot_list_append PySem.F.type_list_append mt_append mt1_append (sn_var (pv 1)) (sa_cons (sn_var (pv 4)) sa_nil))))))))) (sb_one (ss_ret (sn_callB (cr_all rfl) fn_allany rfl T.n_all (by decide +kernel) (sa_cons (sn_lc false (own := [("_law_thing", 7)]) rfl sc_law.nd (si_seq (sn_add false (sn_var (pv 1)) (sn_sl false (sn_var (pv 1)) sp_none (sp_some sn_int)))) (blkOk_by (N := ["_law_script", "_law_posed", "_law_k", "_law_flow_here", "_law_some", "_law_other_here", "_law_turn", "_law_thing"]) (sc := defScope s_law) (by decide +kernel)) (fun _ _ _ _ _ => (sg_name (pg_name (i := 7) sc_law.nd rfl (.inl rfl)) (by decide))) (fun _ _ _ _ _ => sts_nil) (fun _ _ _ _ _ => (sn_call (ok_law_right T) (hr.mono (by decide)) rfl T.m_law_right T.f_law_right.kp T.b_law_right .nil closed_nil passA (sa_cons (sn_var (pv 7)) sa_nil)))) sa_nil))))))
end
theorem all_mk {l : PySem.W.OpenLaw} {w : World} {K : PySem.W.Frag} {h : Heap} {mg : Str → Option Value} {fa : Addr} (X : K.In h) (G : h.Ns mainGlobals mg) (hfa : mg "law" = some (.ref fa))
    {f0 : Addr} {od0 an0 : Option Addr} {sl0 : Array (Option Value)} {oc0 dc0 pm0 cd0 ct0 : Value}
    {kV0 : Value}
    (a0 : PySem.W.nsIn K mainGlobals "is_name" = some (some (.ref f0))) (l0 : K.lookup f0 = some ⟨oc0, od0, .func (PySem.W.fnOf "is_name" "is_name" (defArgs s_is_name) (defBody s_is_name) (defScope s_is_name) .none kV0 dc0 pm0 an0 cd0 ct0), sl0⟩) (c0 : PySem.W.codeIn K cd0 "is_name" = true) (k0 : PySem.W.keepIn K (.ref f0) = true)
    {f1 : Addr} {od1 an1 : Option Addr} {sl1 : Array (Option Value)} {oc1 dc1 pm1 cd1 ct1 : Value}
    {kV1 : Value}
    (a1 : PySem.W.nsIn K mainGlobals "_law_cell" = some (some (.ref f1))) (l1 : K.lookup f1 = some ⟨oc1, od1, .func (PySem.W.fnOf "_law_cell" "_law_cell" (defArgs s_law_cell) (defBody s_law_cell) (defScope s_law_cell) .none kV1 dc1 pm1 an1 cd1 ct1), sl1⟩) (c1 : PySem.W.codeIn K cd1 "_law_cell" = true) (k1 : PySem.W.keepIn K (.ref f1) = true)
    {f2 : Addr} {od2 an2 : Option Addr} {sl2 : Array (Option Value)} {oc2 dc2 pm2 cd2 ct2 : Value}
    {kV2 : Value}
    (a2 : PySem.W.nsIn K mainGlobals "_law_draw" = some (some (.ref f2))) (l2 : K.lookup f2 = some ⟨oc2, od2, .func (PySem.W.fnOf "_law_draw" "_law_draw" (defArgs s_law_draw) (defBody s_law_draw) (defScope s_law_draw) .none kV2 dc2 pm2 an2 cd2 ct2), sl2⟩) (c2 : PySem.W.codeIn K cd2 "_law_draw" = true) (k2 : PySem.W.keepIn K (.ref f2) = true)
    {f3 : Addr} {od3 an3 : Option Addr} {sl3 : Array (Option Value)} {oc3 dc3 pm3 cd3 ct3 : Value}
    {kV3 : Value}
    (a3 : PySem.W.nsIn K mainGlobals "_law_is_name" = some (some (.ref f3))) (l3 : K.lookup f3 = some ⟨oc3, od3, .func (PySem.W.fnOf "_law_is_name" "_law_is_name" (defArgs s_law_is_name) (defBody s_law_is_name) (defScope s_law_is_name) .none kV3 dc3 pm3 an3 cd3 ct3), sl3⟩) (c3 : PySem.W.codeIn K cd3 "_law_is_name" = true) (k3 : PySem.W.keepIn K (.ref f3) = true)
    {f4 : Addr} {od4 an4 : Option Addr} {sl4 : Array (Option Value)} {oc4 dc4 pm4 cd4 ct4 : Value}
    {kV4 : Value}
    (a4 : PySem.W.nsIn K mainGlobals "is_rights" = some (some (.ref f4))) (l4 : K.lookup f4 = some ⟨oc4, od4, .func (PySem.W.fnOf "is_rights" "is_rights" (defArgs s_is_rights) (defBody s_is_rights) (defScope s_is_rights) .none kV4 dc4 pm4 an4 cd4 ct4), sl4⟩) (c4 : PySem.W.codeIn K cd4 "is_rights" = true) (k4 : PySem.W.keepIn K (.ref f4) = true)
    {f5 : Addr} {od5 an5 : Option Addr} {sl5 : Array (Option Value)} {oc5 dc5 pm5 cd5 ct5 : Value}
    {kV5 : Value}
    (a5 : PySem.W.nsIn K mainGlobals "_law_flow" = some (some (.ref f5))) (l5 : K.lookup f5 = some ⟨oc5, od5, .func (PySem.W.fnOf "_law_flow" "_law_flow" (defArgs s_law_flow) (defBody s_law_flow) (defScope s_law_flow) .none kV5 dc5 pm5 an5 cd5 ct5), sl5⟩) (c5 : PySem.W.codeIn K cd5 "_law_flow" = true) (k5 : PySem.W.keepIn K (.ref f5) = true)
    {f6 : Addr} {od6 an6 : Option Addr} {sl6 : Array (Option Value)} {oc6 dc6 pm6 cd6 ct6 : Value}
    {kV6 : Value}
    (a6 : PySem.W.nsIn K mainGlobals "_law_names" = some (some (.ref f6))) (l6 : K.lookup f6 = some ⟨oc6, od6, .func (PySem.W.fnOf "_law_names" "_law_names" (defArgs s_law_names) (defBody s_law_names) (defScope s_law_names) .none kV6 dc6 pm6 an6 cd6 ct6), sl6⟩) (c6 : PySem.W.codeIn K cd6 "_law_names" = true) (k6 : PySem.W.keepIn K (.ref f6) = true)
    {f7 : Addr} {od7 an7 : Option Addr} {sl7 : Array (Option Value)} {oc7 dc7 pm7 cd7 ct7 : Value}
    {kV7 : Value}
    (a7 : PySem.W.nsIn K mainGlobals "_law_due" = some (some (.ref f7))) (l7 : K.lookup f7 = some ⟨oc7, od7, .func (PySem.W.fnOf "_law_due" "_law_due" (defArgs s_law_due) (defBody s_law_due) (defScope s_law_due) .none kV7 dc7 pm7 an7 cd7 ct7), sl7⟩) (c7 : PySem.W.codeIn K cd7 "_law_due" = true) (k7 : PySem.W.keepIn K (.ref f7) = true)
    {f8 : Addr} {od8 an8 : Option Addr} {sl8 : Array (Option Value)} {oc8 dc8 pm8 cd8 ct8 : Value}
    {kV8 : Value}
    (a8 : PySem.W.nsIn K mainGlobals "_law_other" = some (some (.ref f8))) (l8 : K.lookup f8 = some ⟨oc8, od8, .func (PySem.W.fnOf "_law_other" "_law_other" (defArgs s_law_other) (defBody s_law_other) (defScope s_law_other) .none kV8 dc8 pm8 an8 cd8 ct8), sl8⟩) (c8 : PySem.W.codeIn K cd8 "_law_other" = true) (k8 : PySem.W.keepIn K (.ref f8) = true)
    {f9 : Addr} {od9 an9 : Option Addr} {sl9 : Array (Option Value)} {oc9 dc9 pm9 cd9 ct9 : Value}
    {kV9 : Value}
    (a9 : PySem.W.nsIn K mainGlobals "_law_right" = some (some (.ref f9))) (l9 : K.lookup f9 = some ⟨oc9, od9, .func (PySem.W.fnOf "_law_right" "_law_right" (defArgs s_law_right) (defBody s_law_right) (defScope s_law_right) .none kV9 dc9 pm9 an9 cd9 ct9), sl9⟩) (c9 : PySem.W.codeIn K cd9 "_law_right" = true) (k9 : PySem.W.keepIn K (.ref f9) = true)
    {f10 : Addr} {od10 an10 : Option Addr} {sl10 : Array (Option Value)} {oc10 dc10 pm10 cd10 ct10 : Value}
    {kV10 : Value}
    (a10 : PySem.W.nsIn K mainGlobals "law" = some (some (.ref f10))) (l10 : K.lookup f10 = some ⟨oc10, od10, .func (PySem.W.fnOf "law" "law" (defArgs s_law) (defBody s_law) (defScope s_law) .none kV10 dc10 pm10 an10 cd10 ct10), sl10⟩) (c10 : PySem.W.codeIn K cd10 "law" = true) (k10 : PySem.W.keepIn K (.ref f10) = true)
    (z_all : PySem.W.nsIn K mainGlobals "all" = some none)
    (z_bool : PySem.W.nsIn K mainGlobals "bool" = some none)
    (z_isinstance : PySem.W.nsIn K mainGlobals "isinstance" = some none)
    (z_len : PySem.W.nsIn K mainGlobals "len" = some none)
    (z_list : PySem.W.nsIn K mainGlobals "list" = some none)
    (z_max : PySem.W.nsIn K mainGlobals "max" = some none)
    (z_range : PySem.W.nsIn K mainGlobals "range" = some none)
    (z_sorted : PySem.W.nsIn K mainGlobals "sorted" = some none)
    (z_str : PySem.W.nsIn K mainGlobals "str" = some none)
    (z_tuple : PySem.W.nsIn K mainGlobals "tuple" = some none)
    {t_LETTERS : Tok} (v_LETTERS : PySem.W.nsIn K mainGlobals "LETTERS" = some (some (.str "abcdefghijklmnopqrstuvwxyz" t_LETTERS)))
    {t_LONGEST : Tok} (v_LONGEST : PySem.W.nsIn K mainGlobals "LONGEST" = some (some (.int 6 t_LONGEST))) :
    ∃ fd : FuncData, (∀ (s : Shared) (v : Value), BindsTo s fd ⟨[v], []⟩ [("_law_script", v)]) ∧ ∀ base : Heap, K.In base → base.Ns mainGlobals mg → FnOk l.prog w K mg base CX0 4 fa fd ["_law_script"] (fun vs H Q E => ∀ cl, spOf ⟨K, cl⟩ 1 g_law vs H Q E) := by
  have e := hfa.symm.trans (PySem.W.mg_of X G a10)
  cases e
  have F0 := fun_mk (st := s_is_name) l0 c0 k0
  have F1 := fun_mk (st := s_law_cell) l1 c1 k1
  have F2 := fun_mk (st := s_law_draw) l2 c2 k2
  have F3 := fun_mk (st := s_law_is_name) l3 c3 k3
  have F4 := fun_mk (st := s_is_rights) l4 c4 k4
  have F5 := fun_mk (st := s_law_flow) l5 c5 k5
  have F6 := fun_mk (st := s_law_names) l6 c6 k6
  have F7 := fun_mk (st := s_law_due) l7 c7 k7
  have F8 := fun_mk (st := s_law_other) l8 c8 k8
  have F9 := fun_mk (st := s_law_right) l9 c9 k9
  have F10 := fun_mk (st := s_law) l10 c10 k10
  let T : Tx K mg (fun _ => 0) := { a_is_name := _, d_is_name := _, f_is_name := F0, m_is_name := PySem.W.mg_of X G a0, b_is_name := F0.binds (ps := ["text"]) (fun _ _ _ _ _ _ us hl => (match us, hl with | [_], _ => rfl)), a_law_cell := _, d_law_cell := _, f_law_cell := F1, m_law_cell := PySem.W.mg_of X G a1, b_law_cell := F1.binds (ps := ["_law_script", "_law_k"]) (fun _ _ _ _ _ _ us hl => (match us, hl with | [_, _], _ => rfl)), a_law_draw := _, d_law_draw := _, f_law_draw := F2, m_law_draw := PySem.W.mg_of X G a2, b_law_draw := F2.binds (ps := ["_law_flow_here", "_law_many"]) (fun _ _ _ _ _ _ us hl => (match us, hl with | [_, _], _ => rfl)), a_law_is_name := _, d_law_is_name := _, f_law_is_name := F3, m_law_is_name := PySem.W.mg_of X G a3, b_law_is_name := F3.binds (ps := ["_law_thing"]) (fun _ _ _ _ _ _ us hl => (match us, hl with | [_], _ => rfl)), a_is_rights := _, d_is_rights := _, f_is_rights := F4, m_is_rights := PySem.W.mg_of X G a4, b_is_rights := F4.binds (ps := ["thing"]) (fun _ _ _ _ _ _ us hl => (match us, hl with | [_], _ => rfl)), a_law_flow := _, d_law_flow := _, f_law_flow := F5, m_law_flow := PySem.W.mg_of X G a5, b_law_flow := F5.binds (ps := ["_law_script", "_law_k"]) (fun _ _ _ _ _ _ us hl => (match us, hl with | [_, _], _ => rfl)), a_law_names := _, d_law_names := _, f_law_names := F6, m_law_names := PySem.W.mg_of X G a6, b_law_names := F6.binds (ps := ["_law_flow_here", "_law_many"]) (fun _ _ _ _ _ _ us hl => (match us, hl with | [_, _], _ => rfl)), a_law_due := _, d_law_due := _, f_law_due := F7, m_law_due := PySem.W.mg_of X G a7, b_law_due := F7.binds (ps := ["_law_thing"]) (fun _ _ _ _ _ _ us hl => (match us, hl with | [_], _ => rfl)), a_law_other := _, d_law_other := _, f_law_other := F8, m_law_other := PySem.W.mg_of X G a8, b_law_other := F8.binds (ps := ["_law_flow_here", "_law_some"]) (fun _ _ _ _ _ _ us hl => (match us, hl with | [_, _], _ => rfl)), a_law_right := _, d_law_right := _, f_law_right := F9, m_law_right := PySem.W.mg_of X G a9, b_law_right := F9.binds (ps := ["_law_thing"]) (fun _ _ _ _ _ _ us hl => (match us, hl with | [_], _ => rfl)), a_law := _, d_law := _, f_law := F10, m_law := PySem.W.mg_of X G a10, b_law := F10.binds (ps := ["_law_script"]) (fun _ _ _ _ _ _ us hl => (match us, hl with | [_], _ => rfl)), n_all := PySem.W.mg_none_of X G z_all, n_bool := PySem.W.mg_none_of X G z_bool, n_isinstance := PySem.W.mg_none_of X G z_isinstance, n_len := PySem.W.mg_none_of X G z_len, n_list := PySem.W.mg_none_of X G z_list, n_max := PySem.W.mg_none_of X G z_max, n_range := PySem.W.mg_none_of X G z_range, n_sorted := PySem.W.mg_none_of X G z_sorted, n_str := PySem.W.mg_none_of X G z_str, n_tuple := PySem.W.mg_none_of X G z_tuple, v_LETTERS := ⟨_, PySem.W.mg_of X G v_LETTERS, _, by rw [show l2s [97, 98, 99, 100, 101, 102, 103, 104, 105, 106, 107, 108, 109, 110, 111, 112, 113, 114, 115, 116, 117, 118, 119, 120, 121, 122] = ("abcdefghijklmnopqrstuvwxyz" : Str) from by decide +kernel]⟩, v_LONGEST := ⟨_, PySem.W.mg_of X G v_LONGEST, _, rfl⟩ }
  exact ⟨_, fun s v => .of_eq rfl, fun base _ _ => (ok_law T).imp fun vs H Q E h => h _⟩
end K03
open PySem PySem.W PyProof.Rows
set_option maxHeartbeats 0 in
theorem PySem.Challenge.cw_grantchain_k03_rights_holds : PySem.Challenge.rw_grantchain_k03_rights.Holds := by
  w_on; o_law; k_head; (case hw => w_witness2)
  k_fill
  refine L2.walk_of (l := PySem.Challenge.rw_grantchain_k03_rights) (n := 63) (k := 4) (x := "_law_script") (CX := fun _ => L2.CX0) (sp := fun w vs H Q E => ∀ cl, Fn.spOf ⟨_, cl⟩ 1 K03.g_law vs H Q E) rfl (by decide) rfl ⟨rfl, by decide, by decide⟩ (fun w h Y => PySem.W.kIn_of Y) ?F (fun w H a ns hl ho hS cl => Fn.law_end K03.law_holds hl ho hS) (fun _ _ _ _ _ h => h)
  case F =>
    intro w mg fa h KX G hmg
    refine' K03.all_mk KX G hmg ?a0 ?l0 ?c0 ?k0 ?a1 ?l1 ?c1 ?k1 ?a2 ?l2 ?c2 ?k2 ?a3 ?l3 ?c3 ?k3 ?a4 ?l4 ?c4 ?k4 ?a5 ?l5 ?c5 ?k5 ?a6 ?l6 ?c6 ?k6 ?a7 ?l7 ?c7 ?k7 ?a8 ?l8 ?c8 ?k8 ?a9 ?l9 ?c9 ?k9 ?a10 ?l10 ?c10 ?k10 ?z_all ?z_bool ?z_isinstance ?z_len ?z_list ?z_max ?z_range ?z_sorted ?z_str ?z_tuple ?v_LETTERS ?v_LONGEST
    (case a0 => k_is); (case l0 => k_is); (case c0 => k_is); (case k0 => k_is); (case a1 => k_is); (case l1 => k_is); (case c1 => k_is); (case k1 => k_is); (case a2 => k_is); (case l2 => k_is); (case c2 => k_is); (case k2 => k_is); (case a3 => k_is); (case l3 => k_is); (case c3 => k_is); (case k3 => k_is); (case a4 => k_is); (case l4 => k_is); (case c4 => k_is); (case k4 => k_is); (case a5 => k_is); (case l5 => k_is); (case c5 => k_is); (case k5 => k_is); (case a6 => k_is); (case l6 => k_is); (case c6 => k_is); (case k6 => k_is); (case a7 => k_is); (case l7 => k_is); (case c7 => k_is); (case k7 => k_is); (case a8 => k_is); (case l8 => k_is); (case c8 => k_is); (case k8 => k_is); (case a9 => k_is); (case l9 => k_is); (case c9 => k_is); (case k9 => k_is); (case a10 => k_is); (case l10 => k_is); (case c10 => k_is); (case k10 => k_is); (case z_all => k_is); (case z_bool => k_is); (case z_isinstance => k_is); (case z_len => k_is); (case z_list => k_is); (case z_max => k_is); (case z_range => k_is); (case z_sorted => k_is); (case z_str => k_is); (case z_tuple => k_is); (case v_LETTERS => k_is); (case v_LONGEST => k_is)
